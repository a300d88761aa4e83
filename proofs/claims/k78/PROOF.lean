import PyProof.Rows.All
import Wide.All
import OpenK.AllK
import Wide.FinOn
import HandS.ForMost
import HandS.Deep
import HandS.IsInst
import HandS.TupAny
import HandS.TupMul
import HandS.Style
import HandS.WrittenGet
import HandS.HeadHook3
import HandS.Head0
import HandS.Head1
import HandS.Head2
import HandS.HeadEnd
import HandS.HeadHook1
import HandS.HeadHook2
import Wide.Once
import KE.KStateDown
import PySem.Challenge.RW_justtherest_k78_lists_split
set_option linter.all false
set_option Elab.async false
/-! The small language J: what the law's defs are read as, and its evaluator. -/
namespace J

/-- data: what never changes -/
inductive D where
  | none
  | b (x : Bool)
  | i (x : Int)
  | s (x : String)
  | t (xs : List D)
  | fl (xs : List D)
  deriving Inhabited

/-- values: data, or a live list by its number -/
inductive W where
  | d (x : D)
  | l (a : Nat)
  deriving Inhabited

abbrev SZ : Nat := 16777216
abbrev LH := List (List W)
abbrev Env := List (Option W)

mutual
def eqv : D → D → Bool
  | .none, .none => true
  | .b a, .b c => a == c
  | .b a, .i j => (if a then 1 else 0) == j
  | .i k, .b c => k == (if c then 1 else 0)
  | .i k, .i j => k == j
  | .s x, .s y => x == y
  | .t xs, .t ys => eqvL xs ys
  | .fl xs, .fl ys => eqvL xs ys
  | _, _ => false
def eqvL : List D → List D → Bool
  | [], [] => true
  | x :: xs, y :: ys => eqv x y && eqvL xs ys
  | _, _ => false
end
mutual
def depth : D → Nat
  | .t xs => depthL xs + 1
  | .fl xs => depthL xs + 1
  | _ => 0
def depthL : List D → Nat
  | [] => 0
  | x :: xs => max (depth x) (depthL xs)
end

inductive BOp | add | sub | mul | fdiv | mod | pow
inductive COp | lt | le | gt | ge | eq | ne | isin | nin
inductive Bi | len | isInt | isBool | isStr | isTuple | isList | tuple | list | int | max2 | min2 | maxL | minL | all | any | sorted | sortedSet | lenSet | sum | bool | abs | str | repr
inductive Me | append | extend | pop | popAt | insert | reverse | index | count | add

inductive Tg where
  | n (i : Nat)
  | t (is : List Nat)

mutual
inductive E where
  | var (i : Nat)
  | c (x : D)
  | glob (g : Nat)
  | tup (es : List E)
  | lst (es : List E)
  | bin (op : BOp) (x y : E)
  | neg (x : E)
  | not (x : E)
  | cmp (op : COp) (x y : E)
  | chain (o1 o2 : COp) (x y z : E)
  | isN (x : E)
  | isNN (x : E)
  | and (x y : E)
  | or (x y : E)
  | ite (c x y : E)
  | ix (x i : E)
  | dix (g : Nat) (i : E)
  | sl (x : E) (lo hi : Option E)
  | rev (x : E)
  | call (f : Nat) (es : List E)
  | bi (f : Bi) (es : List E)
  | meth (m : Me) (x : E) (es : List E)
  | comp (elt : E) (tg : Tg) (it : It) (c : Option E)
  | comp2 (elt : E) (tg : Tg) (it : It) (tg1 : Tg) (it1 : It) (c : Option E)
inductive It where
  | r1 (x : E)
  | r2 (x y : E)
  | sq (x : E)
end

inductive S where
  | asg (tg : Tg) (e : E)
  | par (i j : Nat) (x y : E)
  | setix (o i e : E)
  | aug (op : BOp) (i : Nat) (e : E)
  | ife (c : E) (x y : List S)
  | for (tg : Tg) (it : It) (body : List S)
  | whl (c : E) (body : List S)
  | ret (e : E)
  | retN
  | ex (e : E)
  | brk
  | cnt
  | pass
  | doc
  | never

inductive Fl where
  | nxt | brk | cnt
  | ret (w : W)

/-! ### operations on values -/
def allD : List W → Option (List D)
  | [] => some []
  | .d x :: r => match allD r with
    | some xs => some (x :: xs)
    | none => none
  | .l _ :: _ => none
def items (h : LH) : W → Option (List W)
  | .d (.t xs) => some (xs.map .d)
  | .d (.fl xs) => some (xs.map .d)
  | .l a => h[a]?
  | _ => none
def new (h : LH) (ws : List W) : Option (W × LH) := if ws.length ≤ SZ then some (.l h.length, h ++ [ws]) else none
def mkT (h : LH) (ws : List W) : Option (W × LH) := match allD ws with
  | some xs => if xs.length ≤ SZ then some (.d (.t xs), h) else none
  | none => none
/-- may a value be stored in the cell a -/
def okIn (a : Nat) : W → Bool
  | .d _ => true
  | .l b => decide (b < a)
def okAll (a : Nat) : List W → Bool
  | [] => true
  | w :: r => okIn a w && okAll a r

def rep {α : Type} (xs : List α) : Nat → List α
  | 0 => []
  | n + 1 => xs ++ rep xs n
def binop (h : LH) : BOp → W → W → Option (W × LH)
  | .add, .d (.i x), .d (.i y) => some (.d (.i (x + y)), h)
  | .add, .d (.t xs), .d (.t ys) => if xs.length + ys.length ≤ SZ then some (.d (.t (xs ++ ys)), h) else none
  | .add, .d (.s x), .d (.s y) => if x.length + y.length ≤ SZ then some (.d (.s (x ++ y)), h) else none
  | .add, .l a, .l c => match h[a]?, h[c]? with
    | some xs, some ys => if xs.length + ys.length ≤ SZ then some (.l h.length, h ++ [xs ++ ys]) else none
    | _, _ => none
  | .sub, .d (.i x), .d (.i y) => some (.d (.i (x - y)), h)
  | .mul, .d (.i x), .d (.i y) => if (-(2 ^ 64) < x ∧ x < 2 ^ 64) ∨ (-(2 ^ 64) < y ∧ y < 2 ^ 64) then some (.d (.i (x * y)), h) else none
  | .mul, .d (.t xs), .d (.i n) => if xs.length ≤ 1000 ∧ 1 ≤ n ∧ n ≤ 1000 then some (.d (.t (rep xs n.toNat)), h) else none
  | .mul, .l a, .d (.i n) => match h[a]? with
    | some xs => if xs.length * n.toNat ≤ SZ ∧ -SZ ≤ n ∧ n ≤ SZ then some (.l h.length, h ++ [rep xs n.toNat]) else none
    | none => none
  | .fdiv, .d (.i x), .d (.i y) => if 0 < y ∧ y < 1073741824 then some (.d (.i (x / y)), h) else none
  | .mod, .d (.i x), .d (.i y) => if 0 < y then some (.d (.i (x % y)), h) else none
  | .pow, .d (.i x), .d (.i y) => if 0 ≤ y ∧ y ≤ 1000000 ∧ x.natAbs < 2 ^ 64 then some (.d (.i (x ^ y.toNat)), h) else none
  | _, _, _ => none
def eqW (h : LH) : W → W → Option Bool
  | .d x, .d y => if min (depth x) (depth y) ≤ 64 then some (eqv x y) else none
  | .l a, .l c => match h[a]?, h[c]? with
    | some us, some ws => match allD us, allD ws with
      | some xs, some ys => if min (depthL xs) (depthL ys) < 64 then some (eqvL xs ys) else none
      | _, _ => none
    | _, _ => none
  | _, _ => none
def inW (h : LH) (x : W) (y : W) : Option Bool := match x, items h y with
  | .d x, some ws => match allD ws with
    | some xs => if depth x ≤ 64 then some (xs.any fun z => eqv z x) else none
    | none => none
  | _, _ => none
def cmpop (h : LH) : COp → W → W → Option Bool
  | .lt, .d (.i x), .d (.i y) => some (decide (x < y))
  | .le, .d (.i x), .d (.i y) => some (decide (x ≤ y))
  | .gt, .d (.i x), .d (.i y) => some (decide (y < x))
  | .ge, .d (.i x), .d (.i y) => some (decide (y ≤ x))
  | .eq, x, y => eqW h x y
  | .ne, x, y => (eqW h x y).map (!·)
  | .isin, x, y => inW h x y
  | .nin, x, y => (inW h x y).map (!·)
  | _, _, _ => none
def bl (h : LH) (x : Bool) : Option (W × LH) := some (.d (.b x), h)
/-- the place of an index -/
def ixN (n : Nat) (i : Int) : Option Nat := if 0 ≤ i then (if i < n then some i.toNat else none) else if 0 ≤ i + n then some (i + n).toNat else none
def index (h : LH) (x : W) (i : W) : Option (W × LH) := match i, items h x with
  | .d (.i i), some ws => match ixN ws.length i with
    | some k => match ws[k]? with
      | some w => some (w, h)
      | none => none
    | none => none
  | _, _ => none
/-- a slice's end -/
def cutAt (n : Nat) (i : Int) : Nat := if i < 0 then (i + n).toNat else min i.toNat n
def cutL {α : Type} (xs : List α) (lo hi : Option Int) : List α :=
  let a := match lo with
    | some i => cutAt xs.length i
    | none => 0
  let z := match hi with
    | some i => cutAt xs.length i
    | none => xs.length
  (xs.take z).drop a
def slice (h : LH) (x : W) (lo hi : Option Int) : Option (W × LH) := match x with
  | .d (.t xs) => some (.d (.t (cutL xs lo hi)), h)
  | .d (.fl xs) => some (.l h.length, h ++ [(cutL xs lo hi).map .d])
  | .l a => match h[a]? with
    | some ws => some (.l h.length, h ++ [cutL ws lo hi])
    | none => none
  | _ => none
def revW (h : LH) (x : W) : Option (W × LH) := match x with
  | .d (.fl xs) => some (.l h.length, h ++ [(xs.map .d).reverse])
  | .l a => match h[a]? with
    | some ws => some (.l h.length, h ++ [ws.reverse])
    | none => none
  | _ => none
def isIntW : W → Bool
  | .d (.i _) => true
  | .d (.b _) => true
  | _ => false
def isBoolW : W → Bool
  | .d (.b _) => true
  | _ => false
def isStrW : W → Bool
  | .d (.s _) => true
  | _ => false
def isTupleW : W → Bool
  | .d (.t _) => true
  | _ => false
def isListW : W → Bool
  | .d (.fl _) => true
  | .l _ => true
  | _ => false
def bools : List W → Option (List Bool)
  | [] => some []
  | .d (.b x) :: r => match bools r with
    | some xs => some (x :: xs)
    | none => none
  | _ => none
def intsL : List W → Option (List Int)
  | [] => some []
  | .d (.i x) :: r => match intsL r with
    | some xs => some (x :: xs)
    | none => none
  | _ => none
/-- ascending, each once -/
def insI (x : Int) : List Int → List Int
  | [] => [x]
  | y :: r => if x < y then x :: y :: r else if x = y then y :: r else y :: insI x r
def sortI (xs : List Int) : List Int := xs.foldr insI []
def insJ (x : Int) : List Int → List Int
  | [] => [x]
  | y :: r => if x ≤ y then x :: y :: r else y :: insJ x r
def sortJ (xs : List Int) : List Int := xs.foldr insJ []
def maxI : List Int → Option Int
  | [] => none
  | x :: r => some (r.foldl (fun a y => if y > a then y else a) x)
def minI : List Int → Option Int
  | [] => none
  | x :: r => some (r.foldl (fun a y => if y < a then y else a) x)
def builtin (h : LH) : Bi → List W → Option (W × LH)
  | .len, [.d (.s x)] => some (.d (.i x.length), h)
  | .len, [x] => match items h x with
    | some ws => some (.d (.i ws.length), h)
    | none => none
  | .isInt, [x] => bl h (isIntW x)
  | .isBool, [x] => bl h (isBoolW x)
  | .isStr, [x] => bl h (isStrW x)
  | .isTuple, [x] => bl h (isTupleW x)
  | .isList, [x] => bl h (isListW x)
  | .tuple, [x] => match items h x with
    | some ws => mkT h ws
    | none => none
  | .list, [x] => match items h x with
    | some ws => new h ws
    | none => none
  | .int, [.d (.i x)] => some (.d (.i x), h)
  | .int, [.d (.b x)] => some (.d (.i (if x then 1 else 0)), h)
  | .bool, [.d (.i x)] => bl h (x != 0)
  | .bool, [.d (.b x)] => bl h x
  | .max2, [.d (.i x), .d (.i y)] => some (.d (.i (if y > x then y else x)), h)
  | .min2, [.d (.i x), .d (.i y)] => some (.d (.i (if y < x then y else x)), h)
  | .maxL, [.l a] => match h[a]? with
    | some ws => match intsL ws with
      | some xs => match maxI xs with
        | some m => some (.d (.i m), h)
        | none => none
      | none => none
    | none => none
  | .all, [.l a] => match h[a]? with
    | some ws => match bools ws with
      | some xs => bl h (xs.all id)
      | none => none
    | none => none
  | .any, [.l a] => match h[a]? with
    | some ws => match bools ws with
      | some xs => bl h (xs.any id)
      | none => none
    | none => none
  | .sortedSet, [x] => match items h x with
    | some ws => match intsL ws with
      | some xs => some (.l h.length, h ++ [(sortI xs).map (fun x => .d (.i x))])
      | none => none
    | none => none
  | .sorted, [x] => match items h x with
    | some ws => match intsL ws with
      | some xs => some (.l h.length, h ++ [(sortJ xs).map (fun x => .d (.i x))])
      | none => none
    | none => none
  | .abs, [.d (.i x)] => some (.d (.i (if x < 0 then -x else x)), h)
  | _, _ => none
def method (h : LH) : Me → W → List W → Option (W × LH)
  | .append, .l a, [w] => match h[a]? with
    | some ws => if okIn a w ∧ ws.length < SZ then some (.d .none, h.set a (ws ++ [w])) else none
    | none => none
  | .extend, .l a, [.l c] => match h[a]?, h[c]? with
    | some ws, some us => if okAll a us ∧ ws.length + us.length ≤ SZ then some (.d .none, h.set a (ws ++ us)) else none
    | _, _ => none
  | .pop, .l a, [] => match h[a]? with
    | some ws => match ws.getLast? with
      | some w => some (w, h.set a ws.dropLast)
      | none => none
    | none => none
  | .insert, .l a, [.d (.i i), w] => match h[a]? with
    | some ws => if okIn a w ∧ ws.length < SZ ∧ 0 ≤ i ∧ i ≤ SZ then some (.d .none, h.set a (ws.take i.toNat ++ [w] ++ ws.drop i.toNat)) else none
    | none => none
  | .reverse, .l a, [] => match h[a]? with
    | some ws => some (.d .none, h.set a ws.reverse)
    | none => none
  | .index, .l a, [.d x] => match h[a]? with
    | some ws => match allD ws with
      | some xs => if depth x ≤ 64 then match xs.findIdx? (fun z => eqv z x) with
          | some k => some (.d (.i k), h)
          | none => none
        else none
      | none => none
    | none => none
  | _, _, _ => none
def setAt (h : LH) (o i w : W) : Option LH := match o, i with
  | .l a, .d (.i i) => match h[a]? with
    | some ws => match ixN ws.length i with
      | some k => if okIn a w then some (h.set a (ws.set k w)) else none
      | none => none
    | none => none
  | _, _ => none
/-- a op= b -/
def augop (h : LH) (op : BOp) (x y : W) : Option (W × LH) := match op, x with
  | .add, .l a => match y with
    | .l c => match h[a]?, h[c]? with
      | some ws, some us => if okAll a us ∧ ws.length + us.length ≤ SZ then some (.l a, h.set a (ws ++ us)) else none
      | _, _ => none
    | _ => none
  | .add, .d _ => binop h .add x y
  | .sub, .d _ => binop h .sub x y
  | _, _ => none

def setMany : List Nat → List D → Env → Env
  | i :: is, x :: xs, ρ => setMany is xs (ρ.set i (some (.d x)))
  | _, _, ρ => ρ
def setT : Tg → W → Env → Option Env
  | .n i, w, ρ => some (ρ.set i (some w))
  | .t is, .d (.t xs), ρ => if xs.length = is.length then some (setMany is xs ρ) else none
  | .t _, _, _ => none
def Tg.slots : Tg → List Nat
  | .n i => [i]
  | .t is => is
def wipe (ρ : Env) : List Nat → Env
  | [] => ρ
  | i :: r => (wipe ρ r).set i none

/-! ### loops -/
def forItems (f : W → Env → LH → Option (Fl × Env × LH)) : List W → Env → LH → Option (Fl × Env × LH)
  | [], ρ, h => some (.nxt, ρ, h)
  | x :: xs, ρ, h => match f x ρ h with
    | some (.nxt, ρ', h') => forItems f xs ρ' h'
    | some (.cnt, ρ', h') => forItems f xs ρ' h'
    | some (.brk, ρ', h') => some (.nxt, ρ', h')
    | some (.ret w, ρ', h') => some (.ret w, ρ', h')
    | none => none
def forLive (f : W → Env → LH → Option (Fl × Env × LH)) (a : Nat) : Nat → Nat → Env → LH → Option (Fl × Env × LH)
  | 0, _, _, _ => none
  | n + 1, i, ρ, h => match h[a]? with
    | none => none
    | some ws => match ws[i]? with
      | none => some (.nxt, ρ, h)
      | some x => match f x ρ h with
        | some (.nxt, ρ', h') => forLive f a n (i + 1) ρ' h'
        | some (.cnt, ρ', h') => forLive f a n (i + 1) ρ' h'
        | some (.brk, ρ', h') => some (.nxt, ρ', h')
        | some (.ret w, ρ', h') => some (.ret w, ρ', h')
        | none => none
def whileF (c : Env → LH → Option (Bool × LH)) (f : Env → LH → Option (Fl × Env × LH)) : Nat → Env → LH → Option (Fl × Env × LH)
  | 0, _, _ => none
  | n + 1, ρ, h => match c ρ h with
    | none => none
    | some (false, h') => some (.nxt, ρ, h')
    | some (true, h') => match f ρ h' with
      | some (.nxt, ρ', h'') => whileF c f n ρ' h''
      | some (.cnt, ρ', h'') => whileF c f n ρ' h''
      | some (.brk, ρ', h'') => some (.nxt, ρ', h'')
      | some (.ret w, ρ', h'') => some (.ret w, ρ', h'')
      | none => none
/-- a comprehension's turns: f gives the acc behind one more item -/
def compItems (f : W → List W → LH → Option (List W × LH)) : List W → List W → LH → Option (List W × LH)
  | [], acc, h => some (acc, h)
  | x :: xs, acc, h => match f x acc h with
    | some (acc', h') => compItems f xs acc' h'
    | none => none
def compLive (f : W → List W → LH → Option (List W × LH)) (a : Nat) : Nat → Nat → List W → LH → Option (List W × LH)
  | 0, _, _, _ => none
  | n + 1, i, acc, h => match h[a]? with
    | none => none
    | some ws => match ws[i]? with
      | none => some (acc, h)
      | some x => match f x acc h with
        | some (acc', h') => compLive f a n (i + 1) acc' h'
        | none => none
def range (lo hi : Int) : List W := (List.range (hi - lo).toNat).map fun (k : Nat) => .d (.i (lo + (k : Int)))
/-- what is walked: items, or a live list -/
inductive Src where
  | its (ws : List W)
  | live (a n : Nat)
def srcOf (h : LH) : W → Option Src
  | .d (.t xs) => some (.its (xs.map .d))
  | .d (.fl xs) => some (.its (xs.map .d))
  | .l a => match h[a]? with
    | some ws => some (.live a ws.length)
    | none => none
  | _ => none
def forSrc (f : W → Env → LH → Option (Fl × Env × LH)) : Src → Env → LH → Option (Fl × Env × LH)
  | .its ws => forItems f ws
  | .live a n => forLive f a (n + 1) 0
def compSrc (f : W → List W → LH → Option (List W × LH)) : Src → List W → LH → Option (List W × LH)
  | .its ws => compItems f ws
  | .live a n => compLive f a (n + 1) 0

structure Ctx where
  G : Nat → Option D
  T : Nat → String → Option D
  cl : Nat → List W → LH → Option (W × LH)
  wf : Nat

/-- a test's value -/
def asB : Option (W × LH) → Option (Bool × LH)
  | some (.d (.b x), h) => some (x, h)
  | _ => none
/-- one turn of a comprehension -/
def turn (tg : Tg) (ρ : Env) (c : Env → LH → Option (Bool × LH)) (elt : Env → LH → Option (W × LH)) (x : W) (acc : List W) (h : LH) : Option (List W × LH) :=
  match setT tg x (wipe ρ tg.slots) with
  | none => none
  | some ρ' => match c ρ' h with
    | some (true, h1) => match elt ρ' h1 with
      | some (w, h2) => if acc.length < SZ then some (acc ++ [w], h2) else none
      | none => none
    | some (false, h1) => some (acc, h1)
    | none => none
def yes (_ : Env) (h : LH) : Option (Bool × LH) := some (true, h)

mutual
def ev (C : Ctx) : E → Env → LH → Option (W × LH)
  | .var i, ρ, h => match ρ[i]? with
    | some (some w) => some (w, h)
    | _ => none
  | .c x, _, h => some (.d x, h)
  | .glob g, _, h => match C.G g with
    | some x => some (.d x, h)
    | none => none
  | .tup es, ρ, h => match evs C es ρ h with
    | some (ws, h1) => mkT h1 ws
    | none => none
  | .lst es, ρ, h => match evs C es ρ h with
    | some (ws, h1) => new h1 ws
    | none => none
  | .bin op x y, ρ, h => match ev C x ρ h with
    | some (u, h1) => match ev C y ρ h1 with
      | some (w, h2) => binop h2 op u w
      | none => none
    | none => none
  | .neg x, ρ, h => match ev C x ρ h with
    | some (.d (.i k), h1) => some (.d (.i (-k)), h1)
    | _ => none
  | .not x, ρ, h => match ev C x ρ h with
    | some (.d (.b k), h1) => some (.d (.b (!k)), h1)
    | _ => none
  | .cmp op x y, ρ, h => match ev C x ρ h with
    | some (u, h1) => match ev C y ρ h1 with
      | some (w, h2) => match cmpop h2 op u w with
        | some k => some (.d (.b k), h2)
        | none => none
      | none => none
    | none => none
  | .chain o1 o2 x y z, ρ, h => match ev C x ρ h with
    | some (u, h1) => match ev C y ρ h1 with
      | some (w, h2) => match cmpop h2 o1 u w with
        | some true => match ev C z ρ h2 with
          | some (v, h3) => match cmpop h3 o2 w v with
            | some k => some (.d (.b k), h3)
            | none => none
          | none => none
        | some false => some (.d (.b false), h2)
        | none => none
      | none => none
    | none => none
  | .isN x, ρ, h => match ev C x ρ h with
    | some (.d .none, h1) => some (.d (.b true), h1)
    | some (_, h1) => some (.d (.b false), h1)
    | none => none
  | .isNN x, ρ, h => match ev C x ρ h with
    | some (.d .none, h1) => some (.d (.b false), h1)
    | some (_, h1) => some (.d (.b true), h1)
    | none => none
  | .and x y, ρ, h => match ev C x ρ h with
    | some (.d (.b true), h1) => ev C y ρ h1
    | some (.d (.b false), h1) => some (.d (.b false), h1)
    | _ => none
  | .or x y, ρ, h => match ev C x ρ h with
    | some (.d (.b true), h1) => some (.d (.b true), h1)
    | some (.d (.b false), h1) => ev C y ρ h1
    | _ => none
  | .ite c x y, ρ, h => match ev C c ρ h with
    | some (.d (.b true), h1) => ev C x ρ h1
    | some (.d (.b false), h1) => ev C y ρ h1
    | _ => none
  | .ix x i, ρ, h => match ev C x ρ h with
    | some (u, h1) => match ev C i ρ h1 with
      | some (k, h2) => index h2 u k
      | none => none
    | none => none
  | .dix g i, ρ, h => match ev C i ρ h with
    | some (.d (.s k), h1) => match C.T g k with
      | some x => some (.d x, h1)
      | none => none
    | _ => none
  | .sl x lo hi, ρ, h => match ev C x ρ h with
    | some (u, h1) => match evo C lo ρ h1 with
      | some (a, h2) => match evo C hi ρ h2 with
        | some (z, h3) => slice h3 u a z
        | none => none
      | none => none
    | none => none
  | .rev x, ρ, h => match ev C x ρ h with
    | some (u, h1) => revW h1 u
    | none => none
  | .call f es, ρ, h => match evs C es ρ h with
    | some (ws, h1) => C.cl f ws h1
    | none => none
  | .bi f es, ρ, h => match evs C es ρ h with
    | some (ws, h1) => builtin h1 f ws
    | none => none
  | .meth m x es, ρ, h => match ev C x ρ h with
    | some (u, h1) => match evs C es ρ h1 with
      | some (ws, h2) => method h2 m u ws
      | none => none
    | none => none
  | .comp elt tg it c, ρ, h => match evi C it ρ h with
    | some (src, h1) => match compSrc (turn tg ρ (evc C c) (ev C elt)) src [] h1 with
      | some (acc, h2) => some (.l h2.length, h2 ++ [acc])
      | none => none
    | none => none
  | .comp2 elt tg it tg1 it1 c, ρ, h => match evi C it ρ h with
    | some (src, h1) => match compSrc (fun x acc h => match setT tg x (wipe ρ (tg.slots ++ tg1.slots)) with
        | none => none
        | some ρ' => match evi C it1 ρ' h with
          | some (src1, h1) => compSrc (turn tg1 ρ' (evc C c) (ev C elt)) src1 acc h1
          | none => none) src [] h1 with
      | some (acc, h2) => some (.l h2.length, h2 ++ [acc])
      | none => none
    | none => none
def evs (C : Ctx) : List E → Env → LH → Option (List W × LH)
  | [], _, h => some ([], h)
  | e :: es, ρ, h => match ev C e ρ h with
    | some (w, h1) => match evs C es ρ h1 with
      | some (ws, h2) => some (w :: ws, h2)
      | none => none
    | none => none
def evo (C : Ctx) : Option E → Env → LH → Option (Option Int × LH)
  | none, _, h => some (none, h)
  | some e, ρ, h => match ev C e ρ h with
    | some (.d (.i k), h1) => some (some k, h1)
    | _ => none
def evc (C : Ctx) : Option E → Env → LH → Option (Bool × LH)
  | none, _, h => some (true, h)
  | some e, ρ, h => asB (ev C e ρ h)
def evi (C : Ctx) : It → Env → LH → Option (Src × LH)
  | .r1 x, ρ, h => match ev C x ρ h with
    | some (.d (.i n), h1) => if -(2 ^ 62) ≤ n ∧ n < 2 ^ 62 then some (.its (range 0 n), h1) else none
    | _ => none
  | .r2 x y, ρ, h => match ev C x ρ h with
    | some (.d (.i a), h1) => match ev C y ρ h1 with
      | some (.d (.i n), h2) => if -(2 ^ 62) ≤ a ∧ a < 2 ^ 62 ∧ -(2 ^ 62) ≤ n ∧ n < 2 ^ 62 then some (.its (range a n), h2) else none
      | _ => none
    | _ => none
  | .sq x, ρ, h => match ev C x ρ h with
    | some (u, h1) => match srcOf h1 u with
      | some src => some (src, h1)
      | none => none
    | none => none
end

mutual
def exec (C : Ctx) : S → Env → LH → Option (Fl × Env × LH)
  | .asg tg e, ρ, h => match ev C e ρ h with
    | some (w, h1) => match setT tg w ρ with
      | some ρ' => some (.nxt, ρ', h1)
      | none => none
    | none => none
  | .par i j x y, ρ, h => match ev C x ρ h with
    | some (u, h1) => match ev C y ρ h1 with
      | some (w, h2) => some (.nxt, (ρ.set i (some u)).set j (some w), h2)
      | none => none
    | none => none
  | .setix o i e, ρ, h => match ev C e ρ h with
    | some (w, h1) => match ev C o ρ h1 with
      | some (u, h2) => match ev C i ρ h2 with
        | some (k, h3) => match setAt h3 u k w with
          | some h4 => some (.nxt, ρ, h4)
          | none => none
        | none => none
      | none => none
    | none => none
  | .aug op i e, ρ, h => match ρ[i]? with
    | some (some u) => match ev C e ρ h with
      | some (w, h1) => match augop h1 op u w with
        | some (v, h2) => some (.nxt, ρ.set i (some v), h2)
        | none => none
      | none => none
    | _ => none
  | .ife c x y, ρ, h => match ev C c ρ h with
    | some (.d (.b true), h1) => execs C x ρ h1
    | some (.d (.b false), h1) => execs C y ρ h1
    | _ => none
  | .for tg it body, ρ, h => match evi C it ρ h with
    | some (src, h1) => forSrc (fun x ρ h => match setT tg x ρ with
      | some ρ' => execs C body ρ' h
      | none => none) src ρ h1
    | none => none
  | .whl c body, ρ, h => whileF (fun ρ h => asB (ev C c ρ h)) (execs C body) C.wf ρ h
  | .ret e, ρ, h => match ev C e ρ h with
    | some (w, h1) => some (.ret w, ρ, h1)
    | none => none
  | .retN, ρ, h => some (.ret (.d .none), ρ, h)
  | .ex e, ρ, h => match ev C e ρ h with
    | some (_, h1) => some (.nxt, ρ, h1)
    | none => none
  | .brk, ρ, h => some (.brk, ρ, h)
  | .cnt, ρ, h => some (.cnt, ρ, h)
  | .pass, ρ, h => some (.nxt, ρ, h)
  | .doc, ρ, h => some (.nxt, ρ, h)
  | .never, _, _ => none
def execs (C : Ctx) : List S → Env → LH → Option (Fl × Env × LH)
  | [], ρ, h => some (.nxt, ρ, h)
  | s :: r, ρ, h => match exec C s ρ h with
    | some (.nxt, ρ', h') => execs C r ρ' h'
    | some (.brk, ρ', h') => some (.brk, ρ', h')
    | some (.cnt, ρ', h') => some (.cnt, ρ', h')
    | some (.ret w, ρ', h') => some (.ret w, ρ', h')
    | none => none
end

structure Def where
  np : Nat
  ns : Nat
  body : List S
/-- a call's end: the lists that it made are dropped, but for one of data that it hands back -/
def fin (n : Nat) : W → LH → Option (W × LH)
  | .d x, h => some (.d x, h.take n)
  | .l a, h => if a < n then some (.l a, h.take n) else match h[a]? with
    | some ws => match allD ws with
      | some _ => some (.l n, h.take n ++ [ws])
      | none => some (.l a, h)
    | none => none
structure Prog where
  G : Nat → Option D
  T : Nat → String → Option D
  F : Nat → Option Def
  wf : Nat
def call (P : Prog) : Nat → Nat → List W → LH → Option (W × LH)
  | 0, _, _, _ => none
  | k + 1, f, ws, h => match P.F f with
    | none => none
    | some d => if ws.length = d.np then
        match execs ⟨P.G, P.T, call P k, P.wf⟩ d.body (ws.map some ++ List.replicate (d.ns - d.np) none) h with
        | some (.ret w, _, h') => fin h.length w h'
        | some (.nxt, _, h') => fin h.length (.d .none) h'
        | _ => none
      else none
end J
set_option maxRecDepth 100000
/-! J's values over the abstract heap: what stands for what, and what a step keeps. -/
namespace J
open PySem L2
abbrev Fg := PySem.W.Frag

def EncS (x : String) (y : Str) : Prop := y.cps.toList = x.toList.map Char.toNat
theorem EncS.inj {x x' : String} {y : Str} (h : EncS x y) (h' : EncS x' y) : x = x' := by
  have e : x.toList.map Char.toNat = x'.toList.map Char.toNat := h.symm.trans h'
  have : x.toList = x'.toList := (List.map_inj_right (fun a b e => Char.toNat_inj.mp e)).mp e
  exact String.toList_inj.mp this
theorem EncS.fn {x : String} {y y' : Str} (h : EncS x y) (h' : EncS x y') : y = y' := by
  have e : y.cps.toList = y'.cps.toList := h.trans h'.symm
  cases y; cases y'
  congr 1
  exact Array.toList_inj.mp e
theorem EncS.len {x : String} {y : Str} (h : EncS x y) : y.length = x.length := by
  show y.cps.size = x.length
  rw [← Array.length_toList, h, List.length_map, String.length_toList]
theorem EncS.ok {x : String} {y : Str} (h : EncS x y) : PyData.strOk y = true := by
  unfold PyData.strOk
  rw [Array.all_eq_true_iff_forall_mem]
  intro c hc
  have hc' : c ∈ y.cps.toList := Array.mem_toList_iff.mpr hc
  rw [h] at hc'
  obtain ⟨a, _, rfl⟩ := List.mem_map.mp hc'
  have hv : a.val.toNat < 0xd800 ∨ 0xdfff < a.val.toNat ∧ a.val.toNat < 0x110000 := a.valid
  have e : a.toNat = a.val.toNat := rfl
  exact decide_eq_true (by omega)
theorem EncS.beq {x x' : String} {y y' : Str} (h : EncS x y) (h' : EncS x' y') : (y == y') = (x == x') := by
  by_cases e : x = x'
  · subst e
    rw [h.fn h', beq_self_eq_true, beq_self_eq_true]
  · have : y ≠ y' := fun q => e (by subst q; exact h.inj h')
    rw [beq_eq_false_iff_ne.mpr this, beq_eq_false_iff_ne.mpr e]

/-- a list that is never written -/
def Frz (K : Fg) (H : Hp) (a : Addr) (xs : List V) : Prop :=
  (∃ o, H a = some (.frz o (.lst xs))) ∨
    ∃ (o : Obj) (its : Array Value) (n : Nat), K.lookup a = some o ∧ o.cls = .type "list" ∧ o.dict = none ∧ o.data = .seq its n ∧ its.size ≤ sizeLine ∧ Vals xs its.toList
theorem Frz.sq {K : Fg} {H : Hp} {a : Addr} {xs : List V} (h : Frz K H a xs) : SqL K H a xs := by
  rcases h with ⟨o, h⟩ | h
  · exact .inl (.inr ⟨o, h⟩)
  · exact .inr h
theorem Frz.of {K : Fg} {H : Hp} {a : Addr} {xs : List V} (h : SqL K H a xs) (hn : H a ≠ some (.lst xs)) : Frz K H a xs := by
  rcases h with (h | h) | h
  · exact absurd h hn
  · exact .inl h
  · exact .inr h

mutual
inductive RD (K : Fg) (H : Hp) : V → D → Prop where
  | non : RD K H .non .none
  | b (x : Bool) : RD K H (.bl x) (.b x)
  | i (x : Int) : RD K H (.int x) (.i x)
  | s {x : String} {y : Str} : EncS x y → x.length ≤ SZ → RD K H (.str y) (.s x)
  | t {a : Addr} {xs : List V} {ds : List D} : SqT K H a xs → RDs K H xs ds → RD K H (.ref a) (.t ds)
  | fl {a : Addr} {xs : List V} {ds : List D} : Frz K H a xs → RDs K H xs ds → RD K H (.ref a) (.fl ds)
inductive RDs (K : Fg) (H : Hp) : List V → List D → Prop where
  | nil : RDs K H [] []
  | cons {v : V} {d : D} {vs : List V} {ds : List D} : RD K H v d → RDs K H vs ds → RDs K H (v :: vs) (d :: ds)
end

/-- what is no live list stays -/
def Stab (H H' : Hp) : Prop := ∀ p o, H p = some o → (∀ xs, o ≠ .lst xs) → H' p = some o
theorem Stab.refl (H : Hp) : Stab H H := fun _ _ h _ => h
theorem Stab.trans {H H1 H2 : Hp} (a : Stab H H1) (b : Stab H1 H2) : Stab H H2 := fun p o h n => b p o (a p o h n) n
theorem Stab.tup {K : Fg} {H H' : Hp} {a : Addr} {xs : List V} (s : Stab H H') (h : SqT K H a xs) : SqT K H' a xs := by
  rcases h with (h | ⟨o, h⟩) | h
  · exact .inl (.inl (s _ _ h (fun _ z => nomatch z)))
  · exact .inl (.inr ⟨o, s _ _ h (fun _ z => nomatch z)⟩)
  · exact .inr h
theorem Stab.frz {K : Fg} {H H' : Hp} {a : Addr} {xs : List V} (s : Stab H H') (h : Frz K H a xs) : Frz K H' a xs := by
  rcases h with ⟨o, h⟩ | h
  · exact .inl ⟨o, s _ _ h (fun _ z => nomatch z)⟩
  · exact .inr h
mutual
theorem RD.mono {K : Fg} {H H' : Hp} (s : Stab H H') : ∀ {v : V} {d : D}, RD K H v d → RD K H' v d
  | _, _, .non => .non
  | _, _, .b x => .b x
  | _, _, .i x => .i x
  | _, _, .s h l => .s h l
  | _, _, .t h r => .t (s.tup h) (RDs.mono s r)
  | _, _, .fl h r => .fl (s.frz h) (RDs.mono s r)
theorem RDs.mono {K : Fg} {H H' : Hp} (s : Stab H H') : ∀ {vs : List V} {ds : List D}, RDs K H vs ds → RDs K H' vs ds
  | _, _, .nil => .nil
  | _, _, .cons h r => .cons (RD.mono s h) (RDs.mono s r)
end
theorem RDs.length {K : Fg} {H : Hp} : ∀ {vs : List V} {ds : List D}, RDs K H vs ds → vs.length = ds.length
  | _, _, .nil => rfl
  | _, _, .cons _ r => congrArg (· + 1) r.length

/-! ### data as PyData -/
mutual
def py : D → (String → Str) → PyData
  | .none, _ => .none
  | .b x, _ => .bool x
  | .i x, _ => .int x
  | .s x, f => .str (f x)
  | .t xs, f => .tuple (pyL xs f)
  | .fl xs, f => .list (pyL xs f)
def pyL : List D → (String → Str) → List PyData
  | [], _ => []
  | x :: r, f => py x f :: pyL r f
end
def cpS (x : String) : Str := ⟨(x.toList.map Char.toNat).toArray⟩
theorem encS (x : String) : EncS x (cpS x) := by simp [EncS, cpS]
abbrev pd (x : D) : PyData := py x cpS
abbrev pdL (x : List D) : List PyData := pyL x cpS
mutual
theorem RD.dp {K : Fg} {H : Hp} : ∀ {v : V} {d : D}, RD K H v d → Dp K H v (pd d)
  | _, _, .non => .non
  | _, _, .b x => .bl x
  | _, _, .i x => .int x
  | _, _, .s (x := x) h _ => by
    have : _ = cpS x := h.fn (encS x)
    subst this
    exact .str _
  | _, _, .t h r => .tup h (RDs.dp r)
  | _, _, .fl h r => .lst h.sq (RDs.dp r)
theorem RDs.dp {K : Fg} {H : Hp} : ∀ {vs : List V} {ds : List D}, RDs K H vs ds → DpAll K H vs (pdL ds)
  | _, _, .nil => .nil
  | _, _, .cons h r => .cons (RD.dp h) (RDs.dp r)
end
mutual
theorem pd_lay : ∀ d : D, (pd d).canLay0 = true
  | .none => rfl
  | .b _ => rfl
  | .i _ => rfl
  | .s x => (encS x).ok
  | .t xs => by show PyData.canLay0 (.tuple (pdL xs)) = true; unfold PyData.canLay0; exact pdL_lay xs
  | .fl xs => by show PyData.canLay0 (.list (pdL xs)) = true; unfold PyData.canLay0; exact pdL_lay xs
theorem pdL_lay : ∀ ds : List D, PyData.canLayAll0 (pdL ds) = true
  | [] => rfl
  | x :: r => by
    show PyData.canLayAll0 (pd x :: pdL r) = true
    unfold PyData.canLayAll0
    rw [pd_lay x, pdL_lay r]; rfl
end
mutual
theorem pd_depth : ∀ d : D, (pd d).depth = depth d
  | .none => rfl
  | .b _ => rfl
  | .i _ => rfl
  | .s x => rfl
  | .t xs => by show PyData.depth (.tuple (pdL xs)) = _; unfold PyData.depth depth; rw [pdL_depth xs]
  | .fl xs => by show PyData.depth (.list (pdL xs)) = _; unfold PyData.depth depth; rw [pdL_depth xs]
theorem pdL_depth : ∀ ds : List D, PyData.depthAll (pdL ds) = depthL ds
  | [] => rfl
  | x :: r => by
    show PyData.depthAll (pd x :: pdL r) = _
    unfold PyData.depthAll depthL
    rw [pd_depth x, pdL_depth r]
end
mutual
theorem pd_eqv : ∀ (x y : D), PyData.eqv (pd x) (pd y) = eqv x y
  | .t xs, .t ys => by show PyData.eqv (.tuple (pdL xs)) (.tuple (pdL ys)) = _; unfold PyData.eqv eqv; exact pdL_eqv xs ys
  | .fl xs, .fl ys => by show PyData.eqv (.list (pdL xs)) (.list (pdL ys)) = _; unfold PyData.eqv eqv; exact pdL_eqv xs ys
  | .s x, .s y => by show PyData.eqv (.str (cpS x)) (.str (cpS y)) = _; unfold PyData.eqv eqv; exact (encS x).beq (encS y)
  | .i x, y => by cases y <;> simp [py, PyData.eqv, eqv]
  | .b x, y => by cases y <;> simp [py, PyData.eqv, eqv]
  | .none, y => by cases y <;> simp [py, PyData.eqv, eqv]
  | .t _, .none => by simp [py, PyData.eqv, eqv]
  | .t _, .b _ => by simp [py, PyData.eqv, eqv]
  | .t _, .i _ => by simp [py, PyData.eqv, eqv]
  | .t _, .s _ => by simp [py, PyData.eqv, eqv]
  | .t _, .fl _ => by simp [py, PyData.eqv, eqv]
  | .fl _, .none => by simp [py, PyData.eqv, eqv]
  | .fl _, .b _ => by simp [py, PyData.eqv, eqv]
  | .fl _, .i _ => by simp [py, PyData.eqv, eqv]
  | .fl _, .s _ => by simp [py, PyData.eqv, eqv]
  | .fl _, .t _ => by simp [py, PyData.eqv, eqv]
  | .s _, .none => by simp [py, PyData.eqv, eqv]
  | .s _, .b _ => by simp [py, PyData.eqv, eqv]
  | .s _, .i _ => by simp [py, PyData.eqv, eqv]
  | .s _, .t _ => by simp [py, PyData.eqv, eqv]
  | .s _, .fl _ => by simp [py, PyData.eqv, eqv]
theorem pdL_eqv : ∀ (xs ys : List D), PyData.eqvAll (pdL xs) (pdL ys) = eqvL xs ys
  | [], [] => rfl
  | [], _ :: _ => rfl
  | _ :: _, [] => rfl
  | x :: xs, y :: ys => by
    show PyData.eqvAll (pd x :: pdL xs) (pd y :: pdL ys) = _
    unfold PyData.eqvAll eqvL
    rw [pd_eqv x y, pdL_eqv xs ys]
end

/-! ### values -/
inductive RW (K : Fg) (H : Hp) (ι : List Addr) : V → W → Prop where
  | d {v : V} {x : D} : RD K H v x → RW K H ι v (.d x)
  | l {a : Nat} {p : Addr} : ι[a]? = some p → RW K H ι (.ref p) (.l a)
inductive RWs (K : Fg) (H : Hp) (ι : List Addr) : List V → List W → Prop where
  | nil : RWs K H ι [] []
  | cons {v : V} {w : W} {vs : List V} {ws : List W} : RW K H ι v w → RWs K H ι vs ws → RWs K H ι (v :: vs) (w :: ws)
structure Step (ι : List Addr) (H : Hp) (ι' : List Addr) (H' : Hp) : Prop where
  pre : ∃ t, ι' = ι ++ t
  fresh : ∀ p ∈ ι', p ∈ ι ∨ H p = none
  keep : ∀ p o, H p = some o → p ∉ ι → H' p = some o
  stab : Stab H H'
theorem Step.refl (ι : List Addr) (H : Hp) : Step ι H ι H := ⟨⟨[], by simp⟩, fun _ h => .inl h, fun _ _ h _ => h, .refl H⟩
theorem Step.trans {ι ι1 ι2 : List Addr} {H H1 H2 : Hp} (a : Step ι H ι1 H1) (b : Step ι1 H1 ι2 H2) : Step ι H ι2 H2 := by
  obtain ⟨⟨t, e⟩, f, k, s⟩ := a
  obtain ⟨⟨t', e'⟩, f', k', s'⟩ := b
  have hn : ∀ p o, H p = some o → p ∉ ι → p ∉ ι1 := fun p o h n h1 => (f p h1).elim n (fun z => by rw [h] at z; cases z)
  refine ⟨⟨t ++ t', by rw [e', e, List.append_assoc]⟩, fun p hp => ?_, fun p o h n => k' p o (k p o h n) (hn p o h n), s.trans s'⟩
  rcases f' p hp with h | h
  · exact f p h
  · cases q : H p with
    | none => exact .inr rfl
    | some o =>
      by_cases hi : p ∈ ι
      · exact .inl hi
      · rw [k p o q hi] at h; cases h
theorem Step.at {ι ι' : List Addr} {H H' : Hp} (s : Step ι H ι' H') {a : Nat} {p : Addr} (h : ι[a]? = some p) : ι'[a]? = some p := by
  obtain ⟨t, e⟩ := s.pre
  rw [e]
  have hl : a < ι.length := by
    rcases Nat.lt_or_ge a ι.length with z | z
    · exact z
    · rw [List.getElem?_eq_none z] at h; cases h
  rw [List.getElem?_append_left hl]
  exact h
theorem RW.mono {K : Fg} {ι ι' : List Addr} {H H' : Hp} {v : V} {w : W} (s : Step ι H ι' H') (h : RW K H ι v w) : RW K H' ι' v w := by
  cases h with
  | d h => exact .d (h.mono s.stab)
  | l h => exact .l (s.at h)
theorem RWs.mono {K : Fg} {ι ι' : List Addr} {H H' : Hp} (s : Step ι H ι' H') : ∀ {vs : List V} {ws : List W}, RWs K H ι vs ws → RWs K H' ι' vs ws
  | _, _, .nil => .nil
  | _, _, .cons h r => .cons (h.mono s) (r.mono s)
theorem RWs.length {K : Fg} {ι : List Addr} {H : Hp} : ∀ {vs : List V} {ws : List W}, RWs K H ι vs ws → vs.length = ws.length
  | _, _, .nil => rfl
  | _, _, .cons _ r => congrArg (· + 1) r.length
theorem RWs.get {K : Fg} {ι : List Addr} {H : Hp} : ∀ {vs : List V} {ws : List W} {i : Nat} {w : W}, RWs K H ι vs ws → ws[i]? = some w → ∃ v, vs[i]? = some v ∧ RW K H ι v w
  | _, _, _, _, .nil, e => by simp at e
  | _, _, 0, _, .cons r _, e => by simp at e; subst e; exact ⟨_, rfl, r⟩
  | _, _, i + 1, w, .cons _ t, e => by
    obtain ⟨u, h1, h2⟩ := RWs.get (i := i) (w := w) t (by simpa using e)
    exact ⟨u, by simpa using h1, h2⟩
theorem RWs.none {K : Fg} {ι : List Addr} {H : Hp} {vs : List V} {ws : List W} {i : Nat} (r : RWs K H ι vs ws) (e : ws[i]? = none) : vs.length ≤ i := by
  rw [r.length]; exact List.getElem?_eq_none_iff.mp e
theorem RWs.append {K : Fg} {ι : List Addr} {H : Hp} : ∀ {vs us : List V} {ws xs : List W}, RWs K H ι vs ws → RWs K H ι us xs → RWs K H ι (vs ++ us) (ws ++ xs)
  | _, _, _, _, .nil, s => s
  | _, _, _, _, .cons r t, s => .cons r (t.append s)
theorem RWs.take {K : Fg} {ι : List Addr} {H : Hp} : ∀ {vs : List V} {ws : List W} (n : Nat), RWs K H ι vs ws → RWs K H ι (vs.take n) (ws.take n)
  | _, _, 0, _ => by simp; exact .nil
  | _, _, _ + 1, .nil => .nil
  | _, _, n + 1, .cons r t => .cons r (t.take n)
theorem RWs.drop {K : Fg} {ι : List Addr} {H : Hp} : ∀ {vs : List V} {ws : List W} (n : Nat), RWs K H ι vs ws → RWs K H ι (vs.drop n) (ws.drop n)
  | _, _, 0, r => r
  | _, _, _ + 1, .nil => .nil
  | _, _, n + 1, .cons _ t => t.drop n
theorem RWs.set {K : Fg} {ι : List Addr} {H : Hp} {v : V} {w : W} (r : RW K H ι v w) : ∀ {vs : List V} {ws : List W} (n : Nat), RWs K H ι vs ws → RWs K H ι (vs.set n v) (ws.set n w)
  | _, _, _, .nil => .nil
  | _, _, 0, .cons _ t => .cons r t
  | _, _, n + 1, .cons q t => .cons q (t.set r n)
theorem RWs.reverse {K : Fg} {ι : List Addr} {H : Hp} : ∀ {vs : List V} {ws : List W}, RWs K H ι vs ws → RWs K H ι vs.reverse ws.reverse
  | _, _, .nil => .nil
  | _, _, .cons r t => by
    rw [List.reverse_cons, List.reverse_cons]
    exact t.reverse.append (.cons r .nil)
theorem RWs.rep {K : Fg} {ι : List Addr} {H : Hp} {vs : List V} {ws : List W} (r : RWs K H ι vs ws) : ∀ n : Nat, RWs K H ι (rep vs n) (rep ws n)
  | 0 => .nil
  | n + 1 => r.append (r.rep n)
theorem RWs.dropLast {K : Fg} {ι : List Addr} {H : Hp} {vs : List V} {ws : List W} (r : RWs K H ι vs ws) : RWs K H ι vs.dropLast ws.dropLast := by
  rw [List.dropLast_eq_take, List.dropLast_eq_take, r.length]
  exact r.take _
/-- data in a row -/
theorem RWs.data {K : Fg} {ι : List Addr} {H : Hp} : ∀ {vs : List V} {ds : List D}, RDs K H vs ds → RWs K H ι vs (ds.map .d)
  | _, _, .nil => .nil
  | _, _, .cons h r => .cons (.d h) (RWs.data r)
theorem RWs.allD {K : Fg} {ι : List Addr} {H : Hp} : ∀ {vs : List V} {ws : List W} {ds : List D}, RWs K H ι vs ws → allD ws = some ds → RDs K H vs ds
  | _, _, ds, .nil, e => by
    simp [J.allD] at e; subst e; exact .nil
  | _, _, ds, .cons (w := .d x) (ws := ws) h r, e => by
    unfold J.allD at e
    cases q : J.allD ws with
    | none => rw [q] at e; cases e
    | some xs =>
      rw [q] at e; cases e
      cases h with
      | d h => exact .cons h (r.allD q)
  | _, _, ds, .cons (w := .l a) h r, e => by
    unfold J.allD at e; cases e
theorem allD_map : ∀ xs : List D, allD (xs.map .d) = some xs
  | [] => rfl
  | x :: r => by
    show allD (.d x :: r.map .d) = _
    unfold allD
    rw [allD_map r]

structure RH (K : Fg) (H : Hp) (ι : List Addr) (h : LH) : Prop where
  len : ι.length = h.length
  nd : ι.Nodup
  cell : ∀ (a : Nat) (p : Addr), ι[a]? = some p → ∃ vs ws, H p = some (.lst vs) ∧ h[a]? = some ws ∧ RWs K H ι vs ws ∧ okAll a ws = true
section
variable {K : Fg} {H H' : Hp} {ι ι' : List Addr} {h : LH} {p : Addr}
theorem RH.get (r : RH K H ι h) {a : Nat} {ws : List W} (e : h[a]? = some ws) : ∃ p vs, ι[a]? = some p ∧ H p = some (.lst vs) ∧ RWs K H ι vs ws ∧ okAll a ws = true := by
  have hl : a < ι.length := by
    rw [r.len]
    rcases Nat.lt_or_ge a h.length with z | z
    · exact z
    · rw [List.getElem?_eq_none z] at e; cases e
  have q : ι[a]? = some ι[a] := List.getElem?_eq_getElem hl
  obtain ⟨vs, ws', h1, h2, h3, h4⟩ := r.cell a _ q
  rw [e] at h2; cases h2
  exact ⟨_, vs, q, h1, h3, h4⟩
theorem RH.of (r : RH K H ι h) {a : Nat} {p : Addr} (q : ι[a]? = some p) {ws : List W} (e : h[a]? = some ws) : ∃ vs, H p = some (.lst vs) ∧ RWs K H ι vs ws ∧ okAll a ws = true := by
  obtain ⟨vs, ws', h1, h2, h3, h4⟩ := r.cell a p q
  rw [e] at h2; cases h2
  exact ⟨vs, h1, h3, h4⟩
theorem RH.mem (r : RH K H ι h) {p : Addr} (hp : p ∈ ι) : ∃ vs, H p = some (.lst vs) := by
  obtain ⟨a, ha⟩ := List.mem_iff_getElem?.mp hp
  obtain ⟨vs, _, h1, _⟩ := r.cell a p ha
  exact ⟨vs, h1⟩
theorem RH.notin (r : RH K H ι h) (hp : H p = none) : p ∉ ι := fun hm => by
  obtain ⟨vs, e⟩ := r.mem hm
  rw [hp] at e; cases e
/-- a new object that is no live list -/
theorem RH.laid (r : RH K H ι h) (hp : H p = none) (o : HO) : RH K (upd H p o) ι h ∧ Step ι H ι (upd H p o) := by
  have st : Step ι H ι (upd H p o) := ⟨⟨[], by simp⟩, fun _ h => .inl h, fun q u e _ => by rw [upd_ne (ne_of_none e hp)]; exact e, fun q u e _ => by rw [upd_ne (ne_of_none e hp)]; exact e⟩
  refine ⟨⟨r.len, r.nd, fun a q hq => ?_⟩, st⟩
  obtain ⟨vs, ws, h1, h2, h3, h4⟩ := r.cell a q hq
  exact ⟨vs, ws, by rw [upd_ne (ne_of_none h1 hp)]; exact h1, h2, h3.mono st, h4⟩
theorem okAll_mono {a c : Nat} (hac : a ≤ c) : ∀ {ws : List W}, okAll a ws = true → okAll c ws = true
  | [], _ => rfl
  | .d x :: r, h => by
    unfold okAll at h ⊢
    exact okAll_mono hac (by simpa [okIn] using h)
  | .l b :: r, h => by
    unfold okAll at h ⊢
    simp only [okIn, Bool.and_eq_true, decide_eq_true_eq] at h ⊢
    exact ⟨by omega, okAll_mono hac h.2⟩
theorem RWs.okAll (hl : ι.length = h.length) : ∀ {vs : List V} {ws : List W}, RWs K H ι vs ws → okAll h.length ws = true
  | _, _, .nil => rfl
  | _, _, .cons (.d _) r => by unfold J.okAll; simp [okIn, r.okAll hl]
  | _, _, .cons (.l (a := a) e) r => by
    have : a < ι.length := by
      rcases Nat.lt_or_ge a ι.length with z | z
      · exact z
      · rw [List.getElem?_eq_none z] at e; cases e
    unfold J.okAll; simp [okIn, r.okAll hl]; omega
/-- a new live list -/
theorem RH.newl (r : RH K H ι h) (hp : H p = none) {vs : List V} {ws : List W} (rw_ : RWs K H ι vs ws) :
    RH K (upd H p (.lst vs)) (ι ++ [p]) (h ++ [ws]) ∧ Step ι H (ι ++ [p]) (upd H p (.lst vs)) := by
  have st : Step ι H (ι ++ [p]) (upd H p (.lst vs)) := by
    refine ⟨⟨[p], rfl⟩, fun q hq => ?_, fun q u e _ => by rw [upd_ne (ne_of_none e hp)]; exact e, fun q u e _ => by rw [upd_ne (ne_of_none e hp)]; exact e⟩
    rcases List.mem_append.mp hq with z | z
    · exact .inl z
    · rw [List.mem_singleton.mp z]; exact .inr hp
  refine ⟨⟨by simp [r.len], ?_, fun a q hq => ?_⟩, st⟩
  · rw [List.nodup_append]
    refine ⟨r.nd, by simp, fun a ha b hb => ?_⟩
    rw [List.mem_singleton.mp hb]
    rintro rfl
    exact r.notin hp ha
  · rcases Nat.lt_or_ge a ι.length with z | z
    · rw [List.getElem?_append_left z] at hq
      obtain ⟨vs', ws', h1, h2, h3, h4⟩ := r.cell a q hq
      refine ⟨vs', ws', by rw [upd_ne (ne_of_none h1 hp)]; exact h1, ?_, h3.mono st, h4⟩
      rw [List.getElem?_append_left (by rw [← r.len]; exact z)]
      exact h2
    · rw [List.getElem?_append_right z] at hq
      have ea : a - ι.length = 0 := by
        rcases Nat.eq_zero_or_pos (a - ι.length) with y | y
        · exact y
        · rw [List.getElem?_eq_none (by simp; omega)] at hq; cases hq
      rw [ea] at hq
      simp at hq
      subst hq
      have ea' : a = h.length := by have := r.len; omega
      subst ea'
      exact ⟨vs, ws, upd_same, by simp, rw_.mono st, rw_.okAll r.len⟩
/-- a live list is written -/
theorem RH.wrote (r : RH K H ι h) {a : Nat} (ha : ι[a]? = some p) {vs : List V} {ws : List W} (rw_ : RWs K H ι vs ws) (ok : okAll a ws = true) :
    RH K (upd H p (.lst vs)) ι (h.set a ws) ∧ Step ι H ι (upd H p (.lst vs)) := by
  have hm : p ∈ ι := List.mem_of_getElem? ha
  obtain ⟨vs0, e0⟩ := r.mem hm
  have st : Step ι H ι (upd H p (.lst vs)) := by
    refine ⟨⟨[], by simp⟩, fun _ h => .inl h, fun q u e n => ?_, fun q u e n => ?_⟩
    · rw [upd_ne (fun z => n (by rw [z]; exact hm))]; exact e
    · rw [upd_ne (fun z => by subst z; rw [e0] at e; cases e; exact n _ rfl)]; exact e
  refine ⟨⟨by simp [r.len], r.nd, fun c q hq => ?_⟩, st⟩
  obtain ⟨vs', ws', h1, h2, h3, h4⟩ := r.cell c q hq
  by_cases hc : c = a
  · subst hc
    rw [ha] at hq; cases hq
    exact ⟨vs, ws, upd_same, List.getElem?_set_self (by
      rcases Nat.lt_or_ge c h.length with z | z
      · exact z
      · rw [List.getElem?_eq_none z] at h2; cases h2), rw_.mono st, ok⟩
  · have hne : q ≠ p := by
      rintro rfl
      have hl : c < ι.length := by
        rcases Nat.lt_or_ge c ι.length with z | z
        · exact z
        · rw [List.getElem?_eq_none z] at hq; cases hq
      exact hc ((List.getElem?_inj hl r.nd).mp (hq.trans ha.symm))
    exact ⟨vs', ws', by rw [upd_ne hne]; exact h1, by rw [List.getElem?_set_ne (Ne.symm hc)]; exact h2, h3.mono st, h4⟩
/-- the youngest lists dropped -/
theorem RH.take (r : RH K H ι h) (n : Nat) : RH K H (ι.take n) (h.take n) := by
  have key : ∀ {a : Nat} {vs : List V} {ws : List W}, a ≤ n → RWs K H ι vs ws → okAll a ws = true → RWs K H (ι.take n) vs ws := by
    intro a vs ws han
    intro rr
    induction rr with
    | nil => intro _; exact .nil
    | @cons v w vs ws hw hr ih =>
      intro ok
      unfold okAll at ok
      rw [Bool.and_eq_true] at ok
      refine .cons ?_ (ih ok.2)
      cases hw with
      | d z => exact .d z
      | @l b p' e =>
        have hb : b < a := by simpa [okIn] using ok.1
        exact .l (by rw [List.getElem?_take_of_lt (by omega)]; exact e)
  refine ⟨by simp [r.len], r.nd.sublist (List.take_sublist n ι), fun a q hq => ?_⟩
  have han : a < n := by
    rcases Nat.lt_or_ge a n with z | z
    · exact z
    · rw [List.getElem?_take_eq_none (by omega)] at hq; cases hq
  rw [List.getElem?_take_of_lt han] at hq
  obtain ⟨vs, ws, h1, h2, h3, h4⟩ := r.cell a q hq
  exact ⟨vs, ws, h1, by rw [List.getElem?_take_of_lt han]; exact h2, key (by omega) h3 h4, h4⟩
end
end J
set_option maxRecDepth 100000
/-! J's operations are the machine's. -/
namespace J
open PySem L2 PyProof.Rows
theorem szl : sizeLine = SZ := sizeLine_eq

def Post (K : Fg) (ι : List Addr) (H : Hp) (w : W) (h' : LH) (Q : VK) : Prop := ∀ v H' ι', Step ι H ι' H' → RH K H' ι' h' → RW K H' ι' v w → Q v H'
def PostB (K : Fg) (ι : List Addr) (H : Hp) (b : Bool) (h' : LH) (Q : Bool → Hp → Prop) : Prop := ∀ H' ι', Step ι H ι' H' → RH K H' ι' h' → Q b H'
def PostL (K : Fg) (ι : List Addr) (H : Hp) (ws : List W) (h' : LH) (Q : List V → Hp → Prop) : Prop := ∀ vs H' ι', Step ι H ι' H' → RH K H' ι' h' → RWs K H' ι' vs ws → Q vs H'
section
variable {K : Fg} {ι : List Addr} {H : Hp} {w : W} {h h' : LH} {Q : VK}
theorem Post.same {v : V} (p : Post K ι H w h Q) (r : RH K H ι h) (q : RW K H ι v w) : Q v H := p v H ι (.refl _ _) r q
theorem Post.dat {v : V} {x : D} (p : Post K ι H (.d x) h Q) (r : RH K H ι h) (q : RD K H v x) : Q v H := p.same r (.d q)
/-- a new tuple -/
theorem Post.tup {vs : List V} {ds : List D} (p : Post K ι H (.d (.t ds)) h Q) (r : RH K H ι h) (q : RDs K H vs ds) : ∀ a, H a = none → Q (.ref a) (upd H a (.tup vs)) := fun a ha => by
  obtain ⟨r', st⟩ := r.laid ha (.tup vs)
  exact p _ _ _ st r' (.d (.t (SqT.of upd_same) (q.mono st.stab)))
/-- a new live list -/
theorem Post.lst {vs : List V} {ws : List W} (p : Post K ι H (.l h.length) (h ++ [ws]) Q) (r : RH K H ι h) (q : RWs K H ι vs ws) : ∀ a, H a = none → Q (.ref a) (upd H a (.lst vs)) := fun a ha => by
  obtain ⟨r', st⟩ := r.newl ha q
  refine p _ _ _ st r' (.l ?_)
  rw [← r.len]; simp
theorem Post.step {H1 : Hp} {ι1 : List Addr} (p : Post K ι H w h' Q) (st : Step ι H ι1 H1) : Post K ι1 H1 w h' Q := fun v H' ι' s r q => p v H' ι' (st.trans s) r q
end

/-- what the interpreter says of two values -/
def rJ2 (K : Fg) (f : LH → W → W → Option (W × LH)) : R2 := fun x y H Q => ∃ ι h u w r h', RH K H ι h ∧ RW K H ι x u ∧ RW K H ι y w ∧ f h u w = some (r, h') ∧ Post K ι H r h' Q
section
variable {X : Cx}
theorem OpR.mono {f : Value → Value → Sem Value} {r r' : R2} (h : OpR X f r) (m : ∀ x y H Q, r' x y H Q → r x y H Q) : OpR X f r' :=
  fun pins s σ H x y v u Q I rx ry q => h pins s σ H x y v u Q I rx ry (m _ _ _ _ q)
theorem OpR.or {f : Value → Value → Sem Value} {r r' : R2} (h : OpR X f r) (h' : OpR X f r') : OpR X f (fun x y H Q => r x y H Q ∨ r' x y H Q) := by
  intro pins s σ H x y v u Q I rx ry q
  rcases q with q | q
  · exact h pins s σ H x y v u Q I rx ry q
  · exact h' pins s σ H x y v u Q I rx ry q
theorem binop_add {K : Fg} {h : LH} {u w r : W} {h' : LH} (e : binop h .add u w = some (r, h')) :
    (∃ x y, u = .d (.i x) ∧ w = .d (.i y) ∧ r = .d (.i (x + y)) ∧ h' = h) ∨
    (∃ xs ys, u = .d (.t xs) ∧ w = .d (.t ys) ∧ xs.length + ys.length ≤ SZ ∧ r = .d (.t (xs ++ ys)) ∧ h' = h) ∨
    (∃ x y, u = .d (.s x) ∧ w = .d (.s y) ∧ x.length + y.length ≤ SZ ∧ r = .d (.s (x ++ y)) ∧ h' = h) ∨
    (∃ a c xs ys, u = .l a ∧ w = .l c ∧ h[a]? = some xs ∧ h[c]? = some ys ∧ xs.length + ys.length ≤ SZ ∧ r = .l h.length ∧ h' = h ++ [xs ++ ys]) := by
  unfold binop at e
  split at e <;> first | cases e | skip
  all_goals (try contradiction)
  · exact .inl ⟨_, _, rfl, rfl, rfl, rfl⟩
  · split at e
    · cases e; exact .inr (.inl ⟨_, _, rfl, rfl, by assumption, rfl, rfl⟩)
    · cases e
  · split at e
    · cases e; exact .inr (.inr (.inl ⟨_, _, rfl, rfl, by assumption, rfl, rfl⟩))
    · cases e
  · split at e
    · split at e
      · cases e; exact .inr (.inr (.inr ⟨_, _, _, _, rfl, rfl, by assumption, by assumption, by assumption, rfl, rfl⟩))
      · cases e
    · cases e
theorem RDs.append {K : Fg} {H : Hp} : ∀ {vs us : List V} {ds es : List D}, RDs K H vs ds → RDs K H us es → RDs K H (vs ++ us) (ds ++ es)
  | _, _, _, _, .nil, s => s
  | _, _, _, _, .cons r t, s => .cons r (RDs.append t s)
theorem EncS.append {x x' : String} {y y' : Str} (h : EncS x y) (h' : EncS x' y') : EncS (x ++ x') (y ++ y') := by
  have e : (y ++ y').cps = y.cps ++ y'.cps := rfl
  unfold EncS
  rw [e, Array.toList_append, h, h', String.toList_append, List.map_append]
theorem op_addJ : OpR X (binaryOp .Add) (rJ2 X.K fun h u w => binop h .add u w) := by
  refine OpR.mono (OpR.or op_add (OpR.or op_catA (OpR.or op_add_str op_cat))) ?_
  rintro x y H Q ⟨ι, h, u, w, r, h', rh, rx, ry, e, p⟩
  rcases binop_add (K := X.K) e with ⟨a, b, rfl, rfl, rfl, rfl⟩ | ⟨xs, ys, rfl, rfl, z, rfl, rfl⟩ | ⟨a, b, rfl, rfl, z, rfl, rfl⟩ | ⟨a, c, xs, ys, rfl, rfl, ha, hc, z, rfl, rfl⟩
  · cases rx with | d rx => cases ry with | d ry => cases rx; cases ry; exact .inl ⟨_, _, rfl, rfl, p.dat rh (.i _)⟩
  · cases rx with
    | d rx => cases ry with
      | d ry => cases rx with
        | @t a vs _ t1 q1 => cases ry with
          | @t b us _ t2 q2 =>
            refine .inr (.inl ⟨_, _, _, _, rfl, rfl, t1, t2, by rw [szl, q1.length, q2.length]; exact z, fun e => ?_, fun _ e => ?_, fun _ _ => ?_⟩)
            · subst e
              cases q1
              exact p.dat rh (.t t2 q2)
            · subst e
              cases q2
              rw [List.append_nil] at p
              exact p.dat rh (.t t1 q1)
            · exact p.tup rh (q1.append q2)
  · cases rx with | d rx => cases ry with | d ry => cases rx with | s e1 l1 => cases ry with | s e2 l2 => exact .inr (.inr (.inl ⟨_, _, rfl, rfl, by rw [szl, e1.len, e2.len]; exact z, p.dat rh (.s (e1.append e2) (by rw [String.length_append]; exact z))⟩))
  · cases rx with
    | l rx => cases ry with
      | l ry =>
        obtain ⟨vs, h1, r1, _⟩ := rh.of rx ha
        obtain ⟨us, h2, r2, _⟩ := rh.of ry hc
        exact .inr (.inr (.inr ⟨_, _, _, _, rfl, rfl, h1, h2, by rw [szl, r1.length, r2.length]; exact z, p.lst rh (r1.append r2)⟩))
theorem op_subJ : OpR X (binaryOp .Sub) (rJ2 X.K fun h u w => binop h .sub u w) := by
  refine OpR.mono op_sub ?_
  rintro x y H Q ⟨ι, h, u, w, r, h', rh, rx, ry, e, p⟩
  replace e : binop h .sub u w = some (r, h') := e
  unfold binop at e
  split at e <;> first | cases e | skip
  all_goals (try contradiction)
  cases rx with | d rx => cases ry with | d ry => cases rx; cases ry; exact ⟨_, _, rfl, rfl, p.dat rh (.i _)⟩
theorem op_fdivJ : OpR X (binaryOp .FloorDiv) (rJ2 X.K fun h u w => binop h .fdiv u w) := by
  refine OpR.mono op_fdiv ?_
  rintro x y H Q ⟨ι, h, u, w, r, h', rh, rx, ry, e, p⟩
  replace e : binop h .fdiv u w = some (r, h') := e
  unfold binop at e
  split at e <;> first | cases e | skip
  all_goals (try contradiction)
  split at e
  · cases e
    cases rx with | d rx => cases ry with | d ry => cases rx; cases ry; exact ⟨_, _, rfl, rfl, by assumption, p.dat rh (.i _)⟩
  · cases e
theorem op_modJ : OpR X (binaryOp .Mod) (rJ2 X.K fun h u w => binop h .mod u w) := by
  refine OpR.mono op_mod ?_
  rintro x y H Q ⟨ι, h, u, w, r, h', rh, rx, ry, e, p⟩
  replace e : binop h .mod u w = some (r, h') := e
  unfold binop at e
  split at e <;> first | cases e | skip
  all_goals (try contradiction)
  split at e
  · cases e
    cases rx with | d rx => cases ry with | d ry => cases rx; cases ry; exact ⟨_, _, rfl, rfl, by assumption, p.dat rh (.i _)⟩
  · cases e
theorem op_powJ : OpR X (binaryOp .Pow) (rJ2 X.K fun h u w => binop h .pow u w) := by
  refine OpR.mono op_pow ?_
  rintro x y H Q ⟨ι, h, u, w, r, h', rh, rx, ry, e, p⟩
  replace e : binop h .pow u w = some (r, h') := e
  unfold binop at e
  split at e <;> first | cases e | skip
  all_goals (try contradiction)
  split at e
  · cases e
    cases rx with | d rx => cases ry with | d ry => cases rx; cases ry; exact ⟨_, _, rfl, rfl, by assumption, p.dat rh (.i _)⟩
  · cases e

/-! ### comparisons -/
def rJc (K : Fg) (f : LH → W → W → Option Bool) : R2 := fun x y H Q => ∃ ι h u w b, RH K H ι h ∧ RW K H ι x u ∧ RW K H ι y w ∧ f h u w = some b ∧ Q (.bl b) H
theorem op_intJ {op : CmpOp} {co : COp} {g : Int → Int → Bool} (ho : OpR X (compareOp op) (rI0 fun i j => .bl (g i j))) (hc : ∀ h u w b, cmpop h co u w = some b → ∃ x y, u = .d (.i x) ∧ w = .d (.i y) ∧ b = g x y) :
    OpR X (compareOp op) (rJc X.K fun h u w => cmpop h co u w) := by
  refine OpR.mono ho ?_
  rintro x y H Q ⟨ι, h, u, w, b, rh, rx, ry, e, p⟩
  obtain ⟨i, j, rfl, rfl, rfl⟩ := hc h u w b e
  cases rx with | d rx => cases ry with | d ry => cases rx; cases ry; exact ⟨_, _, rfl, rfl, p⟩
theorem op_ltJ : OpR X (compareOp .Lt) (rJc X.K fun h u w => cmpop h .lt u w) := op_intJ op_lt fun h u w b e => by
  unfold cmpop at e; split at e <;> first | cases e | skip
  all_goals first | contradiction | exact ⟨_, _, rfl, rfl, rfl⟩
theorem op_leJ : OpR X (compareOp .LtE) (rJc X.K fun h u w => cmpop h .le u w) := op_intJ op_le fun h u w b e => by
  unfold cmpop at e; split at e <;> first | cases e | skip
  all_goals first | contradiction | exact ⟨_, _, rfl, rfl, rfl⟩
theorem op_gtJ : OpR X (compareOp .Gt) (rJc X.K fun h u w => cmpop h .gt u w) := op_intJ op_gt fun h u w b e => by
  unfold cmpop at e; split at e <;> first | cases e | skip
  all_goals first | contradiction | exact ⟨_, _, rfl, rfl, rfl⟩
theorem op_geJ : OpR X (compareOp .GtE) (rJc X.K fun h u w => cmpop h .ge u w) := op_intJ op_ge fun h u w b e => by
  unfold cmpop at e; split at e <;> first | cases e | skip
  all_goals first | contradiction | exact ⟨_, _, rfl, rfl, rfl⟩

/-- == of data -/
theorem eqv_comm_depth (a b : Nat) : min a b = min b a := Nat.min_comm a b
theorem op_eqDp {E : Bool} (hu : X.A.units + 65 < cLine) {pins : List (Addr × Obj)} {s : Shared} {σ : L2.St} {H : Hp} {x y : V} {v u : Value} {Q : VK} {d e : PyData} (I : Inv X pins σ H s) (rx : RelV x v) (ry : RelV y u)
    (hd : Dp X.K H x d) (he : Dp X.K H y e) (ld : d.canLay0 = true) (le : e.canLay0 = true) (hm : min d.depth e.depth ≤ 64) :
    (Q (.bl (PyData.eqv d e)) H → wpAny (model X.prog X.w) X.A (compareOp .Eq v u) (EP X pins σ Q) X.xe s) ∧
    (Q (.bl (!PyData.eqv d e)) H → wpAny (model X.prog X.w) X.A (compareOp .NotEq v u) (EP X pins σ Q) X.xe s) := by
  obtain ⟨as, r1⟩ := Dp.reads I d x v hd rx
  obtain ⟨bs, r2⟩ := Dp.reads I e y u he ry
  have room : X.A.units + min d.depth e.depth < cLine := by omega
  exact ⟨fun q => SeqAt.compareEq_reads r1 r2 ld le room ⟨.bl _, H, I, rfl, q⟩, fun q => SeqAt.compareNe_reads r1 r2 ld le room ⟨.bl _, H, I, rfl, q⟩⟩
theorem eqW_dp {K : Fg} {H : Hp} {ι : List Addr} {h : LH} {x y : V} {u w : W} {b : Bool} (rh : RH K H ι h) (rx : RW K H ι x u) (ry : RW K H ι y w) (e : eqW h u w = some b) :
    ∃ d d', Dp K H x d ∧ Dp K H y d' ∧ d.canLay0 = true ∧ d'.canLay0 = true ∧ min d.depth d'.depth ≤ 64 ∧ b = PyData.eqv d d' := by
  unfold eqW at e
  split at e
  · split at e
    · cases e
      cases rx with | d rx => cases ry with | d ry =>
        exact ⟨_, _, rx.dp, ry.dp, pd_lay _, pd_lay _, by rw [pd_depth, pd_depth]; assumption, (pd_eqv _ _).symm⟩
    · cases e
  · rename_i a c
    split at e
    · rename_i us ws h1 h2
      split at e
      · rename_i xs ys h3 h4
        split at e
        · cases e
          rename_i hm
          cases rx with | l rx => cases ry with | l ry =>
            obtain ⟨vs, g1, r1, _⟩ := rh.of rx h1
            obtain ⟨vs', g2, r2, _⟩ := rh.of ry h2
            refine ⟨.list (pdL xs), .list (pdL ys), .lst (SqL.of g1) (RDs.dp (r1.allD h3)), .lst (SqL.of g2) (RDs.dp (r2.allD h4)), ?_, ?_, ?_, ?_⟩
            · unfold PyData.canLay0; exact pdL_lay xs
            · unfold PyData.canLay0; exact pdL_lay ys
            · unfold PyData.depth; rw [pdL_depth, pdL_depth]; omega
            · unfold PyData.eqv; exact (pdL_eqv xs ys).symm
        · cases e
      · cases e
    · cases e
  · cases e
theorem op_eqJ (hu : X.A.units + 65 < cLine) : OpR X (compareOp .Eq) (rJc X.K fun h u w => cmpop h .eq u w) := by
  rintro pins s σ H x y v u Q I rx ry ⟨ι, h, u', w', b, rh, qx, qy, e, p⟩
  obtain ⟨d, d', h1, h2, l1, l2, hm, rfl⟩ := eqW_dp rh qx qy (show eqW h u' w' = some b from by simpa [cmpop] using e)
  exact (op_eqDp (E := true) hu I rx ry h1 h2 l1 l2 hm).1 p
theorem op_neJ (hu : X.A.units + 65 < cLine) : OpR X (compareOp .NotEq) (rJc X.K fun h u w => cmpop h .ne u w) := by
  rintro pins s σ H x y v u Q I rx ry ⟨ι, h, u', w', b, rh, qx, qy, e, p⟩
  obtain ⟨b', e', rfl⟩ := Option.map_eq_some_iff.mp (show (eqW h u' w').map (!·) = some b from by simpa [cmpop] using e)
  obtain ⟨d, d', h1, h2, l1, l2, hm, rfl⟩ := eqW_dp rh qx qy e'
  exact (op_eqDp (E := true) hu I rx ry h1 h2 l1 l2 hm).2 p
end
end J
set_option maxRecDepth 100000
namespace J
open PySem L2 PyProof.Rows
section
variable {X : Cx}
/-! ### in, not in -/
theorem items_sq {K : Fg} {H : Hp} {ι : List Addr} {h : LH} {v : V} {w : W} {ws : List W} (rh : RH K H ι h) (r : RW K H ι v w) (e : items h w = some ws) :
    ∃ a vs, v = .ref a ∧ RWs K H ι vs ws ∧ (SqL K H a vs ∨ SqT K H a vs) := by
  unfold items at e
  split at e
  · cases e
    cases r with | d r => cases r with | t t1 q1 => exact ⟨_, _, rfl, .data q1, .inr t1⟩
  · cases e
    cases r with | d r => cases r with | fl t1 q1 => exact ⟨_, _, rfl, .data q1, .inl t1.sq⟩
  · cases r with
    | l r =>
      obtain ⟨vs, g, q, _⟩ := rh.of r e
      exact ⟨_, _, rfl, q, .inl (SqL.of g)⟩
  · cases e
theorem inW_run {neg : Bool} (hu : X.A.units + 70 < cLine) {pins : List (Addr × Obj)} {s : Shared} {σ : L2.St} {H : Hp} {x y : V} {v u : Value} {Q : VK} {ι : List Addr} {h : LH} {u' w' : W} {b : Bool} (I : Inv X pins σ H s) (rx : RelV x v) (ry : RelV y u)
    (rh : RH X.K H ι h) (qx : RW X.K H ι x u') (qy : RW X.K H ι y w') (e : inW h u' w' = some b) :
    (Q (.bl b) H → wpAny (model X.prog X.w) X.A (compareOp .In v u) (EP X pins σ Q) X.xe s) ∧ (Q (.bl (!b)) H → wpAny (model X.prog X.w) X.A (compareOp .NotIn v u) (EP X pins σ Q) X.xe s) := by
  unfold inW at e
  split at e
  · rename_i x' ws hi
    split at e
    · rename_i xs ha
      split at e
      · cases e
        rename_i hd
        cases qx with
        | d qx =>
          obtain ⟨as, r1⟩ := Dp.reads I (pd x') x v qx.dp rx
          obtain ⟨a, vs, rfl, q, sq⟩ := items_sq rh qy hi
          have dsq := (q.allD ha).dp
          have room : X.A.units + 1 + min (PyData.depthAll (pdL xs)) (pd x').depth < cLine := by
            have : (pd x').depth ≤ 64 := by rw [pd_depth]; exact hd
            omega
          have ev : ((pdL xs).any fun y => PyData.eqv y (pd x')) = xs.any fun z => eqv z x' := by
            clear dsq room ha
            induction xs with
            | nil => rfl
            | cons z zs ih =>
              show (PyData.eqv (pd z) (pd x') || (pdL zs).any _) = _
              rw [pd_eqv, ih]; rfl
          rcases sq with sq | sq
          · obtain ⟨bs, r2⟩ := Dp.reads I (.list (pdL xs)) _ u (.lst sq dsq) ry
            exact ⟨fun q => SeqAt.in_list_reads r2 r1 (pdL_lay xs) (pd_lay x') room ⟨.bl _, H, I, rfl, by rw [ev]; exact q⟩, fun q => SeqAt.notIn_list_reads r2 r1 (pdL_lay xs) (pd_lay x') room ⟨.bl _, H, I, rfl, by rw [ev]; exact q⟩⟩
          · obtain ⟨bs, r2⟩ := Dp.reads I (.tuple (pdL xs)) _ u (.tup sq dsq) ry
            exact ⟨fun q => SeqAt.in_tuple_reads r2 r1 (pdL_lay xs) (pd_lay x') room ⟨.bl _, H, I, rfl, by rw [ev]; exact q⟩, fun q => SeqAt.notIn_tuple_reads r2 r1 (pdL_lay xs) (pd_lay x') room ⟨.bl _, H, I, rfl, by rw [ev]; exact q⟩⟩
      · cases e
    · cases e
  · cases e
theorem op_inJ (hu : X.A.units + 70 < cLine) : OpR X (compareOp .In) (rJc X.K fun h u w => cmpop h .isin u w) := by
  rintro pins s σ H x y v u Q I rx ry ⟨ι, h, u', w', b, rh, qx, qy, e, p⟩
  exact (inW_run (neg := false) hu I rx ry rh qx qy (show inW h u' w' = some b from by simpa [cmpop] using e)).1 p
theorem op_ninJ (hu : X.A.units + 70 < cLine) : OpR X (compareOp .NotIn) (rJc X.K fun h u w => cmpop h .nin u w) := by
  rintro pins s σ H x y v u Q I rx ry ⟨ι, h, u', w', b, rh, qx, qy, e, p⟩
  obtain ⟨b', e', rfl⟩ := Option.map_eq_some_iff.mp (show (inW h u' w').map (!·) = some b from by simpa [cmpop] using e)
  exact (inW_run (neg := true) hu I rx ry rh qx qy e').2 p

/-! ### items by their places -/
theorem ixN_eq (n : Nat) (i : Int) : J.ixN n i = L2.ixN n i := by
  unfold J.ixN L2.ixN
  split
  · rfl
  · by_cases c : 0 ≤ i + n
    · rw [if_pos c, if_pos (by omega)]
    · rw [if_neg c, if_neg (by omega)]
theorem ix_J : IxR X (rJ2 X.K index) := by
  have both := IxR.or (X := X) ix_list ix_tup
  intro value slice pins s σ H x y v u Q I rx ry q hs
  refine both value slice pins s σ H x y v u Q I rx ry ?_ hs
  obtain ⟨ι, h, u', w', r, h', rh, qx, qy, e, p⟩ := q
  unfold index at e
  split at e
  · rename_i i ws hi
    split at e
    · rename_i k hk
      split at e
      · rename_i w hw
        cases e
        obtain ⟨a, vs, rfl, q, sq⟩ := items_sq rh qx hi
        obtain ⟨z, hz, rz⟩ := q.get hw
        have at_ : atI vs i = some z := by
          unfold atI
          rw [q.length, ← ixN_eq, hk]
          exact hz
        cases qy with
        | d qy =>
          cases qy
          rcases sq with sq | sq
          · exact .inl ⟨_, _, _, _, rfl, rfl, sq, at_, p.same rh rz⟩
          · exact .inr ⟨_, _, _, _, rfl, rfl, sq, at_, p.same rh rz⟩
      · cases e
    · cases e
  · cases e

/-! ### slices -/
theorem cutAt_eq (n d : Nat) (i : Int) : cutAt n i = HT.sIx n d (some i) := rfl
theorem cutL_eq (vs : List V) (lo hi : Option Int) : cutL vs lo hi = cutV vs lo hi := by
  unfold cutL cutV
  cases lo <;> cases hi <;> simp only [HT.sIx, cutAt] <;> rw [List.drop_take]
theorem RWs.cut {K : Fg} {ι : List Addr} {H : Hp} {vs : List V} {ws : List W} (r : RWs K H ι vs ws) (lo hi : Option Int) : RWs K H ι (cutL vs lo hi) (cutL ws lo hi) := by
  unfold cutL
  rw [r.length]
  exact (r.take _).drop _
theorem RDs.take {K : Fg} {H : Hp} : ∀ {vs : List V} {ds : List D} (n : Nat), RDs K H vs ds → RDs K H (vs.take n) (ds.take n)
  | _, _, 0, _ => by simp; exact .nil
  | _, _, _ + 1, .nil => .nil
  | _, _, n + 1, .cons r t => .cons r (RDs.take n t)
theorem RDs.drop {K : Fg} {H : Hp} : ∀ {vs : List V} {ds : List D} (n : Nat), RDs K H vs ds → RDs K H (vs.drop n) (ds.drop n)
  | _, _, 0, r => r
  | _, _, _ + 1, .nil => .nil
  | _, _, n + 1, .cons _ t => RDs.drop n t
theorem RDs.cut {K : Fg} {H : Hp} {vs : List V} {ds : List D} (r : RDs K H vs ds) (lo hi : Option Int) : RDs K H (cutL vs lo hi) (cutL ds lo hi) := by
  unfold cutL
  rw [r.length]
  exact RDs.drop _ (RDs.take _ r)
theorem RDs.reverse {K : Fg} {H : Hp} : ∀ {vs : List V} {ds : List D}, RDs K H vs ds → RDs K H vs.reverse ds.reverse
  | _, _, .nil => .nil
  | _, _, .cons r t => by
    rw [List.reverse_cons, List.reverse_cons]
    exact RDs.append (RDs.reverse t) (.cons r .nil)
def rJs (K : Fg) : V → Option Int → Option Int → Hp → VK → Prop := fun x lo hi H Q => ∃ ι h u r h', RH K H ι h ∧ RW K H ι x u ∧ slice h u lo hi = some (r, h') ∧ Post K ι H r h' Q
theorem sl_J : SlR X (rJs X.K) := by
  have both := SlR.or (X := X) sl_tupA sl_list
  intro pins s σ H x v vl vu lo hi sl Q I rx hs pl pu q
  refine both pins s σ H x v vl vu lo hi sl Q I rx hs pl pu ?_
  obtain ⟨ι, h, u', r, h', rh, qx, e, p⟩ := q
  unfold slice at e
  split at e
  · cases e
    cases qx with | d qx => cases qx with
      | @t a vs ds t1 q1 =>
        refine .inl ⟨a, vs, rfl, t1, fun hw => ?_, fun _ => ?_⟩
        · refine p.dat rh (.t t1 ?_)
          have := q1.cut lo hi
          rw [cutL_eq] at this
          unfold cutV at this
          rw [hw.1, hw.2] at this
          simpa using this
        · have := q1.cut lo hi
          rw [cutL_eq] at this
          exact p.tup rh this
  · cases e
    cases qx with | d qx => cases qx with
      | @fl a vs ds t1 q1 =>
        refine .inr ⟨a, vs, rfl, t1.sq, ?_⟩
        have := q1.cut lo hi
        rw [cutL_eq] at this
        exact p.lst rh (.data this)
  · split at e
    · cases e
      rename_i ws hws
      cases qx with | l qx =>
        obtain ⟨vs, g, r1, _⟩ := rh.of qx hws
        refine .inr ⟨_, vs, rfl, SqL.of g, ?_⟩
        have := r1.cut lo hi
        rw [cutL_eq] at this
        exact p.lst rh this
    · cases e
  · cases e

/-! ### a op= b -/
theorem no_tuple_iadd : typeLookup (.type "tuple") (dunderI "add") = pure none := by rw [typeLookup_type, builtinLookup_eq_fast]; kernel_rfl
theorem iop_catA : OpR X (inplaceOp .Add) (rCatA X.K) := by
  intro pins s σ H x y v u Q I rx ry h
  obtain ⟨a, b, xs, ys, rfl, rfl, ha, hb, hz, q0, q1, q2⟩ := h
  cases rx
  cases ry
  obtain ⟨its, r1, p1, _⟩ := I.tuple ha
  obtain ⟨its2, r2, p2, _⟩ := I.tuple hb
  obtain ⟨⟨cls, dd, data, sl⟩, ho, hc, n, hd⟩ := id p1
  obtain ⟨⟨cls2, dd2, data2, sl2⟩, ho2, hc2, n2, hd2⟩ := id p2
  simp only at hc hd hc2 hd2
  subst hc hd hc2 hd2
  refine wpAny_inplaceOp_concat (T := "tuple") ⟨_, ho, rfl⟩ ⟨_, ho2, rfl⟩ no_tuple_iadd noFill_tuple_add seq_tuple_add ?_
  have hl1 := r1.length
  have hl2 := r2.length
  by_cases hx : xs = []
  · refine call_meets PySem.F.slot_tuple_add ⟨_, ho, rfl⟩ PySem.F.entry_tuple_add (PySem.F.args_tuple_add_2 _ _) (tuple_addW0 a b its.toArray its2.toArray n n2 dd dd2 sl sl2 ?_) ⟨ho, ho2, ⟨.ref b, H, I, rfl, q0 hx⟩⟩
    subst hx
    cases r1
    rfl
  · have e1 : ¬ its.toArray.isEmpty = true := by
      cases its with
      | nil => cases r1; exact absurd rfl hx
      | cons z zs => simp
    by_cases hy : ys = []
    · refine call_meets PySem.F.slot_tuple_add ⟨_, ho, rfl⟩ PySem.F.entry_tuple_add (PySem.F.args_tuple_add_2 _ _) (tuple_addW1 a b its.toArray its2.toArray n n2 dd dd2 sl sl2 e1 ?_) ⟨ho, ho2, ⟨.ref a, H, I, rfl, q1 hx hy⟩⟩
      subst hy
      cases r2
      rfl
    · have e2 : ¬ its2.toArray.isEmpty = true := by
        cases its2 with
        | nil => cases r2; exact absurd rfl hy
        | cons z zs => simp
      refine call_meets PySem.F.slot_tuple_add ⟨_, ho, rfl⟩ PySem.F.entry_tuple_add (PySem.F.args_tuple_add_2 _ _) (tuple_addW2 a b its.toArray its2.toArray n n2 dd dd2 sl sl2 e1 e2 (by rw [List.size_toArray, List.size_toArray, ← hl1, ← hl2]; exact hz)) ⟨ho, ho2, ?_⟩
      refine ⟨.ref s.heap.objs.size, _, I.laid (t' := s.toks) (o := .tup (xs ++ ys)) (fun b ob q => Heap.get?_push_of_some _ q) (Nat.le_refl _) ?_, rfl, q2 hx hy _ (I.hok.fresh (Nat.le_refl _))⟩
      refine ⟨by rw [List.length_append]; exact hz, its ++ its2, r1.append r2, ?_⟩
      have e : (its ++ its2).toArray = its.toArray ++ its2.toArray := by simp
      rw [e]
      exact IsTup.new _ _
end
end J
set_option maxRecDepth 100000
namespace J
open PySem L2 PyProof.Rows
section
variable {X : Cx}
/-! ### built-ins -/
def rJl (K : Fg) (f : LH → List W → Option (W × LH)) : List V → Hp → VK → Prop := fun xs H Q => ∃ ι h ws r h', RH K H ι h ∧ RWs K H ι xs ws ∧ f h ws = some (r, h') ∧ Post K ι H r h' Q
theorem CallR.mono {f : Value} {r r' : List V → Hp → VK → Prop} (h : CallR X f r) (m : ∀ xs H Q, r' xs H Q → r xs H Q) : CallR X f r' :=
  fun pins s σ H xs us Q I rx q => h pins s σ H xs us Q I rx (m _ _ _ q)
theorem RWs.one {K : Fg} {H : Hp} {ι : List Addr} {vs : List V} {w : W} (r : RWs K H ι vs [w]) : ∃ v, vs = [v] ∧ RW K H ι v w := by
  cases r with | cons a b => cases b; exact ⟨_, rfl, a⟩
theorem RWs.two {K : Fg} {H : Hp} {ι : List Addr} {vs : List V} {w w' : W} (r : RWs K H ι vs [w, w']) : ∃ v v', vs = [v, v'] ∧ RW K H ι v w ∧ RW K H ι v' w' := by
  cases r with | cons a b => cases b with | cons b c => cases c; exact ⟨_, _, rfl, a, b⟩
theorem len_J : CallR X (.builtin "len") (rJl X.K fun h ws => builtin h .len ws) := by
  refine CallR.mono call_len ?_
  rintro xs H Q ⟨ι, h, ws, r, h', rh, rw_, e, p⟩
  replace e : builtin h .len ws = some (r, h') := e
  unfold builtin at e
  split at e <;> first | cases e | skip
  all_goals (try contradiction)
  · obtain ⟨v, rfl, q⟩ := rw_.one
    cases q with | d q => cases q with | s q l => exact ⟨_, _, rfl, ⟨by rw [szl, q.len]; exact l, rfl⟩, by rw [q.len]; exact p.dat rh (.i _)⟩
  · split at e
    · cases e
      rename_i ws hi
      obtain ⟨v, rfl, q⟩ := rw_.one
      obtain ⟨a, vs, rfl, q, sq⟩ := items_sq rh q hi
      refine ⟨_, vs.length, rfl, ?_, by rw [q.length]; exact p.dat rh (.i _)⟩
      rcases sq with sq | sq
      · exact .inl ⟨_, sq, rfl⟩
      · exact .inr ⟨_, sq, rfl⟩
    · cases e
theorem tuple_J : CallR X (.type "tuple") (rJl X.K fun h ws => builtin h .tuple ws) := by
  refine CallR.mono call_tuple_of ?_
  rintro xs H Q ⟨ι, h, ws, r, h', rh, rw_, e, p⟩
  replace e : builtin h .tuple ws = some (r, h') := e
  unfold builtin at e
  split at e <;> first | cases e | skip
  all_goals (try contradiction)
  split at e
  · rename_i ws hi
    unfold mkT at e
    split at e
    · rename_i ds hd
      split at e
      · cases e
        obtain ⟨v, rfl, q⟩ := rw_.one
        obtain ⟨a, vs, rfl, q, sq⟩ := items_sq rh q hi
        have qd := q.allD hd
        refine ⟨_, vs, rfl, ?_⟩
        rcases sq with sq | sq
        · exact .inl ⟨sq, p.tup rh qd⟩
        · exact .inr ⟨sq, p.dat rh (.t sq qd)⟩
      · cases e
    · cases e
  · cases e
theorem list_J : CallR X (.type "list") (rJl X.K fun h ws => builtin h .list ws) := by
  refine CallR.mono call_list_of ?_
  rintro xs H Q ⟨ι, h, ws, r, h', rh, rw_, e, p⟩
  replace e : builtin h .list ws = some (r, h') := e
  unfold builtin at e
  split at e <;> first | cases e | skip
  all_goals (try contradiction)
  split at e
  · rename_i ws hi
    unfold new at e
    split at e
    · cases e
      obtain ⟨v, rfl, q⟩ := rw_.one
      obtain ⟨a, vs, rfl, q, sq⟩ := items_sq rh q hi
      exact ⟨_, vs, rfl, sq, p.lst rh q⟩
    · cases e
  · cases e
theorem int_J : CallR X (.type "int") (rJl X.K fun h ws => builtin h .int ws) := by
  refine CallR.mono call_int1 ?_
  rintro xs H Q ⟨ι, h, ws, r, h', rh, rw_, e, p⟩
  replace e : builtin h .int ws = some (r, h') := e
  unfold builtin at e
  split at e <;> first | cases e | skip
  all_goals (try contradiction)
  · obtain ⟨v, rfl, q⟩ := rw_.one
    cases q with | d q => cases q; exact .inl ⟨_, rfl, p.dat rh (.i _)⟩
  · obtain ⟨v, rfl, q⟩ := rw_.one
    cases q with | d q => cases q; exact .inr ⟨_, rfl, p.dat rh (.i _)⟩
theorem bool_J : CallR X (.type "bool") (rJl X.K fun h ws => builtin h .bool ws) := by
  refine CallR.mono call_bool1 ?_
  rintro xs H Q ⟨ι, h, ws, r, h', rh, rw_, e, p⟩
  replace e : builtin h .bool ws = some (r, h') := e
  unfold builtin bl at e
  split at e <;> first | cases e | skip
  all_goals (try contradiction)
  · obtain ⟨v, rfl, q⟩ := rw_.one
    cases q with | d q => cases q; exact .inl ⟨_, rfl, p.dat rh (.b _)⟩
  · obtain ⟨v, rfl, q⟩ := rw_.one
    cases q with | d q => cases q; exact .inr ⟨_, rfl, p.dat rh (.b _)⟩
theorem max2_J (hc : X.calm = true) : CallR X (.builtin "max") (rJl X.K fun h ws => builtin h .max2 ws) := by
  refine CallR.mono (call_max2 hc) ?_
  rintro xs H Q ⟨ι, h, ws, r, h', rh, rw_, e, p⟩
  replace e : builtin h .max2 ws = some (r, h') := e
  unfold builtin at e
  split at e <;> first | cases e | skip
  all_goals (try contradiction)
  obtain ⟨v, v', rfl, q, q'⟩ := rw_.two
  cases q with | d q => cases q; cases q' with | d q' => cases q'; exact ⟨_, _, rfl, p.dat rh (.i _)⟩
theorem min2_J (hc : X.calm = true) : CallR X (.builtin "min") (rJl X.K fun h ws => builtin h .min2 ws) := by
  refine CallR.mono (call_min2 hc) ?_
  rintro xs H Q ⟨ι, h, ws, r, h', rh, rw_, e, p⟩
  replace e : builtin h .min2 ws = some (r, h') := e
  unfold builtin at e
  split at e <;> first | cases e | skip
  all_goals (try contradiction)
  obtain ⟨v, v', rfl, q, q'⟩ := rw_.two
  cases q with | d q => cases q; cases q' with | d q' => cases q'; exact ⟨_, _, rfl, p.dat rh (.i _)⟩
theorem abs_J : CallR X (.builtin "abs") (rJl X.K fun h ws => builtin h .abs ws) := by
  refine CallR.mono call_abs ?_
  rintro xs H Q ⟨ι, h, ws, r, h', rh, rw_, e, p⟩
  replace e : builtin h .abs ws = some (r, h') := e
  unfold builtin at e
  split at e <;> first | cases e | skip
  all_goals (try contradiction)
  obtain ⟨v, rfl, q⟩ := rw_.one
  cases q with | d q => cases q; exact ⟨_, rfl, p.dat rh (.i _)⟩
theorem bools_map {K : Fg} {H : Hp} {ι : List Addr} : ∀ {vs : List V} {ws : List W} {bs : List Bool}, RWs K H ι vs ws → bools ws = some bs → vs = bs.map V.bl
  | _, _, bs, .nil, e => by simp [bools] at e; subst e; rfl
  | _, _, bs, .cons (w := .d (.b x)) (ws := ws) r t, e => by
    unfold bools at e
    cases q : bools ws with
    | none => rw [q] at e; cases e
    | some xs =>
      rw [q] at e; cases e
      cases r with | d r => cases r; rw [bools_map t q]; rfl
  | _, _, bs, .cons (w := .d .none) r t, e => by unfold bools at e; cases e
  | _, _, bs, .cons (w := .d (.i _)) r t, e => by unfold bools at e; cases e
  | _, _, bs, .cons (w := .d (.s _)) r t, e => by unfold bools at e; cases e
  | _, _, bs, .cons (w := .d (.t _)) r t, e => by unfold bools at e; cases e
  | _, _, bs, .cons (w := .d (.fl _)) r t, e => by unfold bools at e; cases e
  | _, _, bs, .cons (w := .l _) r t, e => by unfold bools at e; cases e
theorem all_J (hc : X.calm = true) : CallR X (.builtin "all") (rJl X.K fun h ws => builtin h .all ws) := by
  refine CallR.mono (cr_all hc) ?_
  rintro xs H Q ⟨ι, h, ws, r, h', rh, rw_, e, p⟩
  replace e : builtin h .all ws = some (r, h') := e
  unfold builtin bl at e
  split at e <;> first | cases e | skip
  all_goals (try contradiction)
  split at e
  · rename_i us hu
    split at e
    · rename_i bs hb
      cases e
      obtain ⟨v, rfl, q⟩ := rw_.one
      cases q with | l q =>
        obtain ⟨vs, g, r1, _⟩ := rh.of q hu
        exact ⟨_, bs, rfl, SqL.of (by rw [← bools_map r1 hb]; exact g), p.dat rh (.b _)⟩
    · cases e
  · cases e
theorem any_J (hc : X.calm = true) : CallR X (.builtin "any") (rJl X.K fun h ws => builtin h .any ws) := by
  refine CallR.mono (cr_any hc) ?_
  rintro xs H Q ⟨ι, h, ws, r, h', rh, rw_, e, p⟩
  replace e : builtin h .any ws = some (r, h') := e
  unfold builtin bl at e
  split at e <;> first | cases e | skip
  all_goals (try contradiction)
  split at e
  · rename_i us hu
    split at e
    · rename_i bs hb
      cases e
      obtain ⟨v, rfl, q⟩ := rw_.one
      cases q with | l q =>
        obtain ⟨vs, g, r1, _⟩ := rh.of q hu
        exact ⟨_, bs, rfl, SqL.of (by rw [← bools_map r1 hb]; exact g), p.dat rh (.b _)⟩
    · cases e
  · cases e

/-! ### isinstance -/
theorem RD.ty {K : Fg} {H : Hp} {v : V} {x : D} (r : RD K H v x) : ∃ T, TyX K H v (.type T) ∧ (T = "NoneType" ∧ x = .none ∨ T = "bool" ∧ (∃ b, x = .b b) ∨ T = "int" ∧ (∃ i, x = .i i) ∨ T = "str" ∧ (∃ s, x = .s s) ∨ T = "tuple" ∧ (∃ t, x = .t t) ∨ T = "list" ∧ ∃ t, x = .fl t) := by
  cases r with
  | non => exact ⟨_, .base .non, .inl ⟨rfl, rfl⟩⟩
  | b x => exact ⟨_, .base (.bl x), .inr (.inl ⟨rfl, _, rfl⟩)⟩
  | i x => exact ⟨_, .base (.int x), .inr (.inr (.inl ⟨rfl, _, rfl⟩))⟩
  | s e l => exact ⟨_, .base (.str _), .inr (.inr (.inr (.inl ⟨rfl, _, rfl⟩)))⟩
  | t h q =>
    refine ⟨"tuple", ?_, .inr (.inr (.inr (.inr (.inl ⟨rfl, _, rfl⟩))))⟩
    rcases h with (h | ⟨o, h⟩) | ⟨o, its, n, hk, hc, _⟩
    · exact .base (.tup h)
    · exact .fTuple h
    · exact .kTuple hk hc
  | fl h q =>
    refine ⟨"list", ?_, .inr (.inr (.inr (.inr (.inr ⟨rfl, _, rfl⟩))))⟩
    rcases h with ⟨o, h⟩ | ⟨o, its, n, hk, hc, _⟩
    · exact .base (.frz h)
    · exact .kList hk hc
theorem RW.ty {K : Fg} {H : Hp} {ι : List Addr} {h : LH} {v : V} {w : W} (rh : RH K H ι h) (r : RW K H ι v w) : ∃ T, TyX K H v (.type T) ∧ T ∈ ["NoneType", "bool", "int", "str", "tuple", "list"] ∧
    isIntW w = (T == "int" || T == "bool") ∧ isBoolW w = (T == "bool") ∧ isStrW w = (T == "str") ∧ isTupleW w = (T == "tuple") ∧ isListW w = (T == "list") := by
  cases r with
  | d r =>
    obtain ⟨T, h, c⟩ := r.ty
    refine ⟨T, h, ?_⟩
    rcases c with ⟨rfl, rfl⟩ | ⟨rfl, b, rfl⟩ | ⟨rfl, b, rfl⟩ | ⟨rfl, b, rfl⟩ | ⟨rfl, b, rfl⟩ | ⟨rfl, b, rfl⟩ <;> exact ⟨by decide, by rfl, by rfl, by rfl, by rfl, by rfl⟩
  | l r =>
    obtain ⟨vs, g⟩ := rh.mem (List.mem_of_getElem? r)
    exact ⟨"list", .base (.lst g), by decide, rfl, rfl, rfl, rfl, rfl⟩
def rIsJ (K : Fg) (T : String) (f : W → Bool) : List V → Hp → VK → Prop := fun xs H Q => ∃ ι h w x, RH K H ι h ∧ RW K H ι x w ∧ xs = [x, .ty T] ∧ Q (.bl (f w)) H
theorem isi_J {c : String} {f : W → Bool} (hk : ∀ (K : Fg) (H : Hp) (ι : List Addr) (h : LH) (v : V) (w : W), RH K H ι h → RW K H ι v w → ∃ t, TyX K H v t ∧ PySem.W.kitOne K t (.type c) = some (f w)) :
    CallR X (.builtin "isinstance") (rIsJ X.K c f) := by
  refine CallR.mono call_isi ?_
  rintro xs H Q ⟨ι, h, w, x, rh, rx, rfl, q⟩
  obtain ⟨t, ht, hk⟩ := hk _ _ _ _ _ _ rh rx
  exact ⟨_, _, _, _, _, rfl, .ty c, ht, hk, q⟩
theorem isInt_J : CallR X (.builtin "isinstance") (rIsJ X.K "int" isIntW) := isi_J fun K H ι h v w rh r => by
  obtain ⟨T, h, m, e1, e2, e3, e4, e5⟩ := r.ty rh
  refine ⟨_, h, ?_⟩
  rw [e1]
  simp only [List.mem_cons, List.not_mem_nil, or_false] at m
  rcases m with rfl | rfl | rfl | rfl | rfl | rfl <;> exact kit_ty (by decide +kernel)
theorem isBool_J : CallR X (.builtin "isinstance") (rIsJ X.K "bool" isBoolW) := isi_J fun K H ι h v w rh r => by
  obtain ⟨T, h, m, e1, e2, e3, e4, e5⟩ := r.ty rh
  refine ⟨_, h, ?_⟩
  rw [e2]
  simp only [List.mem_cons, List.not_mem_nil, or_false] at m
  rcases m with rfl | rfl | rfl | rfl | rfl | rfl <;> exact kit_ty (by decide +kernel)
theorem isStr_J : CallR X (.builtin "isinstance") (rIsJ X.K "str" isStrW) := isi_J fun K H ι h v w rh r => by
  obtain ⟨T, h, m, e1, e2, e3, e4, e5⟩ := r.ty rh
  refine ⟨_, h, ?_⟩
  rw [e3]
  simp only [List.mem_cons, List.not_mem_nil, or_false] at m
  rcases m with rfl | rfl | rfl | rfl | rfl | rfl <;> exact kit_ty (by decide +kernel)
theorem isTuple_J : CallR X (.builtin "isinstance") (rIsJ X.K "tuple" isTupleW) := isi_J fun K H ι h v w rh r => by
  obtain ⟨T, h, m, e1, e2, e3, e4, e5⟩ := r.ty rh
  refine ⟨_, h, ?_⟩
  rw [e4]
  simp only [List.mem_cons, List.not_mem_nil, or_false] at m
  rcases m with rfl | rfl | rfl | rfl | rfl | rfl <;> exact kit_ty (by decide +kernel)

/-! ### methods of lists -/
def rJm (K : Fg) (m : Me) : V → List V → Hp → VK → Prop := fun x xs H Q => ∃ ι h u ws r h', RH K H ι h ∧ RW K H ι x u ∧ RWs K H ι xs ws ∧ method h m u ws = some (r, h') ∧ Post K ι H r h' Q
theorem MtR.mono {id : String} {r r' : V → List V → Hp → VK → Prop} (h : MtR X id r) (m : ∀ x xs H Q, r' x xs H Q → r x xs H Q) : MtR X id r' :=
  fun pins s σ H x xs v us Q I rx rs q => h pins s σ H x xs v us Q I rx rs (m _ _ _ _ q)
theorem Post.wrote {K : Fg} {ι : List Addr} {H : Hp} {h : LH} {Q : VK} {a : Nat} {p : Addr} {vs : List V} {ws : List W} {v : V} {w : W} (q : Post K ι H w (h.set a ws) Q) (r : RH K H ι h) (ha : ι[a]? = some p) (rw_ : RWs K H ι vs ws) (ok : okAll a ws = true) (rv : RW K H ι v w) : Q v (upd H p (.lst vs)) := by
  obtain ⟨r', st⟩ := r.wrote ha rw_ ok
  exact q _ _ _ st r' (rv.mono st)
theorem okAll_append {a : Nat} : ∀ {xs ys : List W}, okAll a xs = true → okAll a ys = true → okAll a (xs ++ ys) = true
  | [], _, _, h => h
  | x :: xs, ys, h, h' => by
    unfold okAll at h
    rw [Bool.and_eq_true] at h
    show okAll a (x :: (xs ++ ys)) = true
    unfold okAll
    rw [h.1, okAll_append h.2 h']; rfl
theorem okAll_mem {a : Nat} : ∀ {xs : List W}, okAll a xs = true ↔ ∀ x ∈ xs, okIn a x = true
  | [] => by simp [okAll]
  | x :: xs => by
    unfold okAll
    rw [Bool.and_eq_true, okAll_mem]
    simp
theorem mt_appendJ : MtR X "list.append" (rJm X.K .append) := by
  refine MtR.mono mt_append ?_
  rintro x xs H Q ⟨ι, h, u, ws, r, h', rh, rx, rw_, e, p⟩
  unfold method at e
  split at e <;> first | cases e | skip
  all_goals (try contradiction)
  split at e
  · rename_i us hus
    split at e
    · cases e
      rename_i c
      obtain ⟨v, rfl, q⟩ := rw_.one
      cases rx with | l rx =>
        obtain ⟨vs, g, r1, ok⟩ := rh.of rx hus
        refine ⟨_, vs, v, rfl, rfl, g, by rw [szl, r1.length]; exact c.2, ?_⟩
        exact p.wrote rh rx (r1.append (.cons q .nil)) (okAll_append ok (by unfold okAll; rw [c.1]; rfl)) (.d .non)
    · cases e
  · cases e
theorem mt_extendJ : MtR X "list.extend" (rJm X.K .extend) := by
  refine MtR.mono mt_extend ?_
  rintro x xs H Q ⟨ι, h, u, ws, r, h', rh, rx, rw_, e, p⟩
  unfold method at e
  split at e <;> first | cases e | skip
  all_goals (try contradiction)
  split at e
  · rename_i us zs hus hzs
    split at e
    · cases e
      rename_i c
      obtain ⟨v, rfl, q⟩ := rw_.one
      cases rx with | l rx => cases q with | l q =>
        obtain ⟨vs, g, r1, ok⟩ := rh.of rx hus
        obtain ⟨vs', g', r1', ok'⟩ := rh.of q hzs
        refine ⟨_, _, vs, vs', rfl, rfl, g, g', by rw [szl, r1.length, r1'.length]; exact c.2, ?_⟩
        exact p.wrote rh rx (r1.append r1') (okAll_append ok c.1) (.d .non)
    · cases e
  · cases e
theorem mt_popJ : MtR X "list.pop" (rJm X.K .pop) := by
  refine MtR.mono mt_pop ?_
  rintro x xs H Q ⟨ι, h, u, ws, r, h', rh, rx, rw_, e, p⟩
  unfold method at e
  split at e <;> first | cases e | skip
  all_goals (try contradiction)
  split at e
  · rename_i us hus
    split at e
    · cases e
      rename_i hl
      cases rw_
      cases rx with | l rx =>
        obtain ⟨vs, g, r1, ok⟩ := rh.of rx hus
        obtain ⟨v, hv, q⟩ := r1.get (show us[us.length - 1]? = some _ from by rw [← List.getLast?_eq_getElem?]; exact hl)
        refine ⟨_, vs, v, rfl, rfl, g, by rw [r1.length]; exact hv, ?_⟩
        exact p.wrote rh rx r1.dropLast (okAll_mem.mpr fun z hz => okAll_mem.mp ok z ((List.dropLast_sublist _).subset hz)) q
    · cases e
  · cases e
theorem mt_reverseJ : MtR X "list.reverse" (rJm X.K .reverse) := by
  refine MtR.mono mt_reverse ?_
  rintro x xs H Q ⟨ι, h, u, ws, r, h', rh, rx, rw_, e, p⟩
  unfold method at e
  split at e <;> first | cases e | skip
  all_goals (try contradiction)
  split at e
  · cases e
    rename_i us hus
    cases rw_
    cases rx with | l rx =>
      obtain ⟨vs, g, r1, ok⟩ := rh.of rx hus
      refine ⟨_, vs, rfl, rfl, g, ?_⟩
      exact p.wrote rh rx r1.reverse (okAll_mem.mpr fun z hz => okAll_mem.mp ok z (List.mem_reverse.mp hz)) (.d .non)
  · cases e

/-! ### stores -/
def rJset (K : Fg) : TSet := fun o i v H Q => ∃ ι h u k w h', RH K H ι h ∧ RW K H ι o u ∧ RW K H ι i k ∧ RW K H ι v w ∧ setAt h u k w = some h' ∧ ∀ H' ι', Step ι H ι' H' → RH K H' ι' h' → Q H'
theorem PSet.mono {r r' : TSet} (h : PSet X r) (m : ∀ o i v H Q, r' o i v H Q → r o i v H Q) : PSet X r' := fun pins s σ H o i v ov iv u Q I r1 r2 r3 q => h pins s σ H o i v ov iv u Q I r1 r2 r3 (m _ _ _ _ _ q)
theorem set_J : PSet X (rJset X.K) := by
  refine PSet.mono set_list ?_
  rintro o i v H Q ⟨ι, h, u, k, w, h', rh, ro, ri, rv, e, q⟩
  unfold setAt at e
  split at e
  · rename_i a n
    split at e
    · rename_i ws hws
      split at e
      · rename_i j hj
        split at e
        · cases e
          rename_i ok
          cases ro with | l ro => cases ri with | d ri => cases ri with | i =>
            obtain ⟨vs, g, r1, ok1⟩ := rh.of ro hws
            refine ⟨_, vs, n, j, rfl, rfl, g, by rw [r1.length, ← ixN_eq]; exact hj, ?_⟩
            obtain ⟨r', st⟩ := rh.wrote ro (r1.set rv j) (okAll_mem.mpr fun z hz => by
              rcases List.mem_or_eq_of_mem_set hz with y | y
              · exact okAll_mem.mp ok1 z y
              · rw [y]; exact ok)
            exact q _ _ st r'
        · cases e
      · cases e
    · cases e
  · cases e

/-! ### a op= b -/
theorem iop_addJ : OpR X (inplaceOp .Add) (rJ2 X.K fun h u w => augop h .add u w) := by
  refine OpR.mono (OpR.or iop_add (OpR.or iop_catA (OpR.or iop_add_str iop_ext))) ?_
  rintro x y H Q ⟨ι, h, u, w, r, h', rh, rx, ry, e, p⟩
  replace e : augop h .add u w = some (r, h') := e
  unfold augop at e
  split at e <;> first | contradiction | skip
  · split at e
    · rename_i c
      split at e
      · rename_i us zs hus hzs
        split at e
        · cases e
          rename_i c
          cases rx with | l rx => cases ry with | l q =>
            obtain ⟨vs, g, r1, ok⟩ := rh.of rx hus
            obtain ⟨vs', g', r1', ok'⟩ := rh.of q hzs
            refine .inr (.inr (.inr ⟨_, _, vs, vs', rfl, rfl, g, g', by rw [szl, r1.length, r1'.length]; exact c.2, ?_⟩))
            exact p.wrote rh rx (r1.append r1') (okAll_append ok c.1) (.l rx)
        · cases e
      · cases e
    · cases e
  · rcases binop_add (K := X.K) e with ⟨a, b, he, rfl, rfl, rfl⟩ | ⟨xs, ys, he, rfl, z, rfl, rfl⟩ | ⟨a, b, he, rfl, z, rfl, rfl⟩ | ⟨a, c, xs, ys, he, _⟩
    · cases he; cases rx with | d rx => cases ry with | d ry => cases rx; cases ry; exact .inl ⟨_, _, rfl, rfl, p.dat rh (.i _)⟩
    · cases he
      cases rx with
      | d rx => cases ry with
        | d ry => cases rx with
          | @t a vs _ t1 q1 => cases ry with
            | @t b us _ t2 q2 =>
              refine .inr (.inl ⟨_, _, _, _, rfl, rfl, t1, t2, by rw [szl, q1.length, q2.length]; exact z, fun e => ?_, fun _ e => ?_, fun _ _ => ?_⟩)
              · subst e
                cases q1
                exact p.dat rh (.t t2 q2)
              · subst e
                cases q2
                rw [List.append_nil] at p
                exact p.dat rh (.t t1 q1)
              · exact p.tup rh (q1.append q2)
    · cases he; cases rx with | d rx => cases ry with | d ry => cases rx with | s e1 l1 => cases ry with | s e2 l2 => exact .inr (.inr (.inl ⟨_, _, rfl, rfl, by rw [szl, e1.len, e2.len]; exact z, p.dat rh (.s (e1.append e2) (by rw [String.length_append]; exact z))⟩))
    · cases he
theorem binop_sub {h : LH} {u w r : W} {h' : LH} (e : binop h .sub u w = some (r, h')) : ∃ x y, u = .d (.i x) ∧ w = .d (.i y) ∧ r = .d (.i (x - y)) ∧ h' = h := by
  unfold binop at e
  split at e <;> first | cases e | skip
  all_goals (try contradiction)
  exact ⟨_, _, rfl, rfl, rfl, rfl⟩
theorem iop_subJ : OpR X (inplaceOp .Sub) (rJ2 X.K fun h u w => augop h .sub u w) := by
  refine OpR.mono iop_sub ?_
  rintro x y H Q ⟨ι, h, u, w, r, h', rh, rx, ry, e, p⟩
  replace e : augop h .sub u w = some (r, h') := e
  unfold augop at e
  split at e <;> first | contradiction | skip
  obtain ⟨a, b, he, rfl, rfl, rfl⟩ := binop_sub e
  cases he
  cases rx with | d rx => cases ry with | d ry => cases rx; cases ry; exact ⟨_, _, rfl, rfl, p.dat rh (.i _)⟩
end
end J
set_option maxRecDepth 100000
set_option maxHeartbeats 4000000
namespace J
open PySem L2 PyProof.Rows
theorem tuple_mulSame (l : Addr) (items : Array Value) (n : Nat) (dd : Option Addr) (sl : Array (Option Value)) (x : Int) (u : Tok) (c0 : (decide (x < -(2 ^ 63)) || decide (x ≥ 2 ^ 63)) = false) (c1 : (items.isEmpty || x == 1) = true) :
    Meets (Builtin.«tuple.__mul__» ⟨[.ref l, .int x u], []⟩) (fun _ R s => s.heap.get? l = some { cls := .type "tuple", dict := dd, data := .seq items n, slots := sl } ∧
      R (.ok (.ret (Value.ref l))) s) :=
  .of_wp fun prog w A R s h => by
    obtain ⟨hp, g, d, tk, os⟩ := s
    obtain ⟨hl, h⟩ := h
    have f1 := AutoSeq1.idx_int
    wp_walk using wpAny_loadPart' hl
    repeat (first
      | (refine wpAny_ite_false (decide_eq_false (by rw [c0]; exact Bool.false_ne_true)) ?_; wp_walk using wpAny_loadPart' hl)
      | (refine wpAny_ite_true (decide_eq_true c1) ?_; wp_walk using wpAny_loadPart' hl))
    exact ⟨_, rfl, h⟩
theorem rep_eq {α : Type} (xs : List α) : ∀ n, rep xs n = (List.replicate n xs).flatten
  | 0 => rfl
  | n + 1 => by rw [List.replicate_succ, List.flatten_cons, ← rep_eq xs n]; rfl
theorem rep_nil {α : Type} : ∀ n, rep ([] : List α) n = []
  | 0 => rfl
  | n + 1 => by show [] ++ rep [] n = _; rw [rep_nil n]; rfl
theorem RDs.rep {K : Fg} {H : Hp} {vs : List V} {ds : List D} (r : RDs K H vs ds) : ∀ n : Nat, RDs K H (rep vs n) (rep ds n)
  | 0 => .nil
  | n + 1 => RDs.append r (RDs.rep r n)
section
variable {X : Cx}
def rRepS (K : Fg) : R2 := fun x y H Q => ∃ l k xs, x = .ref l ∧ y = .int k ∧ SqT K H l xs ∧ (xs = [] ∨ k = 1) ∧ 1 ≤ k ∧ k ≤ 1000 ∧ Q (.ref l) H
theorem op_repS : OpR X (binaryOp .Mult) (rRepS X.K) := by
  intro pins s σ H x y v u Q I rx ry h
  obtain ⟨l, k, xs, rfl, rfl, hT, hk, h1, h2, q⟩ := h
  cases rx
  obtain ⟨t, rfl⟩ := ry
  obtain ⟨its, r, ⟨⟨cls, dd, data, sl⟩, ho, hc, n, hd⟩, hs⟩ := I.tuple hT
  simp only at hc hd
  subst hc hd
  have c0 : (decide (k < -(2 ^ 63)) || decide (k ≥ 2 ^ 63)) = false := by
    rw [decide_eq_false (by omega), decide_eq_false (by omega)] <;> rfl
  have c1 : (its.toArray.isEmpty || k == 1) = true := by
    rcases hk with rfl | rfl
    · cases r; rfl
    · rw [beq_self_eq_true, Bool.or_true]
  refine wpAny_binaryOp_repeat_ref (T := "tuple") (U := "int") (by decide) ⟨_, ho, rfl⟩ (fun s' => typeIs_int s' k t) noFill_tuple_mul PySem.F.fills_int_mul PySem.F.slot_int_rmul repeat_tuple PySem.F.slot_int_index.lookup
    (call_meets PySem.F.slot_int_rmul (typeIs_int s k t) PySem.F.entry_int_rmul (PySem.F.args_int_rmul_2 _ _) (int_rmul_tuple k t l its.toArray n dd sl)
      ⟨ho, rfl, ⟨_, ho, rfl⟩, call_meets PySem.F.slot_tuple_mul ⟨_, ho, rfl⟩ PySem.F.entry_tuple_mul (PySem.F.args_tuple_mul_2 _ _) (tuple_mulSame l its.toArray n dd sl k t c0 c1) ⟨ho, ?_⟩⟩)
  exact ⟨.ref l, H, I, rfl, q⟩
theorem binop_mul {h : LH} {u w r : W} {h' : LH} (e : binop h .mul u w = some (r, h')) :
    (∃ x y, u = .d (.i x) ∧ w = .d (.i y) ∧ CMul x y ∧ r = .d (.i (x * y)) ∧ h' = h) ∨
    (∃ xs n, u = .d (.t xs) ∧ w = .d (.i n) ∧ xs.length ≤ 1000 ∧ 1 ≤ n ∧ n ≤ 1000 ∧ r = .d (.t (rep xs n.toNat)) ∧ h' = h) ∨
    (∃ a n xs, u = .l a ∧ w = .d (.i n) ∧ h[a]? = some xs ∧ xs.length * n.toNat ≤ SZ ∧ -SZ ≤ n ∧ n ≤ SZ ∧ r = .l h.length ∧ h' = h ++ [rep xs n.toNat]) := by
  unfold binop at e
  split at e <;> first | cases e | skip
  all_goals (try contradiction)
  · split at e
    · cases e; exact .inl ⟨_, _, rfl, rfl, by assumption, rfl, rfl⟩
    · cases e
  · split at e
    · cases e; rename_i c; exact .inr (.inl ⟨_, _, rfl, rfl, c.1, c.2.1, c.2.2, rfl, rfl⟩)
    · cases e
  · split at e
    · split at e
      · cases e; rename_i c; exact .inr (.inr ⟨_, _, _, rfl, rfl, by assumption, c.1, c.2.1, c.2.2, rfl, rfl⟩)
      · cases e
    · cases e
theorem op_mulJ : OpR X (binaryOp .Mult) (rJ2 X.K fun h u w => binop h .mul u w) := by
  refine OpR.mono (OpR.or op_mul (OpR.or op_repT (OpR.or op_repS op_rep))) ?_
  rintro x y H Q ⟨ι, h, u, w, r, h', rh, rx, ry, e, p⟩
  rcases binop_mul e with ⟨a, b, rfl, rfl, c, rfl, rfl⟩ | ⟨xs, n, rfl, rfl, c1, c2, c3, rfl, rfl⟩ | ⟨a, n, xs, rfl, rfl, ha, c1, c2, c3, rfl, rfl⟩
  · cases rx with | d rx => cases ry with | d ry => cases rx; cases ry; exact .inl ⟨_, _, rfl, rfl, c, p.dat rh (.i _)⟩
  · cases rx with | d rx => cases ry with | d ry => cases ry; cases rx with
      | @t a vs _ t1 q1 =>
        by_cases hs : vs = [] ∨ n = 1
        · refine .inr (.inr (.inl ⟨a, n, vs, rfl, rfl, t1, hs, c2, c3, p.dat rh (.t t1 ?_)⟩))
          rcases hs with rfl | rfl
          · cases q1; rw [rep_nil]; exact .nil
          · show RDs X.K H vs (xs ++ [])
            rw [List.append_nil]; exact q1
        · refine .inr (.inl ⟨a, n, vs, rfl, rfl, t1, fun e => hs (.inl e), ?_, c3, by rw [q1.length]; exact c1, ?_⟩)
          · rcases Int.lt_or_eq_of_le c2 with z | z
            · omega
            · exact absurd (.inr z.symm) hs
          · rw [← rep_eq]
            exact p.tup rh (RDs.rep q1 _)
  · cases rx with | l rx => cases ry with | d ry => cases ry with
      | i =>
        obtain ⟨vs, g, r1, ok⟩ := rh.of rx ha
        refine .inr (.inr (.inr ?_))
        have hp := p.lst rh (r1.rep n.toNat)
        rw [rep_eq] at hp
        refine ⟨_, n, vs, rfl, rfl, g, ?_, ?_, ?_, hp⟩ <;> first | (rw [szl, r1.length]; exact c1) | (have z : ((SZ : Nat) : Int) = 16777216 := rfl; omega)
theorem op_binJ : ∀ op : BOp, OpR X (binaryOp (match op with | .add => .Add | .sub => .Sub | .mul => .Mult | .fdiv => .FloorDiv | .mod => .Mod | .pow => .Pow)) (rJ2 X.K fun h u w => binop h op u w)
  | .add => op_addJ
  | .sub => op_subJ
  | .mul => op_mulJ
  | .fdiv => op_fdivJ
  | .mod => op_modJ
  | .pow => op_powJ
theorem op_cmpJ (hu : X.A.units + 70 < cLine) : ∀ op : COp, OpR X (compareOp (match op with | .lt => .Lt | .le => .LtE | .gt => .Gt | .ge => .GtE | .eq => .Eq | .ne => .NotEq | .isin => .In | .nin => .NotIn)) (rJc X.K fun h u w => cmpop h op u w)
  | .lt => op_ltJ
  | .le => op_leJ
  | .gt => op_gtJ
  | .ge => op_geJ
  | .eq => op_eqJ (by omega)
  | .ne => op_neJ (by omega)
  | .isin => op_inJ hu
  | .nin => op_ninJ hu
end
end J
set_option maxRecDepth 100000
namespace J
open PySem L2 PyProof.Rows
/-! What J's evaluator says, as readings of the hand layer. -/
structure Rl (K : Fg) (σ : L2.St) (H : Hp) (ρ : Env) (ι : List Addr) (h : LH) : Prop where
  rh : RH K H ι h
  env : ∀ (i : Nat) (w : W), ρ[i]? = some (some w) → ∃ v, σ[i]? = some (some v) ∧ RW K H ι v w
section
variable {K : Fg} {σ : L2.St} {H H' : Hp} {ρ : Env} {ι ι' : List Addr} {h h' : LH}
theorem Rl.mono (r : Rl K σ H ρ ι h) (st : Step ι H ι' H') (r' : RH K H' ι' h') : Rl K σ H' ρ ι' h' :=
  ⟨r', fun i w e => by obtain ⟨v, q, rw_⟩ := r.env i w e; exact ⟨v, q, rw_.mono st⟩⟩
theorem Rl.set (r : Rl K σ H ρ ι h) (hl : ρ.length ≤ σ.length) {i : Nat} {v : V} {w : W} (q : RW K H ι v w) : Rl K (σ.set i (some v)) H (ρ.set i (some w)) ι h :=
  ⟨r.rh, fun j u e => by
    by_cases hj : i = j
    · subst hj
      by_cases hi : i < ρ.length
      · rw [List.getElem?_set_self hi] at e
        cases e
        exact ⟨v, by rw [List.getElem?_set_self (by omega)], q⟩
      · rw [List.getElem?_eq_none (by simp; omega)] at e; cases e
    · rw [List.getElem?_set_ne hj] at e
      rw [List.getElem?_set_ne hj]
      exact r.env j u e⟩
end
/-- with equal lengths -/
structure Rs (K : Fg) (σ : L2.St) (H : Hp) (ρ : Env) (ι : List Addr) (h : LH) : Prop where
  rl : Rl K σ H ρ ι h
  len : ρ.length = σ.length
section
variable {K : Fg} {σ : L2.St} {H H' : Hp} {ρ : Env} {ι ι' : List Addr} {h h' : LH}
theorem Rs.rh (r : Rs K σ H ρ ι h) : RH K H ι h := r.rl.rh
theorem Rs.mono (r : Rs K σ H ρ ι h) (st : Step ι H ι' H') (r' : RH K H' ι' h') : Rs K σ H' ρ ι' h' := ⟨r.rl.mono st r', r.len⟩
theorem Rs.set (r : Rs K σ H ρ ι h) {i : Nat} {v : V} {w : W} (q : RW K H ι v w) : Rs K (σ.set i (some v)) H (ρ.set i (some w)) ι h := ⟨r.rl.set (by rw [r.len]; exact Nat.le_refl _) q, by simp [r.len]⟩
theorem wipe_get {σ : L2.St} {j : Nat} : ∀ {vs : List Nat}, (L2.wipe σ vs)[j]? = if j ∈ vs then (σ[j]?).map (fun _ => none) else σ[j]?
  | [] => by simp [L2.wipe]
  | v :: vs => by
    unfold L2.wipe
    by_cases hv : v = j
    · subst hv
      have hl : (L2.wipe σ vs).length = σ.length := wipe_length σ vs
      rw [if_pos (by simp)]
      by_cases hj : v < σ.length
      · rw [List.getElem?_set_self (by omega), List.getElem?_eq_getElem hj]; rfl
      · rw [List.getElem?_eq_none (by simp; omega), List.getElem?_eq_none (by omega)]; rfl
    · rw [List.getElem?_set_ne hv, wipe_get (vs := vs)]
      have : (j ∈ v :: vs) = (j ∈ vs) := by simp [Ne.symm hv]
      simp only [this]
theorem wipeJ_get {ρ : Env} {j : Nat} : ∀ {vs : List Nat}, (J.wipe ρ vs)[j]? = if j ∈ vs then (ρ[j]?).map (fun _ => none) else ρ[j]?
  | [] => by simp [J.wipe]
  | v :: vs => by
    have hlen : ∀ vs : List Nat, (J.wipe ρ vs).length = ρ.length := by
      intro vs
      induction vs with
      | nil => rfl
      | cons a b ih => unfold J.wipe; rw [List.length_set, ih]
    unfold J.wipe
    by_cases hv : v = j
    · subst hv
      rw [if_pos (by simp)]
      by_cases hj : v < ρ.length
      · rw [List.getElem?_set_self (by rw [hlen]; omega), List.getElem?_eq_getElem hj]; rfl
      · rw [List.getElem?_eq_none (by simp [hlen]; omega), List.getElem?_eq_none (by omega)]; rfl
    · rw [List.getElem?_set_ne hv, wipeJ_get (vs := vs)]
      have : (j ∈ v :: vs) = (j ∈ vs) := by simp [Ne.symm hv]
      simp only [this]
theorem wipeJ_length (ρ : Env) : ∀ vs, (J.wipe ρ vs).length = ρ.length
  | [] => rfl
  | v :: vs => by unfold J.wipe; rw [List.length_set, wipeJ_length ρ vs]
theorem Rs.wipe (r : Rs K σ H ρ ι h) (vs : List Nat) : Rs K (L2.wipe σ vs) H (J.wipe ρ vs) ι h := by
  refine ⟨⟨r.rh, fun i w e => ?_⟩, by rw [wipe_length, wipeJ_length, r.len]⟩
  rw [wipeJ_get] at e
  rw [wipe_get]
  by_cases hi : i ∈ vs
  · rw [if_pos hi] at e
    cases q : ρ[i]? with
    | none => rw [q] at e; cases e
    | some z => rw [q] at e; cases e
  · rw [if_neg hi] at e ⊢
    exact r.rl.env i w e
/-- the names of the block set: wiped they are as before -/
def SameOut (σ σ' : L2.St) (vs : List Nat) : Prop := σ.length = σ'.length ∧ ∀ j, j ∉ vs → σ[j]? = σ'[j]?
theorem SameOut.wipe {σ σ' : L2.St} {vs : List Nat} (h : SameOut σ σ' vs) : L2.wipe σ vs = L2.wipe σ' vs := by
  refine List.ext_getElem? fun j => ?_
  rw [wipe_get, wipe_get]
  by_cases hj : j ∈ vs
  · rw [if_pos hj, if_pos hj]
    by_cases hl : j < σ.length
    · rw [List.getElem?_eq_getElem hl, List.getElem?_eq_getElem (by rw [← h.1]; exact hl)] <;> rfl
    · rw [List.getElem?_eq_none (by omega), List.getElem?_eq_none (by rw [← h.1]; omega)] <;> rfl
  · rw [if_neg hj, if_neg hj]; exact h.2 j hj
theorem SameOut.wiped (σ : L2.St) (vs : List Nat) : SameOut (L2.wipe σ vs) σ vs := ⟨wipe_length σ vs, fun j hj => by rw [wipe_get, if_neg hj]⟩
theorem SameOut.trans {σ σ1 σ2 : L2.St} {vs : List Nat} (a : SameOut σ σ1 vs) (b : SameOut σ1 σ2 vs) : SameOut σ σ2 vs := ⟨a.1.trans b.1, fun j hj => (a.2 j hj).trans (b.2 j hj)⟩
theorem SameOut.set (σ : L2.St) {vs : List Nat} {i : Nat} (hi : i ∈ vs) (v : Option V) : SameOut (σ.set i v) σ vs := ⟨by simp, fun j hj => List.getElem?_set_ne (by rintro rfl; exact hj hi)⟩
theorem SameOut.sub {σ σ' : L2.St} {vs ws : List Nat} (h : SameOut σ σ' vs) (s : ∀ i ∈ vs, i ∈ ws) : SameOut σ σ' ws := ⟨h.1, fun j hj => h.2 j fun z => hj (s j z)⟩

/-! ### targets -/
def gNames : List Nat → TGs
  | [] => gNil
  | i :: r => gCons (gName i) (gNames r)
def gT (K : Fg) : Tg → TG
  | .n i => gName i
  | .t is => gTup K is.length (gNames is)
theorem gNames_red : ∀ {is : List Nat} {vs : List V} {ds : List D} {σ : L2.St} {ρ : Env} {k : L2.St → Hp → Prop}, RDs K H vs ds → vs.length = is.length → Rs K σ H ρ ι h →
    (∀ σ', Rs K σ' H (setMany is ds ρ) ι h → SameOut σ' σ is → k σ' H) → gNames is vs σ H k
  | [], [], _, σ, ρ, k, .nil, _, r, q => ⟨rfl, q σ (by simpa [setMany] using r) ⟨rfl, fun _ _ => rfl⟩⟩
  | i :: is, v :: vs, _, σ, ρ, k, .cons (d := d) (ds := ds) hd hr, e, r, q => by
    refine ⟨v, vs, rfl, ?_⟩
    refine gNames_red hr (by simpa using e) (r.set (.d hd)) fun σ' r' so => ?_
    refine q σ' ?_ ((so.sub (fun j hj => List.mem_cons_of_mem _ hj)).trans (SameOut.set σ List.mem_cons_self _))
    show Rs K σ' H (setMany is ds (ρ.set i (some (.d d)))) ι h
    exact r'
theorem gT_red {tg : Tg} {v : V} {w : W} {ρ' : Env} {k : L2.St → Hp → Prop} (rv : RW K H ι v w) (r : Rs K σ H ρ ι h) (e : setT tg w ρ = some ρ')
    (q : ∀ σ', Rs K σ' H ρ' ι h → SameOut σ' σ tg.slots → k σ' H) : gT K tg v σ H k := by
  cases tg with
  | n i =>
    cases e
    exact q _ (r.set rv) (SameOut.set σ (by simp [Tg.slots]) _)
  | t is =>
    cases rv with
    | l z => cases e
    | d rv => cases rv with
      | non => cases e
      | b _ => cases e
      | i _ => cases e
      | s _ _ => cases e
      | fl _ _ => cases e
      | @t a vs ds t1 q1 =>
        have e1 : (if ds.length = is.length then some (setMany is ds ρ) else none) = some ρ' := e
        by_cases hl : ds.length = is.length
        · rw [if_pos hl] at e1
          cases e1
          exact ⟨a, vs, rfl, t1, by rw [q1.length, hl], gNames_red q1 (by rw [q1.length, hl]) r q⟩
        · rw [if_neg hl] at e1
          cases e1
end

/-! ### readings -/
def tE (C : Ctx) (K : Fg) (e : E) : TE := fun σ H Q => ∃ ρ h ι w h', Rs K σ H ρ ι h ∧ ev C e ρ h = some (w, h') ∧ Post K ι H w h' Q
def tB' (C : Ctx) (K : Fg) (e : E) : TT := fun σ H Q => ∃ ρ h ι b h', Rs K σ H ρ ι h ∧ ev C e ρ h = some (.d (.b b), h') ∧ PostB K ι H b h' Q
def tAs (C : Ctx) (K : Fg) (es : List E) : TA := fun σ H Q => ∃ ρ h ι ws h', Rs K σ H ρ ι h ∧ evs C es ρ h = some (ws, h') ∧ PostL K ι H ws h' Q
def PostS (K : Fg) (ι : List Addr) (H : Hp) (f : Fl) (ρ' : Env) (h' : LH) (D : Ends) : Prop := match f with
  | .nxt => ∀ σ' H' ι', Step ι H ι' H' → Rs K σ' H' ρ' ι' h' → D.nx σ' H'
  | .brk => ∀ σ' H' ι', Step ι H ι' H' → Rs K σ' H' ρ' ι' h' → D.bk σ' H'
  | .cnt => ∀ σ' H' ι', Step ι H ι' H' → Rs K σ' H' ρ' ι' h' → D.ct σ' H'
  | .ret w => Post K ι H w h' D.rt
def tSt (C : Ctx) (K : Fg) (s : S) : TS := fun D σ H => ∃ ρ h ι f ρ' h', Rs K σ H ρ ι h ∧ exec C s ρ h = some (f, ρ', h') ∧ PostS K ι H f ρ' h' D
def tSs (C : Ctx) (K : Fg) (s : List S) : TS := fun D σ H => ∃ ρ h ι f ρ' h', Rs K σ H ρ ι h ∧ execs C s ρ h = some (f, ρ', h') ∧ PostS K ι H f ρ' h' D
theorem PostS.step {K : Fg} {ι ι1 : List Addr} {H H1 : Hp} {f : Fl} {ρ' : Env} {h' : LH} {D : Ends} (p : PostS K ι H f ρ' h' D) (st : Step ι H ι1 H1) : PostS K ι1 H1 f ρ' h' D := by
  cases f with
  | nxt => exact fun σ' H' ι' s r => p σ' H' ι' (st.trans s) r
  | brk => exact fun σ' H' ι' s r => p σ' H' ι' (st.trans s) r
  | cnt => exact fun σ' H' ι' s r => p σ' H' ι' (st.trans s) r
  | ret w => exact Post.step p st

/-! ### sources -/
def SrcJ (K : Fg) (H : Hp) (ι : List Addr) : Src → L2.It → Prop
  | .its ws, J => ∃ ds : List D, ws = ds.map .d ∧ ∀ i H', Stab H H' → (i < ds.length → J.go i H') ∧ (ds.length ≤ i → J.stop i H') ∧ ∀ x H'', i < ds.length → J.yld i H' x H'' → H'' = H' ∧ ∃ d, ds[i]? = some d ∧ RD K H' x d
  | .live a n, J => ∃ p, ι[a]? = some p ∧ J = Itl K p
section
variable {K : Fg} {σ : L2.St} {H H' : Hp} {ρ : Env} {ι ι' : List Addr} {h h' : LH}
theorem RDs.get : ∀ {vs : List V} {ds : List D} {i : Nat}, RDs K H vs ds → i < ds.length → ∃ v d, vs[i]? = some v ∧ ds[i]? = some d ∧ RD K H v d
  | _, _, _, .nil, e => by simp at e
  | _, _, 0, .cons r _, e => ⟨_, _, rfl, rfl, r⟩
  | _, _, i + 1, .cons _ t, e => by
    obtain ⟨v, d, h1, h2, h3⟩ := RDs.get (i := i) t (by simpa using e)
    exact ⟨v, d, by simpa using h1, by simpa using h2, h3⟩
theorem srcT {a : Addr} {vs : List V} {ds : List D} (t : SqT K H a vs) (q : RDs K H vs ds) : SrcJ K H ι (.its (ds.map .d)) (Itt K a) := by
  refine ⟨ds, rfl, fun i H' st => ⟨fun hi => ?_, fun hi => ⟨vs, st.tup t, by rw [q.length]; exact hi⟩, fun x H'' hi y => ?_⟩⟩
  · obtain ⟨v, d, h1, _⟩ := q.get hi
    exact ⟨vs, v, st.tup t, h1⟩
  · obtain ⟨v, d, h1, h2, h3⟩ := q.get hi
    obtain ⟨e, y⟩ := y
    have := y vs (st.tup t)
    rw [h1] at this; cases this
    exact ⟨e, d, h2, h3.mono st⟩
theorem srcF {a : Addr} {vs : List V} {ds : List D} (t : Frz K H a vs) (q : RDs K H vs ds) : SrcJ K H ι (.its (ds.map .d)) (Itl K a) := by
  refine ⟨ds, rfl, fun i H' st => ⟨fun hi => ?_, fun hi => ⟨vs, (st.frz t).sq, by rw [q.length]; exact hi⟩, fun x H'' hi y => ?_⟩⟩
  · obtain ⟨v, d, h1, _⟩ := q.get hi
    exact ⟨vs, v, (st.frz t).sq, h1⟩
  · obtain ⟨v, d, h1, h2, h3⟩ := q.get hi
    obtain ⟨e, y⟩ := y
    have := y vs (st.frz t).sq
    rw [h1] at this; cases this
    exact ⟨e, d, h2, h3.mono st⟩
theorem srcR (lo hi : Int) : SrcJ K H ι (.its (range lo hi)) (Itr lo (hi - lo).toNat) := by
  refine ⟨(List.range (hi - lo).toNat).map fun (k : Nat) => D.i (lo + (k : Int)), by unfold range; rw [List.map_map]; rfl, fun i H' st => ?_⟩
  rw [List.length_map, List.length_range]
  refine ⟨fun hi => hi, fun hi => hi, fun x H'' hi y => ?_⟩
  obtain ⟨rfl, rfl⟩ := y
  exact ⟨rfl, _, by rw [List.getElem?_map, List.getElem?_range hi]; rfl, .i _⟩

/-! ### for -/
def fbody (C : Ctx) (tg : Tg) (body : List S) : W → Env → LH → Option (Fl × Env × LH) := fun x ρ h => match setT tg x ρ with
  | some ρ' => execs C body ρ' h
  | none => none
theorem forItems_cons {f : W → Env → LH → Option (Fl × Env × LH)} {x : W} {xs : List W} {r : Fl × Env × LH} (e : forItems f (x :: xs) ρ h = some r) :
    ∃ fl ρ' h', f x ρ h = some (fl, ρ', h') ∧ match fl with
      | .nxt => forItems f xs ρ' h' = some r
      | .cnt => forItems f xs ρ' h' = some r
      | .brk => r = (.nxt, ρ', h')
      | .ret w => r = (.ret w, ρ', h') := by
  unfold forItems at e
  split at e
  · exact ⟨_, _, _, by assumption, e⟩
  · exact ⟨_, _, _, by assumption, e⟩
  · cases e; exact ⟨_, _, _, by assumption, rfl⟩
  · cases e; exact ⟨_, _, _, by assumption, rfl⟩
  · cases e
theorem forLive_succ {f : W → Env → LH → Option (Fl × Env × LH)} {a n i : Nat} {r : Fl × Env × LH} (e : forLive f a (n + 1) i ρ h = some r) :
    ∃ ws, h[a]? = some ws ∧ ((ws[i]? = none ∧ r = (.nxt, ρ, h)) ∨ ∃ x fl ρ' h', ws[i]? = some x ∧ f x ρ h = some (fl, ρ', h') ∧ match fl with
      | .nxt => forLive f a n (i + 1) ρ' h' = some r
      | .cnt => forLive f a n (i + 1) ρ' h' = some r
      | .brk => r = (.nxt, ρ', h')
      | .ret w => r = (.ret w, ρ', h')) := by
  unfold forLive at e
  split at e
  · cases e
  · rename_i ws hws
    refine ⟨ws, hws, ?_⟩
    split at e
    · cases e; exact .inl ⟨by assumption, rfl⟩
    · right
      split at e
      · exact ⟨_, _, _, _, by assumption, by assumption, e⟩
      · exact ⟨_, _, _, _, by assumption, by assumption, e⟩
      · cases e; exact ⟨_, _, _, _, by assumption, by assumption, rfl⟩
      · cases e; exact ⟨_, _, _, _, by assumption, by assumption, rfl⟩
      · cases e
/-- one turn's body, whichever way it ends -/
theorem turn_red {C : Ctx} {tg : Tg} {body : List S} {x : W} {v : V} {fl : Fl} {ρ' : Env} {D : Ends} {N : L2.St → Hp → Prop} (r : Rs K σ H ρ ι h) (rv : RW K H ι v x) (e : fbody C tg body x ρ h = some (fl, ρ', h'))
    (pn : fl = .nxt ∨ fl = .cnt → ∀ σ' H' ι', Step ι H ι' H' → Rs K σ' H' ρ' ι' h' → N σ' H') (pb : fl = .brk → ∀ σ' H' ι', Step ι H ι' H' → Rs K σ' H' ρ' ι' h' → D.nx σ' H') (pr : ∀ w, fl = .ret w → Post K ι H w h' D.rt) :
    gT K tg v σ H fun σ2 H2 => tSs C K body { D with nx := N, ct := N, bk := D.nx } σ2 H2 := by
  unfold fbody at e
  split at e
  · rename_i ρ1 hs
    refine gT_red rv r hs fun σ' r' _ => ⟨ρ1, h, ι, fl, ρ', h', r', e, ?_⟩
    cases fl with
    | nxt => exact pn (.inl rfl)
    | cnt => exact pn (.inr rfl)
    | brk => exact pb rfl
    | ret w => exact pr w rfl
  · cases e
theorem for_red {C : Ctx} {tg : Tg} {body : List S} {src : Src} {J : L2.It} {fl : Fl} {ρ' : Env} {D : Ends} (r : Rs K σ H ρ ι h) (sj : SrcJ K H ι src J) (e : forSrc (fbody C tg body) src ρ h = some (fl, ρ', h')) (p : PostS K ι H fl ρ' h' D) :
    ∃ W : Nat → Nat → L2.St → Hp → Prop, (∃ m, W 0 m σ H) ∧ ∀ i m σ H, W i m σ H →
      (J.stop i H ∧ D.nx σ H) ∨ (J.go i H ∧ ∃ N : L2.St → Hp → Prop, (∀ σ' H', N σ' H' → ∃ m', m' < m ∧ W (i + 1) m' σ' H') ∧ ∀ x H', J.yld i H x H' → gT K tg x σ H' fun σ2 H2 => tSs C K body { D with nx := N, ct := N, bk := D.nx } σ2 H2) := by
  cases src with
  | its ws =>
    obtain ⟨ds, rfl, sj⟩ := sj
    refine ⟨fun i m σ1 H1 => ∃ ρ1 ι1 h1, Step ι H ι1 H1 ∧ Rs K σ1 H1 ρ1 ι1 h1 ∧ forItems (fbody C tg body) ((ds.map .d).drop i) ρ1 h1 = some (fl, ρ', h') ∧ m = ds.length - i, ⟨_, ρ, ι, h, .refl _ _, r, e, rfl⟩, ?_⟩
    rintro i m σ1 H1 ⟨ρ1, ι1, h1, st, r1, e1, rfl⟩
    obtain ⟨jg, js, jy⟩ := sj i H1 st.stab
    by_cases hi : i < ds.length
    · refine .inr ⟨jg hi, _, fun σ' H' hn => ⟨ds.length - (i + 1), by omega, hn⟩, fun x H' y => ?_⟩
      obtain ⟨rfl, d, hd, rd⟩ := jy x H' hi y
      rw [List.drop_eq_getElem_cons (by simpa using hi)] at e1
      have ex : (ds.map W.d)[i]'(by simpa using hi) = .d d := by
        rw [List.getElem_map]
        congr 1
        exact Option.some.inj ((List.getElem?_eq_getElem hi).symm.trans hd)
      rw [ex] at e1
      obtain ⟨fl1, ρ2, h2, e2, e3⟩ := forItems_cons e1
      refine turn_red r1 (.d rd) e2 (fun hf σ' H' ι' s' r' => ?_) (fun hf => ?_) (fun w hf => ?_)
      · refine ⟨ρ2, ι', h2, st.trans s', r', ?_, rfl⟩
        rcases hf with rfl | rfl <;> exact e3
      · subst hf
        cases e3
        exact p.step st
      · subst hf
        cases e3
        exact Post.step p st
    · rw [List.drop_eq_nil_of_le (by simp; omega)] at e1
      cases e1
      exact .inl ⟨js (by omega), p σ1 H1 ι1 st r1⟩
  | live a n =>
    obtain ⟨pa, ha, rfl⟩ := sj
    refine ⟨fun i m σ1 H1 => ∃ ρ1 ι1 h1, Step ι H ι1 H1 ∧ Rs K σ1 H1 ρ1 ι1 h1 ∧ forLive (fbody C tg body) a m i ρ1 h1 = some (fl, ρ', h'), ⟨n + 1, ρ, ι, h, .refl _ _, r, e⟩, ?_⟩
    rintro i m σ1 H1 ⟨ρ1, ι1, h1, st, r1, e1⟩
    cases m with
    | zero => cases e1
    | succ m =>
      obtain ⟨ws, hws, c⟩ := forLive_succ e1
      obtain ⟨vs, g, q, _⟩ := r1.rh.of (st.at ha) hws
      rcases c with ⟨hn, e2⟩ | ⟨x, fl1, ρ2, h2, hx, e2, e3⟩
      · cases e2
        exact .inl ⟨⟨vs, SqL.of g, q.none hn⟩, p σ1 H1 ι1 st r1⟩
      · obtain ⟨v, hv, rv⟩ := q.get hx
        refine .inr ⟨⟨vs, v, SqL.of g, hv⟩, _, fun σ' H' hn => ⟨m, by omega, hn⟩, fun y H' z => ?_⟩
        obtain ⟨rfl, z⟩ := z
        have := z vs (SqL.of g)
        rw [hv] at this; cases this
        refine turn_red r1 rv e2 (fun hf σ' H' ι' s' r' => ?_) (fun hf => ?_) (fun w hf => ?_)
        · refine ⟨ρ2, ι', h2, st.trans s', r', ?_⟩
          rcases hf with rfl | rfl <;> exact e3
        · subst hf
          cases e3
          exact p.step st
        · subst hf
          cases e3
          exact Post.step p st

/-! ### while -/
theorem while_red {C : Ctx} {c : E} {body : List S} {n : Nat} {fl : Fl} {ρ' : Env} {D : Ends} (r : Rs K σ H ρ ι h) (e : whileF (fun ρ h => asB (ev C c ρ h)) (execs C body) n ρ h = some (fl, ρ', h')) (p : PostS K ι H fl ρ' h' D) :
    tWhile (tB' C K c) (tSs C K body) D σ H := by
  refine ⟨fun m σ1 H1 => ∃ ρ1 ι1 h1, Step ι H ι1 H1 ∧ Rs K σ1 H1 ρ1 ι1 h1 ∧ whileF (fun ρ h => asB (ev C c ρ h)) (execs C body) m ρ1 h1 = some (fl, ρ', h'), ⟨n, ρ, ι, h, .refl _ _, r, e⟩, ?_⟩
  rintro m σ1 H1 ⟨ρ1, ι1, h1, st, r1, e1⟩
  cases m with
  | zero => cases e1
  | succ m =>
    unfold whileF at e1
    have key : ∀ b h2, asB (ev C c ρ1 h1) = some (b, h2) → ev C c ρ1 h1 = some (.d (.b b), h2) := fun b h2 q => by
      unfold asB at q
      split at q
      · cases q; assumption
      · cases q
    split at e1
    · cases e1
    · rename_i h2 hc
      cases e1
      exact ⟨_, h1, ι1, false, _, r1, key _ _ hc, fun H' ι' s' r' => p σ1 H' ι' (st.trans s') (r1.mono s' r')⟩
    · rename_i h2 hc
      refine ⟨ρ1, h1, ι1, true, h2, r1, key _ _ hc, fun H' ι' s' r' => ?_⟩
      show ∃ N : L2.St → Hp → Prop, _
      have r2 := r1.mono s' r'
      have st2 := st.trans s'
      refine ⟨_, fun σ' H' hn => ⟨m, by omega, hn⟩, ?_⟩
      split at e1
      · exact ⟨ρ1, h2, ι', .nxt, _, _, r2, by assumption, fun σ' H'' ι'' s'' r'' => ⟨_, ι'', _, st2.trans s'', r'', e1⟩⟩
      · exact ⟨ρ1, h2, ι', .cnt, _, _, r2, by assumption, fun σ' H'' ι'' s'' r'' => ⟨_, ι'', _, st2.trans s'', r'', e1⟩⟩
      · cases e1
        exact ⟨ρ1, h2, ι', .brk, _, _, r2, by assumption, fun σ' H'' ι'' s'' r'' => p σ' H'' ι'' (st2.trans s'') r''⟩
      · cases e1
        exact ⟨ρ1, h2, ι', .ret _, _, _, r2, by assumption, Post.step p st2⟩
      · cases e1
end
end J
set_option maxRecDepth 100000
namespace J
open PySem L2 PyProof.Rows
section
variable {K : Fg} {σ : L2.St} {H H' : Hp} {ρ : Env} {ι ι' : List Addr} {h h' : LH}
def tC' (C : Ctx) (K : Fg) : Option E → TT
  | none => tYes
  | some e => tB' C K e
theorem RH.adopt {p : Addr} (r : RH K H ι h) (hn : p ∉ ι) {vs : List V} {ws : List W} (hp : H p = some (.lst vs)) (q : RWs K H ι vs ws) : RH K H (ι ++ [p]) (h ++ [ws]) := by
  have mono : ∀ {vs : List V} {ws : List W}, RWs K H ι vs ws → RWs K H (ι ++ [p]) vs ws := by
    intro vs ws r
    induction r with
    | nil => exact .nil
    | cons a b ih =>
      refine .cons ?_ ih
      cases a with
      | d z => exact .d z
      | @l a q e =>
        refine .l ?_
        have hl : a < ι.length := by
          rcases Nat.lt_or_ge a ι.length with z | z
          · exact z
          · rw [List.getElem?_eq_none z] at e; cases e
        rw [List.getElem?_append_left hl]; exact e
  refine ⟨by simp [r.len], ?_, fun a q' hq => ?_⟩
  · rw [List.nodup_append]
    refine ⟨r.nd, by simp, fun a ha b hb => ?_⟩
    rw [List.mem_singleton.mp hb]
    rintro rfl
    exact hn ha
  · rcases Nat.lt_or_ge a ι.length with z | z
    · rw [List.getElem?_append_left z] at hq
      obtain ⟨vs', ws', h1, h2, h3, h4⟩ := r.cell a q' hq
      refine ⟨vs', ws', h1, ?_, mono h3, h4⟩
      rw [List.getElem?_append_left (by rw [← r.len]; exact z)]
      exact h2
    · rw [List.getElem?_append_right z] at hq
      have ea : a - ι.length = 0 := by
        rcases Nat.eq_zero_or_pos (a - ι.length) with y | y
        · exact y
        · rw [List.getElem?_eq_none (by simp; omega)] at hq; cases hq
      rw [ea] at hq
      simp at hq
      subst hq
      have ea' : a = h.length := by have := r.len; omega
      subst ea'
      exact ⟨vs, ws, hp, by simp, mono q, q.okAll r.len⟩
theorem Step.wasFree {p : Addr} {h1 : LH} {H1 : Hp} {ι1 : List Addr} (s : Step ι H ι1 H1) (r : RH K H1 ι1 h1) (hp : H1 p = none) : H p = none := by
  cases q : H p with
  | none => rfl
  | some o =>
    by_cases hi : p ∈ ι
    · obtain ⟨t, e⟩ := s.pre
      exact absurd (by rw [e]; exact List.mem_append_left _ hi) (r.notin hp)
    · rw [s.keep p o q hi] at hp; cases hp
/-- where a comprehension's turns stand: the new list at D, its items so far -/
structure Cs (K : Fg) (ι0 : List Addr) (H0 : Hp) (D : Addr) (ι : List Addr) (H : Hp) (h : LH) (acc : List W) : Prop where
  st : Step ι0 H0 ι H
  rh : RH K H ι h
  nD : D ∉ ι
  hD : ∃ vs, H D = some (.lst vs) ∧ RWs K H ι vs acc
theorem Cs.step {ι0 : List Addr} {H0 : Hp} {D : Addr} {acc : List W} (c : Cs K ι0 H0 D ι H h acc) (s : Step ι H ι' H') (r : RH K H' ι' h') : Cs K ι0 H0 D ι' H' h' acc := by
  obtain ⟨vs, e, q⟩ := c.hD
  refine ⟨c.st.trans s, r, fun hm => ?_, vs, s.keep D _ e c.nD, q.mono s⟩
  rcases s.fresh D hm with z | z
  · exact c.nD z
  · rw [e] at z; cases z
theorem RWs.stab (s : Stab H H') : ∀ {vs : List V} {ws : List W}, RWs K H ι vs ws → RWs K H' ι vs ws
  | _, _, .nil => .nil
  | _, _, .cons (.d h) r => .cons (.d (h.mono s)) (RWs.stab s r)
  | _, _, .cons (.l h) r => .cons (.l h) (RWs.stab s r)
theorem RW.stab (s : Stab H H') {v : V} {w : W} (r : RW K H ι v w) : RW K H' ι v w := by
  cases r with
  | d h => exact .d (h.mono s)
  | l h => exact .l h
/-- an item more -/
theorem Cs.app {ι0 : List Addr} {H0 : Hp} {D : Addr} {acc : List W} {v : V} {w : W} (c : Cs K ι0 H0 D ι H h acc) (hf : H0 D = none) (rv : RW K H ι v w) : ∃ vs, H D = some (.lst vs) ∧ vs.length = acc.length ∧ Cs K ι0 H0 D ι (upd H D (.lst (vs ++ [v]))) h (acc ++ [w]) := by
  obtain ⟨vs, e, q⟩ := c.hD
  have sb : Stab H (upd H D (.lst (vs ++ [v]))) := fun p o hp hn => by
    by_cases z : p = D
    · subst z; rw [e] at hp; cases hp; exact absurd rfl (hn vs)
    · rw [upd_ne z]; exact hp
  refine ⟨vs, e, q.length, ⟨⟨c.st.pre, c.st.fresh, fun p o hp hn => ?_, c.st.stab.trans sb⟩, ⟨c.rh.len, c.rh.nd, fun a p ha => ?_⟩, c.nD, _, upd_same, (q.stab sb).append (.cons (rv.stab sb) .nil)⟩⟩
  · rw [upd_ne (fun z => by subst z; rw [hf] at hp; cases hp)]
    exact c.st.keep p o hp hn
  · obtain ⟨vs', ws', h1, h2, h3, h4⟩ := c.rh.cell a p ha
    exact ⟨vs', ws', by rw [upd_ne (fun z => c.nD (by rw [← z]; exact List.mem_of_getElem? ha))]; exact h1, h2, h3.stab sb, h4⟩
theorem Cs.start (r : RH K H ι h) {D : Addr} (hD : H D = none) : Cs K ι H D ι (upd H D (.lst [])) h [] := by
  obtain ⟨r', st⟩ := r.laid hD (.lst [])
  exact ⟨st, r', r.notin hD, [], upd_same, .nil⟩
/-- the whole comprehension's end -/
theorem Cs.fin {ι0 : List Addr} {H0 : Hp} {D : Addr} {acc : List W} {Q : VK} (c : Cs K ι0 H0 D ι H h acc) (hf : H0 D = none) (p : Post K ι0 H0 (.l h.length) (h ++ [acc]) Q) : Q (.ref D) H := by
  obtain ⟨vs, e, q⟩ := c.hD
  have r' := c.rh.adopt c.nD e q
  refine p _ _ (ι ++ [D]) ⟨?_, fun z hz => ?_, c.st.keep, c.st.stab⟩ r' (.l (by rw [← c.rh.len]; simp))
  · obtain ⟨t, et⟩ := c.st.pre
    exact ⟨t ++ [D], by rw [et, List.append_assoc]⟩
  · rcases List.mem_append.mp hz with y | y
    · exact c.st.fresh z y
    · rw [List.mem_singleton.mp y]; exact .inr hf

def evcJ (C : Ctx) (c : Option E) : Env → LH → Option (Bool × LH) := evc C c
theorem cond_red {C : Ctx} {c : Option E} {b : Bool} {Q : Bool → Hp → Prop} (r : Rs K σ H ρ ι h) (e : evc C c ρ h = some (b, h')) (q : ∀ H' ι', Step ι H ι' H' → RH K H' ι' h' → Q b H') : tC' C K c σ H Q := by
  cases c with
  | none =>
    unfold evc at e
    cases e
    exact q H ι (.refl _ _) r.rh
  | some c =>
    unfold evc asB at e
    split at e
    · cases e
      exact ⟨ρ, h, ι, b, h', r, by assumption, q⟩
    · cases e
theorem compItems_cons {f : W → List W → LH → Option (List W × LH)} {x : W} {xs acc : List W} {r : List W × LH} (e : compItems f (x :: xs) acc h = some r) : ∃ acc' h', f x acc h = some (acc', h') ∧ compItems f xs acc' h' = some r := by
  unfold compItems at e
  split at e
  · exact ⟨_, _, by assumption, e⟩
  · cases e
theorem compLive_succ {f : W → List W → LH → Option (List W × LH)} {a n i : Nat} {acc : List W} {r : List W × LH} (e : compLive f a (n + 1) i acc h = some r) :
    ∃ ws, h[a]? = some ws ∧ ((ws[i]? = none ∧ r = (acc, h)) ∨ ∃ x acc' h', ws[i]? = some x ∧ f x acc h = some (acc', h') ∧ compLive f a n (i + 1) acc' h' = some r) := by
  unfold compLive at e
  split at e
  · cases e
  · rename_i ws hws
    refine ⟨ws, hws, ?_⟩
    split at e
    · cases e; exact .inl ⟨by assumption, rfl⟩
    · split at e
      · exact .inr ⟨_, _, _, by assumption, by assumption, e⟩
      · cases e
/-- the turns of a source: given what one turn does (T), the loop's W. B x i H' Nx: what the reading asks of a turn -/
theorem turns_red {ι0 : List Addr} {H0 : Hp} {D : Addr} {src : Src} {J : L2.It} {f : W → List W → LH → Option (List W × LH)} {acc acc' : List W} {Qd : Hp → Prop} {B : V → Hp → (Hp → Prop) → Prop}
    (sj : SrcJ K H ι src J) (e : compSrc f src acc h = some (acc', h')) (c0 : Cs K ι0 H0 D ι H h acc)
    (turn : ∀ (x : W) (v : V) (accx accy : List W) (hx hy : LH) (ιx : List Addr) (Hx : Hp) (Nx : Hp → Prop), Cs K ι0 H0 D ιx Hx hx accx → (∃ t, ιx = ι ++ t) → Stab H Hx → RW K Hx ιx v x → f x accx hx = some (accy, hy) →
      (∀ H' ι', Cs K ι0 H0 D ι' H' hy accy → (∃ t, ι' = ι ++ t) → Stab H H' → Nx H') → B v Hx Nx)
    (fin : ∀ H' ι', Cs K ι0 H0 D ι' H' h' acc' → (∃ t, ι' = ι ++ t) → Stab H H' → Qd H') :
    ∃ W : Nat → Nat → Hp → Prop, (∃ m, W 0 m H) ∧ ∀ i m H, W i m H → (J.stop i H ∧ Qd H) ∨ (J.go i H ∧ ∃ Nx : Hp → Prop, (∀ H', Nx H' → ∃ m', m' < m ∧ W (i + 1) m' H') ∧ ∀ x H', J.yld i H x H' → B x H' Nx) := by
  cases src with
  | its ws =>
    obtain ⟨ds, rfl, sj⟩ := sj
    refine ⟨fun i m H1 => ∃ ι1 h1 acc1, Cs K ι0 H0 D ι1 H1 h1 acc1 ∧ (∃ t, ι1 = ι ++ t) ∧ Stab H H1 ∧ compItems f ((ds.map .d).drop i) acc1 h1 = some (acc', h') ∧ m = ds.length - i, ⟨_, ι, h, acc, c0, ⟨[], by simp⟩, .refl _, e, rfl⟩, ?_⟩
    rintro i m H1 ⟨ι1, h1, acc1, c1, pf, sb, e1, rfl⟩
    obtain ⟨jg, js, jy⟩ := sj i H1 sb
    by_cases hi : i < ds.length
    · refine .inr ⟨jg hi, _, fun H' hn => ⟨ds.length - (i + 1), by omega, hn⟩, fun x H' y => ?_⟩
      obtain ⟨rfl, d, hd, rd⟩ := jy x H' hi y
      rw [List.drop_eq_getElem_cons (by simpa using hi)] at e1
      have ex : (ds.map W.d)[i]'(by simpa using hi) = .d d := by
        rw [List.getElem_map]
        congr 1
        exact Option.some.inj ((List.getElem?_eq_getElem hi).symm.trans hd)
      rw [ex] at e1
      obtain ⟨acc2, h2, e2, e3⟩ := compItems_cons e1
      exact turn _ _ _ _ _ _ _ _ _ c1 pf sb (.d rd) e2 fun H' ι' c' pf' sb' => ⟨ι', h2, acc2, c', pf', sb', e3, rfl⟩
    · rw [List.drop_eq_nil_of_le (by simp; omega)] at e1
      cases e1
      exact .inl ⟨js (by omega), fin H1 ι1 c1 pf sb⟩
  | live a n =>
    obtain ⟨pa, ha, rfl⟩ := sj
    refine ⟨fun i m H1 => ∃ ι1 h1 acc1, Cs K ι0 H0 D ι1 H1 h1 acc1 ∧ (∃ t, ι1 = ι ++ t) ∧ Stab H H1 ∧ compLive f a m i acc1 h1 = some (acc', h'), ⟨n + 1, ι, h, acc, c0, ⟨[], by simp⟩, .refl _, e⟩, ?_⟩
    rintro i m H1 ⟨ι1, h1, acc1, c1, pf, sb, e1⟩
    cases m with
    | zero => cases e1
    | succ m =>
      obtain ⟨ws, hws, c⟩ := compLive_succ e1
      have ha1 : ι1[a]? = some pa := by
        obtain ⟨t, et⟩ := pf
        have hl : a < ι.length := by
          rcases Nat.lt_or_ge a ι.length with z | z
          · exact z
          · rw [List.getElem?_eq_none z] at ha; cases ha
        rw [et, List.getElem?_append_left hl]; exact ha
      obtain ⟨vs, g, q, _⟩ := c1.rh.of ha1 hws
      rcases c with ⟨hn, e2⟩ | ⟨x, acc2, h2, hx, e2, e3⟩
      · cases e2
        exact .inl ⟨⟨vs, SqL.of g, q.none hn⟩, fin H1 ι1 c1 pf sb⟩
      · obtain ⟨v, hv, rv⟩ := q.get hx
        refine .inr ⟨⟨vs, v, SqL.of g, hv⟩, _, fun H' hn => ⟨m, by omega, hn⟩, fun y H' z => ?_⟩
        obtain ⟨rfl, z⟩ := z
        have := z vs (SqL.of g)
        rw [hv] at this; cases this
        exact turn _ _ _ _ _ _ _ _ _ c1 pf sb rv e2 fun H' ι' c' pf' sb' => ⟨ι', h2, acc2, c', pf', sb', e3⟩
theorem Rs.wiped (r : Rs K σ H ρ ι h) (vs : List Nat) (st : Stab H H') (pf : ∃ t, ι' = ι ++ t) (r' : RH K H' ι' h') : Rs K (L2.wipe σ vs) H' (J.wipe ρ vs) ι' h' := by
  have r2 := r.wipe vs
  refine ⟨⟨r', fun i w e => ?_⟩, r2.len⟩
  obtain ⟨v, q, rw_⟩ := r2.rl.env i w e
  refine ⟨v, q, ?_⟩
  cases rw_ with
  | d z => exact .d (z.mono st)
  | @l a p z =>
    obtain ⟨t, et⟩ := pf
    have hl : a < ι.length := by
      rcases Nat.lt_or_ge a ι.length with y | y
      · exact y
      · rw [List.getElem?_eq_none y] at z; cases z
    exact .l (by rw [et, List.getElem?_append_left hl]; exact z)
/-- one turn of the innermost loop -/
theorem inner_red {C : Ctx} {tg : Tg} {elt : E} {c : Option E} {ι0 : List Addr} {H0 : Hp} {D : Addr} {x : W} {v : V} {acc acc' : List W} {ρ0 : Env} {σ0 : L2.St} {Nx : Hp → Prop} (cs : Cs K ι0 H0 D ι H h acc) (hf : H0 D = none)
    (r : Rs K σ0 H (J.wipe ρ0 tg.slots) ι h) (rv : RW K H ι v x) (e : turn tg ρ0 (evc C c) (ev C elt) x acc h = some (acc', h')) (hw : ∀ σ', SameOut σ' σ0 tg.slots → L2.wipe σ' tg.slots = L2.wipe σ tg.slots)
    (nx : ∀ H' ι', Cs K ι0 H0 D ι' H' h' acc' → (∃ t, ι' = ι ++ t) → Stab H H' → Nx H') :
    gT K tg v σ0 H fun σ2 H2 => L2.wipe σ2 tg.slots = L2.wipe σ tg.slots ∧ tC' C K c σ2 H2 fun b H3 => if b = true then tE C K elt σ2 H3 fun y H4 => ∃ acc, H4 D = some (.lst acc) ∧ acc.length < sizeLine ∧ Nx (upd H4 D (.lst (acc ++ [y]))) else Nx H3 := by
  unfold turn at e
  split at e
  · cases e
  · rename_i ρ1 hs
    refine gT_red rv r hs fun σ' r' so => ⟨hw σ' so, ?_⟩
    split at e
    · rename_i h1 hc
      refine cond_red r' hc fun H' ι' s r1 => ?_
      rw [if_pos rfl]
      split at e
      · rename_i w h2 he
        split at e
        · cases e
          rename_i hl
          refine ⟨ρ1, h1, ι', w, _, r'.mono s r1, he, fun y H'' ι'' s2 r2 rw_ => ?_⟩
          have cs2 := (cs.step s r1).step s2 r2
          obtain ⟨vs, e1, e2, cs3⟩ := cs2.app hf rw_
          refine ⟨vs, e1, by rw [szl, e2]; exact hl, nx _ ι'' cs3 ?_ ?_⟩
          · obtain ⟨t, et⟩ := (s.trans s2).pre
            exact ⟨t, et⟩
          · refine (s.trans s2).stab.trans fun p o hp hn => ?_
            by_cases z : p = D
            · subst z; rw [e1] at hp; cases hp; exact absurd rfl (hn vs)
            · rw [upd_ne z]; exact hp
        · cases e
      · cases e
    · cases e
      rename_i hc
      refine cond_red r' hc fun H' ι' s r1 => ?_
      rw [if_neg Bool.false_ne_true]
      exact nx H' ι' (cs.step s r1) s.pre s.stab
    · cases e
theorem comp_red {C : Ctx} {tg : Tg} {elt : E} {c : Option E} {src : Src} {J : L2.It} {acc : List W} {Q : VK} (r : Rs K σ H ρ ι h) (sj : SrcJ K H ι src J) (e : compSrc (turn tg ρ (evc C c) (ev C elt)) src [] h = some (acc, h')) (p : Post K ι H (.l h'.length) (h' ++ [acc]) Q) :
    ∀ D, H D = none → ∃ W : Nat → Nat → Hp → Prop, (∃ m, W 0 m (upd H D (.lst []))) ∧ ∀ i m H, W i m H →
      (J.stop i H ∧ Q (.ref D) H) ∨ (J.go i H ∧ ∃ Nx : Hp → Prop, (∀ H', Nx H' → ∃ m', m' < m ∧ W (i + 1) m' H') ∧ ∀ x H', J.yld i H x H' → gT K tg x (L2.wipe σ tg.slots) H' fun σ2 H2 => L2.wipe σ2 tg.slots = L2.wipe σ tg.slots ∧ tC' C K c σ2 H2 fun b H3 =>
        if b = true then tE C K elt σ2 H3 fun y H4 => ∃ acc, H4 D = some (.lst acc) ∧ acc.length < sizeLine ∧ Nx (upd H4 D (.lst (acc ++ [y]))) else Nx H3) := by
  intro D hD
  have c0 := Cs.start r.rh hD
  have sb0 : Stab H (upd H D (.lst [])) := c0.st.stab
  have sj' : SrcJ K (upd H D (.lst [])) ι src J := by
    cases src with
    | its ws => obtain ⟨ds, e1, s1⟩ := sj; exact ⟨ds, e1, fun i H' st => s1 i H' (sb0.trans st)⟩
    | live a n => exact sj
  refine turns_red (B := fun x H' Nx => gT K tg x (L2.wipe σ tg.slots) H' fun σ2 H2 => L2.wipe σ2 tg.slots = L2.wipe σ tg.slots ∧ tC' C K c σ2 H2 fun b H3 =>
        if b = true then tE C K elt σ2 H3 fun y H4 => ∃ acc, H4 D = some (.lst acc) ∧ acc.length < sizeLine ∧ Nx (upd H4 D (.lst (acc ++ [y]))) else Nx H3) (Qd := fun H => Q (.ref D) H) sj' e c0 (fun x v accx accy hx hy ιx Hx Nx cs pf sb rv ef nx => ?_) fun H' ι' cs pf sb => cs.fin hD p
  refine inner_red cs hD (r.wiped tg.slots (sb0.trans sb) pf cs.rh) rv ef (fun σ' so => ?_) fun H' ι' c' pf' sb' => nx H' ι' c' ?_ (sb.trans sb')
  · exact (so.trans (SameOut.wiped σ tg.slots)).wipe
  · obtain ⟨t, et⟩ := pf
    obtain ⟨t', et'⟩ := pf'
    exact ⟨t ++ t', by rw [et', et, List.append_assoc]⟩
end
end J
set_option maxRecDepth 100000
/-! The model's text read as J. -/
namespace J
open PySem L2 PyProof.Rows
structure Nm where
  f : List (Str × Nat)
  g : List (Str × Nat)
  t : List (Str × Nat)
  b : List Str
structure Sx where
  T : Nm
  N : List Str
  sc : Scope
  fb : Str → Bool
def slotOf : List Str → Str → Option Nat
  | [], _ => none
  | y :: r, x => if y = x then some 0 else (slotOf r x).map (· + 1)
theorem slotOf_get : ∀ {N : List Str} {x : Str} {i : Nat}, slotOf N x = some i → N[i]? = some x
  | [], _, _, h => by cases h
  | y :: r, x, i, h => by
    unfold slotOf at h
    split at h
    · cases h; subst_vars; rfl
    · obtain ⟨j, hj, rfl⟩ := Option.map_eq_some_iff.mp h
      simpa using slotOf_get hj
def visB (sc : Scope) (x : Str) : Bool := match sc.names.lookup x with
  | some .local => true
  | some .cell => true
  | some .free => true
  | _ => false
def glB (x : Sx) (y : Str) : Bool := match x.sc.names.lookup y with
  | some .globalImplicit => true
  | _ => false
def locB (x : Sx) (y : Str) : Bool := match x.sc.names.lookup y with
  | some .local => true
  | some .cell => x.fb y
  | _ => false
def dec (x : Str) : String := String.ofList (x.cps.toList.map Char.ofNat)
def okE : Expr → Bool
  | .Starred .. => false
  | .Set .. => false
  | .Slice .. => false
  | _ => true
def trC : Const → Option E
  | .int i => some (.c (.i i))
  | .bool b => some (.c (.b b))
  | .none => some (.c .none)
  | .str x => if x.cps.toList = (dec x).toList.map Char.toNat ∧ (dec x).length ≤ SZ then some (.c (.s (dec x))) else none
  | _ => none
def trName (x : Sx) (y : Str) : Option E :=
  if (y == ("__debug__" : Str)) = false ∧ (y == ("__classdict__" : Str)) = false then
    (if visB x.sc y = true then (slotOf x.N y).map .var else if glB x y = true then (x.T.g.lookup y).map .glob else none)
  else none
def bOp : Operator → Option BOp
  | .Add => some .add
  | .Sub => some .sub
  | .Mult => some .mul
  | .FloorDiv => some .fdiv
  | .Mod => some .mod
  | .Pow => some .pow
  | _ => none
def cOp : CmpOp → Option COp
  | .Lt => some .lt
  | .LtE => some .le
  | .Gt => some .gt
  | .GtE => some .ge
  | .Eq => some .eq
  | .NotEq => some .ne
  | .In => some .isin
  | .NotIn => some .nin
  | _ => none
def trs (f : Expr → Option E) : List Expr → Option (List E)
  | [] => some []
  | e :: r => match f e, trs f r with
    | some a, some b => some (a :: b)
    | _, _ => none
def trB (f : Expr → Option E) (mk : E → E → E) : List Expr → Option E
  | [] => none
  | a :: r => match r with
    | [] => f a
    | _ :: _ => match f a, trB f mk r with
      | some x, some y => some (mk x y)
      | _, _ => none
def isNone : Expr → Bool
  | .Constant .none _ _ => true
  | _ => false
def trCmp (f : Expr → Option E) (a : Expr) : List CmpOp → List Expr → Option E
  | [.Is], [b] => if isNone b then (f a).map .isN else none
  | [.IsNot], [b] => if isNone b then (f a).map .isNN else none
  | [o], [b] => match cOp o, f a, f b with
    | some o, some x, some y => some (.cmp o x y)
    | _, _, _ => none
  | [o, o'], [b, c] => match cOp o, cOp o', f a, f b, f c with
    | some o, some o', some x, some y, some z => some (.chain o o' x y z)
    | _, _, _, _, _ => none
  | _, _ => none
def isM1 : Expr → Bool
  | .UnaryOp .USub (.Constant (.int 1) _ _) _ => true
  | _ => false
def trO (f : Expr → Option E) : Option Expr → Option (Option E)
  | none => some none
  | some e => (f e).map some
def trSub (f : Expr → Option E) (x : Sx) (v s : Expr) : Option E := match s with
  | .Slice lo hi none _ => match f v, trO f lo, trO f hi with
    | some a, some b, some c => some (.sl a b c)
    | _, _, _ => none
  | .Slice none none (some st) _ => if isM1 st then (f v).map .rev else none
  | s => match v with
    | .Name y _ => if glB x y = true ∧ (y == ("__debug__" : Str)) = false then (match x.T.t.lookup y, f s with
        | some g, some i => some (.dix g i)
        | _, _ => (match f v, f s with
          | some a, some b => some (.ix a b)
          | _, _ => none)) else (match f v, f s with
        | some a, some b => some (.ix a b)
        | _, _ => none)
    | v => match f v, f s with
      | some a, some b => some (.ix a b)
      | _, _ => none
def bltB (x : Sx) (y : Str) : Bool := glB x y && x.T.b.contains y
/-- the built-ins of one name, by the number of arguments -/
def biOf (y : Str) (n : Nat) : Option Bi :=
  if y = "len" ∧ n = 1 then some .len else if y = "tuple" ∧ n = 1 then some .tuple else if y = "list" ∧ n = 1 then some .list else if y = "int" ∧ n = 1 then some .int else
  if y = "bool" ∧ n = 1 then some .bool else if y = "all" ∧ n = 1 then some .all else if y = "any" ∧ n = 1 then some .any else if y = "max" ∧ n = 2 then some .max2 else if y = "min" ∧ n = 2 then some .min2 else if y = "abs" ∧ n = 1 then some .abs else none
def isiOf (y : Str) : Option Bi := if y = "int" then some .isInt else if y = "bool" then some .isBool else if y = "str" then some .isStr else if y = "tuple" then some .isTuple else none
def meOf (y : Str) (n : Nat) : Option Me :=
  if y = "append" ∧ n = 1 then some .append else if y = "extend" ∧ n = 1 then some .extend else if y = "pop" ∧ n = 0 then some .pop else if y = "reverse" ∧ n = 0 then some .reverse else none
def recv : Expr → Bool
  | .Name .. => true
  | .Subscript .. => true
  | _ => false
def nmOf : Expr → Option Str
  | .Name y _ => some y
  | _ => none
def trCall (f : Expr → Option E) (x : Sx) (fn : Expr) (args : List Expr) (kws : List Keyword) (pos : Pos) : Option E :=
  if kws.isEmpty = true then
    match fn with
    | .Name y _ =>
      if (y == ("__debug__" : Str)) = false ∧ glB x y = true then
        match x.T.f.lookup y with
        | some g => (trs f args).map (.call g)
        | none =>
          if x.T.b.contains y = true then
            if y = "isinstance" then
              match args with
              | [a, t] => match nmOf t with
                | some c => if bltB x c = true then (match isiOf c, f a with
                    | some k, some u => some (.bi k [u])
                    | _, _ => none) else none
                | none => none
              | _ => none
            else match biOf y args.length, trs f args with
              | some k, some us => some (.bi k us)
              | _, _ => none
          else none
      else none
    | .Attribute o m apos => if recv o = true ∧ (apos.endLine == pos.line) = true then
        match meOf m args.length, f o, trs f args with
        | some k, some u, some us => some (.meth k u us)
        | _, _, _ => none
      else none
    | _ => none
  else none
def trTgs (x : Sx) : List Expr → Option (List Nat)
  | [] => some []
  | e :: r => match nmOf e with
    | some y => if locB x y = true then (match slotOf x.N y, trTgs x r with
      | some i, some is => some (i :: is)
      | _, _ => none) else none
    | none => none
def trTg (x : Sx) : Expr → Option Tg
  | .Name y _ => if locB x y = true then (slotOf x.N y).map .n else none
  | .Tuple es _ _ => (trTgs x es).map .t
  | _ => none
def trIt (f : Expr → Option E) (x : Sx) (e : Expr) : Option It := match e with
  | .Call fn args kws pos => match nmOf fn with
    | some y => if y = "range" ∧ kws.isEmpty = true ∧ bltB x y = true then (match args with
        | [a] => (f a).map .r1
        | [a, b] => (match f a, f b with
          | some u, some w => some (.r2 u w)
          | _, _ => none)
        | _ => none) else (f e).map .sq
    | none => (f e).map .sq
  | e => (f e).map .sq
def trIfs (f : Expr → Option E) : List Expr → Option (Option E)
  | [] => some none
  | [c] => (f c).map some
  | _ => none
def ownOf (N : List Str) : Expr → Option (List (Str × Nat))
  | .Name y _ => (slotOf N y).map fun i => [(y, i)]
  | .Tuple es _ _ => go es
  | _ => none
where go : List Expr → Option (List (Str × Nat))
  | [] => some []
  | e :: r => match nmOf e with
    | some y => (match slotOf N y, go r with
      | some i, some is => some ((y, i) :: is)
      | _, _ => none)
    | none => none
def blkS (x : Sx) (scope : Scope) : Sx := { x with sc := relS scope x.sc, fb := fun y => scope.names.lookup y == some .cell }
def trComp (f : Sx → Expr → Option E) (x : Sx) (elt : Expr) (gs : List Comprehension) (scope : Scope) : Option E := match gs with
  | [⟨tg, iter, ifs, a⟩] => if a = 0 ∧ okE iter = true then
      match ownOf x.N tg, trTg (blkS x scope) tg, trIt (f x) x iter, trIfs (f (blkS x scope)) ifs, f (blkS x scope) elt with
      | some own, some t, some i, some c, some e => if blkC x.N x.sc scope own = true ∧ own.map (·.2) = t.slots then some (.comp e t i c) else none
      | _, _, _, _, _ => none
    else none
  | _ => none
def tr : Nat → Sx → Expr → Option E
  | 0, _, _ => none
  | n + 1, x, e => match e with
    | .Name y _ => trName x y
    | .Constant c _ _ => trC c
    | .Tuple es _ _ => (trs (tr n x) es).map .tup
    | .List es _ => (trs (tr n x) es).map .lst
    | .BinOp a op b _ => (match bOp op, tr n x a, tr n x b with
      | some o, some u, some w => some (.bin o u w)
      | _, _, _ => none)
    | .UnaryOp op a _ => (match op with
      | .Not => (tr n x a).map .not
      | .USub => (tr n x a).map .neg
      | _ => none)
    | .Compare a ops cs _ => trCmp (tr n x) a ops cs
    | .BoolOp op vs _ => (match op with
      | .And => trB (tr n x) .and vs
      | .Or => trB (tr n x) .or vs)
    | .IfExp c a b _ => (match tr n x c, tr n x a, tr n x b with
      | some k, some u, some w => some (.ite k u w)
      | _, _, _ => none)
    | .Subscript v s _ => trSub (tr n x) x v s
    | .Call fn args kws pos => trCall (tr n x) x fn args kws pos
    | .ListComp elt gs scope _ => trComp (tr n) x elt gs scope
    | _ => none

theorem tr_ok {n : Nat} {x : Sx} {e : Expr} {E : E} (h : tr n x e = some E) : okE e = true := by
  cases n with
  | zero => cases h
  | succ n => cases e <;> first | rfl | (unfold tr at h; cases h)
theorem ok_star {e : Expr} (h : okE e = true) (es : List Expr) (env : PySem.Env) : starEach (e :: es) env = (false, eval e env) :: starEach es env := by
  cases e <;> first | rfl | cases h
theorem ok_marks {e : Expr} (h : okE e = true) (op : CmpOp) : behindInMarks op e = false := by
  cases e <;> first | rfl | cases h
theorem ok_fold {e : Expr} (h : okE e = true) (env : PySem.Env) (x : Value) : foldedSetIterable e env x = pure x := by
  cases e <;> first | rfl | cases h
theorem ok_plain {e : Expr} (h : okE e = true) : PlainIx e := by
  cases e <;> first | exact fun _ _ => rfl | cases h
def isLc : Expr → Bool
  | .ListComp .. => true
  | .SetComp .. => true
  | .DictComp .. => true
  | _ => false
theorem noLc_swaps {e : Expr} (h : isLc e = false) (t : Option Expr) (l : Nat) (env : PySem.Env) : swapsWith e t l env = pure false := by
  cases e <;> first | rfl | cases h
theorem trs_all {f : Expr → Option E} : ∀ {es : List Expr} {Es : List E}, trs f es = some Es → ∀ {P : Expr → Prop}, (∀ e E, f e = some E → P e) → ∀ e ∈ es, P e
  | [], _, _, _, _, _, h => by cases h
  | e :: r, Es, h, P, hp, e', he => by
    unfold trs at h
    split at h
    · rename_i a b h1 h2
      rcases List.mem_cons.mp he with rfl | he
      · exact hp _ _ h1
      · exact trs_all h2 hp e' he
    · cases h
theorem star_plain : ∀ {es : List Expr} (h : ∀ e ∈ es, okE e = true) (pos : Pos) (env : PySem.Env), ((backTo pos (starEach es env)).any (·.1)) = false
  | [], _, _, _ => rfl
  | e :: r, h, pos, env => by
    rw [ok_star (h e List.mem_cons_self)]
    show (false || (backTo pos (starEach r env)).any (·.1)) = false
    rw [star_plain (fun e' he => h e' (List.mem_cons_of_mem _ he))]; rfl
end J
set_option maxRecDepth 100000
/-! What is read as J keeps J's promise: expressions. -/
namespace J
open PySem L2 PyProof.Rows
/-- what a call of the def f, at most k deep, promises -/
def spJ (K : Fg) (J : Prog) (k f : Nat) : Sp := fun vs H Q _ => ∃ ι h ws w h', RH K H ι h ∧ RWs K H ι vs ws ∧ call J k f ws h = some (w, h') ∧ Post K ι H w h' Q
structure Facts (P : Program) (w : World) (K : Fg) (mg : Str → Option Value) (base : Heap) (T : Nm) (J : Prog) (k : Nat) : Prop where
  fns : ∀ x f d, T.f.lookup x = some f → J.F f = some d → ∃ a fd ps, mg x = some (.ref a) ∧ PySem.W.keepIn K (.ref a) = true ∧ Binds K fd ps [] ∧ FnOk P w K mg base CX0 k a fd ps (spJ K J k f)
  gs : ∀ x g c, T.g.lookup x = some g → J.G g = some c → ∃ v u, mg x = some u ∧ RelV v u ∧ ∀ H, RD K H v c
  ts : ∀ x g s c, T.t.lookup x = some g → J.T g s = some c → ∃ a, mg x = some (.ref a) ∧ ∀ z, EncS s z → ∃ v, KDct K w a z v ∧ ∀ H, RD K H v c
  bs : ∀ x, T.b.contains x = true → mg x = none
abbrev cJ (J : Prog) (k : Nat) : Ctx := ⟨J.G, J.T, call J k, J.wf⟩
structure Good (x : Sx) (k : Nat) (X : Cx) : Prop where
  N : X.N = x.N
  nd : X.N.Nodup
  calm : X.calm = true
  room : Room k X.A
  sc : X.env.scope = x.sc
  fb : X.fn = x.fb
  xe : X.xe = fun _ _ => False
theorem Good.blk {x : Sx} {k : Nat} {X : Cx} (g : Good x k X) (scope : Scope) (s : Shared) (H : Hp) (C : Addr) (cl : List (Str × Addr)) (fp : List Addr) : Good (blkS x scope) k (X.blk s H scope (compEnvC scope cl C X.env) fp) :=
  ⟨g.N, g.nd, g.calm, g.room, by show relS scope X.env.scope = relS scope x.sc; rw [g.sc], rfl, rfl⟩
theorem _root_.L2.PE.monoJ {X : Cx} {e : Expr} {t t' : TE} (h : PE X e t) (m : ∀ σ H Q, t' σ H Q → t σ H Q) : PE X e t' := ⟨fun pins s σ H Q I q => h.run pins s σ H Q I (m _ _ _ q)⟩
theorem _root_.L2.PT.monoJ {X : Cx} {e : Expr} {t t' : TT} (h : PT X e t) (m : ∀ σ H Q, t' σ H Q → t σ H Q) : PT X e t' := ⟨fun pins s σ H Q I q => h.run pins s σ H Q I (m _ _ _ q)⟩
theorem _root_.L2.PA.monoJ {X : Cx} {e : List Expr} {t t' : TA} (h : PA X e t) (m : ∀ σ H Q, t' σ H Q → t σ H Q) : PA X e t' := ⟨fun pos pins s σ H Q I q => h.run pos pins s σ H Q I (m _ _ _ q)⟩
section
variable {X : Cx} {x : Sx} {J : Prog} {k : Nat}
theorem Good.vis (g : Good x k X) {y : Str} (h : visB x.sc y = true) : Vis X.env.scope y := by
  rw [g.sc]
  unfold visB at h
  unfold Vis
  split at h
  · exact .inl (by assumption)
  · exact .inr (.inl (by assumption))
  · exact .inr (.inr (by assumption))
  · cases h
theorem Good.gl (g : Good x k X) {y : Str} (h : glB x y = true) : Gl X y := by
  unfold Gl PySem.Env.kindOf
  rw [g.sc]
  unfold glB at h
  split at h
  · assumption
  · cases h
theorem Good.units (g : Good x k X) : X.A.units + 70 < cLine := by have := g.room.un; omega
/-- two values' results, one behind the other -/
theorem ev2 {C : Ctx} {a b : E} {ρ : Env} {h : LH} {α : Type} {f : W → W → LH → Option α} {r : α} (e : (match ev C a ρ h with
    | some (u, h1) => match ev C b ρ h1 with
      | some (w, h2) => f u w h2
      | none => none
    | none => none) = some r) : ∃ u h1 w h2, ev C a ρ h = some (u, h1) ∧ ev C b ρ h1 = some (w, h2) ∧ f u w h2 = some r := by
  split at e
  · split at e
    · exact ⟨_, _, _, _, by assumption, by assumption, e⟩
    · cases e
  · cases e
theorem evs_cons {C : Ctx} {a : E} {es : List E} {ρ : Env} {h h' : LH} {ws : List W} (e : evs C (a :: es) ρ h = some (ws, h')) : ∃ w h1 us, ev C a ρ h = some (w, h1) ∧ evs C es ρ h1 = some (us, h') ∧ ws = w :: us := by
  unfold evs at e
  split at e
  · split at e
    · cases e; exact ⟨_, _, _, by assumption, by assumption, rfl⟩
    · cases e
  · cases e
theorem snd_name (g : Good x k X) (F : Facts X.prog X.w X.K X.mg X.base x.T J k) {y : Str} {pos : Pos} {Z : E} (h : trName x y = some Z) : PE X (.Name y pos) (tE (cJ J k) X.K Z) := by
  unfold trName at h
  split at h
  · rename_i hd
    split at h
    · rename_i hv
      obtain ⟨i, hi, rfl⟩ := Option.map_eq_some_iff.mp h
      refine (pe_var (i := i) (by rw [g.N]; exact slotOf_get hi) (g.vis hv) hd.1 hd.2).monoJ ?_
      rintro σ H Q ⟨ρ, h, ι, w, h', r, e, p⟩
      unfold ev at e
      split at e
      · cases e
        obtain ⟨v, hv, rv⟩ := r.rl.env i _ (by assumption)
        exact ⟨v, hv, p.same r.rh rv⟩
      · cases e
    · split at h
      · rename_i hg
        obtain ⟨i, hi, rfl⟩ := Option.map_eq_some_iff.mp h
        cases hc : J.G i with
        | none =>
          refine ⟨fun pins s σ H Q I hq => ?_⟩
          obtain ⟨ρ, h, ι, w, h', r, e, p⟩ := hq
          unfold ev at e
          rw [show (cJ J k).G i = none from hc] at e
          cases e
        | some c =>
          obtain ⟨v, u, hm, rv, rd⟩ := F.gs y i c hi hc
          refine (pe_glob (g.gl hg) hm rv hd.1).monoJ ?_
          rintro σ H Q ⟨ρ, h, ι, w, h', r, e, p⟩
          unfold ev at e
          rw [show (cJ J k).G i = some c from hc] at e
          cases e
          exact p.dat r.rh (rd H)
      · cases h
  · cases h
theorem snd_const {c : Const} {j : Nat} {pos : Pos} {Z : E} (h : trC c = some Z) : PE X (.Constant c j pos) (tE (cJ J k) X.K Z) := by
  have key : ∀ {v : V} {d : D} {C : Ctx}, (∀ H, RD X.K H v d) → ∀ σ H Q, tE C X.K (.c d) σ H Q → tC v σ H Q := by
    rintro v d C rd σ H Q ⟨ρ, h, ι, w, h', r, e, p⟩
    unfold ev at e
    cases e
    exact p.dat r.rh (rd H)
  cases c with
  | none => cases h; exact pe_non.monoJ (key fun _ => .non)
  | bool b => cases h; exact pe_bl.monoJ (key fun _ => .b b)
  | int i => cases h; exact pe_int.monoJ (key fun _ => .i i)
  | str z =>
    replace h : (if z.cps.toList = (dec z).toList.map Char.toNat ∧ (dec z).length ≤ SZ then some (E.c (.s (dec z))) else none) = some Z := h
    split at h
    · cases h
      rename_i hz
      exact pe_str.monoJ (key fun _ => .s hz.1 hz.2)
    · cases h
  | float _ => cases h
  | complex _ _ => cases h
  | bytes _ => cases h
  | ellipsis => cases h
abbrev Snd (X : Cx) (J : Prog) (k : Nat) (f : Expr → Option E) : Prop := ∀ (e : Expr) (Z : E), f e = some Z → okE e = true ∧ PE X e (tE (cJ J k) X.K Z)
theorem snd_args {f : Expr → Option E} (hf : Snd X J k f) : ∀ {es : List Expr} {Es : List E}, trs f es = some Es → PA X es (tAs (cJ J k) X.K Es)
  | [], Es, h => by
    cases h
    refine pa_nil.monoJ ?_
    rintro σ H Q ⟨ρ, h, ι, ws, h', r, e, p⟩
    unfold evs at e
    cases e
    exact p [] H ι (.refl _ _) r.rh .nil
  | e :: es, Es, h => by
    unfold trs at h
    split at h
    · cases h
      rename_i a b h1 h2
      obtain ⟨ok, pe⟩ := hf _ _ h1
      refine (pa_cons pe (snd_args hf h2) (ok_star ok es X.env)).monoJ ?_
      rintro σ H Q ⟨ρ, h, ι, ws, h', r, e, p⟩
      obtain ⟨w, hx, us, e1, e2, rfl⟩ := evs_cons e
      refine ⟨ρ, h, ι, w, hx, r, e1, fun v H1 ι1 s1 r1 q1 => ⟨ρ, hx, ι1, us, _, r.mono s1 r1, e2, fun vs H2 ι2 s2 r2 q2 => ?_⟩⟩
      exact p _ _ _ (s1.trans s2) r2 (.cons (q1.mono s2) q2)
    · cases h
theorem trs_len {f : Expr → Option E} : ∀ {es : List Expr} {Es : List E}, trs f es = some Es → es.length = Es.length
  | [], Es, h => by cases h; rfl
  | e :: es, Es, h => by
    unfold trs at h
    split at h
    · cases h
      rename_i h1 h2
      show es.length + 1 = _ + 1
      rw [trs_len h2]
    · cases h
theorem snd_tuple {f : Expr → Option E} (hf : Snd X J k f) {es : List Expr} {j : Nat} {pos : Pos} {Z : E} (h : (trs f es).map E.tup = some Z) : PE X (.Tuple es j pos) (tE (cJ J k) X.K Z) := by
  obtain ⟨Es, hE, rfl⟩ := Option.map_eq_some_iff.mp h
  refine (pe_tup (snd_args hf hE)).monoJ ?_
  rintro σ H Q ⟨ρ, h, ι, w, h', r, e, p⟩
  unfold ev at e
  split at e
  · rename_i ws h1 e1
    unfold mkT at e
    split at e
    · rename_i ds hd
      split at e
      · cases e
        refine ⟨ρ, h, ι, ws, _, r, e1, fun vs H1 ι1 s1 r1 q1 => ?_⟩
        have qd := q1.allD hd
        exact ⟨by rw [szl, qd.length]; assumption, (p.step s1).tup r1 qd⟩
      · cases e
    · cases e
  · cases e
theorem snd_list {f : Expr → Option E} (hf : Snd X J k f) {es : List Expr} {pos : Pos} {Z : E} (h : (trs f es).map E.lst = some Z) : PE X (.List es pos) (tE (cJ J k) X.K Z) := by
  obtain ⟨Es, hE, rfl⟩ := Option.map_eq_some_iff.mp h
  refine (pe_lst (snd_args hf hE)).monoJ ?_
  rintro σ H Q ⟨ρ, h, ι, w, h', r, e, p⟩
  unfold ev at e
  split at e
  · rename_i ws h1 e1
    unfold new at e
    split at e
    · cases e
      refine ⟨ρ, h, ι, ws, _, r, e1, fun vs H1 ι1 s1 r1 q1 => ?_⟩
      exact ⟨by rw [szl, q1.length]; assumption, (p.step s1).lst r1 q1⟩
    · cases e
  · cases e
theorem snd_bin {f : Expr → Option E} (hf : Snd X J k f) {a b : Expr} {op : Operator} {pos : Pos} {Z : E} (h : (match bOp op, f a, f b with
      | some o, some u, some w => some (E.bin o u w)
      | _, _, _ => none) = some Z) : PE X (.BinOp a op b pos) (tE (cJ J k) X.K Z) := by
  split at h
  · rename_i o u w ho ha hb
    cases h
    have hop : OpR X (binaryOp op) (rJ2 X.K fun h u w => binop h o u w) := by
      have := op_binJ (X := X) o
      cases op <;> cases ho <;> exact this
    refine (pe_op hop (hf _ _ ha).2 (hf _ _ hb).2).monoJ ?_
    rintro σ H Q ⟨ρ, h, ι, w, h', r, e, p⟩
    unfold ev at e
    obtain ⟨u', h1, w', h2, e1, e2, e3⟩ := ev2 e
    refine ⟨ρ, h, ι, u', h1, r, e1, fun v H1 ι1 s1 r1 q1 => ⟨ρ, h1, ι1, w', h2, r.mono s1 r1, e2, fun v' H2 ι2 s2 r2 q2 => ?_⟩⟩
    exact ⟨ι2, h2, u', w', _, _, r2, q1.mono s2, q2, e3, p.step (s1.trans s2)⟩
  · cases h
theorem snd_not {a : Expr} {A : E} {pos : Pos} (ha : PE X a (tE (cJ J k) X.K A)) : PE X (.UnaryOp .Not a pos) (tE (cJ J k) X.K (.not A)) := by
  refine (pe_not ha).monoJ ?_
  rintro σ H Q ⟨ρ, h, ι, w, h', r, e, p⟩
  unfold ev at e
  split at e
  · cases e
    rename_i b e1
    refine ⟨ρ, h, ι, _, _, r, e1, fun v H1 ι1 s1 r1 q1 => ?_⟩
    cases q1 with | d q1 => cases q1; exact ⟨b, rfl, (p.step s1).dat r1 (.b _)⟩
  · cases e
theorem snd_neg {a : Expr} {A : E} {pos : Pos} (ha : PE X a (tE (cJ J k) X.K A)) : PE X (.UnaryOp .USub a pos) (tE (cJ J k) X.K (.neg A)) := by
  refine (pe_un un_neg ha).monoJ ?_
  rintro σ H Q ⟨ρ, h, ι, w, h', r, e, p⟩
  unfold ev at e
  split at e
  · cases e
    rename_i b e1
    refine ⟨ρ, h, ι, _, _, r, e1, fun v H1 ι1 s1 r1 q1 => ?_⟩
    cases q1 with | d q1 => cases q1; exact ⟨b, rfl, (p.step s1).dat r1 (.i _)⟩
  · cases e
theorem cop_run (g : Good x k X) {op : CmpOp} {o : COp} (ho : cOp op = some o) : OpR X (compareOp op) (rJc X.K fun h u w => cmpop h o u w) := by
  have := op_cmpJ (X := X) g.units o
  cases op <;> cases ho <;> exact this
theorem isNone_eq {b : Expr} (h : isNone b = true) : ∃ j p, b = .Constant .none j p := by
  unfold isNone at h
  split at h
  · exact ⟨_, _, rfl⟩
  · cases h
/-- a comparison, as a value and as a test -/
theorem snd_cmp (g : Good x k X) {f : Expr → Option E} (hf : Snd X J k f) {a : Expr} {ops : List CmpOp} {cs : List Expr} {pos : Pos} {Z : E} (h : trCmp f a ops cs = some Z) :
    PE X (.Compare a ops cs pos) (tE (cJ J k) X.K Z) ∧ PT X (.Compare a ops cs pos) (tB' (cJ J k) X.K Z) := by
  have fin : ∀ {t : TE}, (∀ σ H Q, tE (cJ J k) X.K Z σ H Q → t σ H Q) → ∀ σ H Q, tB' (cJ J k) X.K Z σ H Q → t σ H (fun x H' => ∃ c, x = .bl c ∧ Q c H') := by
    rintro t m σ H Q ⟨ρ, h, ι, b, h', r, e, p⟩
    refine m σ H _ ⟨ρ, h, ι, _, h', r, e, fun v H' ι' s1 r1 q1 => ?_⟩
    cases q1 with | d q1 => cases q1; exact ⟨b, rfl, p H' ι' s1 r1⟩
  unfold trCmp at h
  split at h
  · rename_i b
    split at h
    · rename_i hn
      obtain ⟨j, p, rfl⟩ := isNone_eq hn
      obtain ⟨A, ha, rfl⟩ := Option.map_eq_some_iff.mp h
      have m : ∀ σ H Q, tE (cJ J k) X.K (.isN A) σ H Q → tIsN (tE (cJ J k) X.K A) σ H Q := by
        rintro σ H Q ⟨ρ, h, ι, w, h', r, e, p⟩
        unfold ev at e
        split at e
        · cases e
          refine ⟨ρ, h, ι, _, _, r, by assumption, fun v H1 ι1 s1 r1 q1 => ?_⟩
          cases q1 with | d q1 => cases q1; exact (p.step s1).dat r1 (.b _)
        · cases e
          rename_i w' hn e1
          refine ⟨ρ, h, ι, _, _, r, e1, fun v H1 ι1 s1 r1 q1 => ?_⟩
          have : decide (v = .non) = false := by
            refine decide_eq_false ?_
            rintro rfl
            cases q1 with | d q1 => cases q1; exact hn rfl
          show Q (V.bl (decide (v = .non))) H1
          rw [this]
          exact (p.step s1).dat r1 (.b _)
        · cases e
      have pc := pc_isN (j := j) (pos' := p) (hf _ _ ha).2
      exact ⟨(pe_cmp pc).monoJ m, (pt_cmp pc).monoJ (fin m)⟩
    · cases h
  · rename_i b
    split at h
    · rename_i hn
      obtain ⟨j, p, rfl⟩ := isNone_eq hn
      obtain ⟨A, ha, rfl⟩ := Option.map_eq_some_iff.mp h
      have m : ∀ σ H Q, tE (cJ J k) X.K (.isNN A) σ H Q → tNotN (tE (cJ J k) X.K A) σ H Q := by
        rintro σ H Q ⟨ρ, h, ι, w, h', r, e, p⟩
        unfold ev at e
        split at e
        · cases e
          refine ⟨ρ, h, ι, _, _, r, by assumption, fun v H1 ι1 s1 r1 q1 => ?_⟩
          cases q1 with | d q1 => cases q1; exact (p.step s1).dat r1 (.b _)
        · cases e
          rename_i w' hn e1
          refine ⟨ρ, h, ι, _, _, r, e1, fun v H1 ι1 s1 r1 q1 => ?_⟩
          have : decide (v = .non) = false := by
            refine decide_eq_false ?_
            rintro rfl
            cases q1 with | d q1 => cases q1; exact hn rfl
          show Q (V.bl (!decide (v = .non))) H1
          rw [this]
          exact (p.step s1).dat r1 (.b _)
        · cases e
      have pc := pc_notN (j := j) (pos' := p) (hf _ _ ha).2
      exact ⟨(pe_cmp pc).monoJ m, (pt_cmp pc).monoJ (fin m)⟩
    · cases h
  · rename_i o b _ _
    split at h
    · cases h
      rename_i o' u w ho ha hb
      have m : ∀ σ H Q, tE (cJ J k) X.K (.cmp o' u w) σ H Q → tOp (rJc X.K fun h u w => cmpop h o' u w) (tE (cJ J k) X.K u) (tE (cJ J k) X.K w) σ H Q := by
        rintro σ H Q ⟨ρ, h, ι, w, h', r, e, p⟩
        unfold ev at e
        obtain ⟨u', h1, w', h2, e1, e2, e3⟩ := ev2 e
        split at e3
        · cases e3
          refine ⟨ρ, h, ι, u', h1, r, e1, fun v H1 ι1 s1 r1 q1 => ⟨ρ, h1, ι1, w', _, r.mono s1 r1, e2, fun v' H2 ι2 s2 r2 q2 => ?_⟩⟩
          exact ⟨ι2, _, u', w', _, r2, q1.mono s2, q2, by assumption, (p.step (s1.trans s2)).dat r2 (.b _)⟩
        · cases e3
      have mk := ok_marks (hf _ _ hb).1 o
      exact ⟨(pe_cmpR (cop_run g ho) (hf _ _ ha).2 (hf _ _ hb).2 mk).monoJ m, (pt_cmpR (cop_run g ho) (hf _ _ ha).2 (hf _ _ hb).2 mk).monoJ (fin m)⟩
    · cases h
  · rename_i o o' b c
    split at h
    · cases h
      rename_i o1 o2 u w z ho ho' ha hb hc
      have m : ∀ σ H Q, tE (cJ J k) X.K (.chain o1 o2 u w z) σ H Q → tChain (rJc X.K fun h u w => cmpop h o1 u w) (rJc X.K fun h u w => cmpop h o2 u w) (tE (cJ J k) X.K u) (tE (cJ J k) X.K w) (tE (cJ J k) X.K z) σ H Q := by
        rintro σ H Q ⟨ρ, h, ι, w, h', r, e, p⟩
        unfold ev at e
        obtain ⟨u', h1, w', h2, e1, e2, e3⟩ := ev2 e
        refine ⟨ρ, h, ι, u', h1, r, e1, fun v H1 ι1 s1 r1 q1 => ⟨ρ, h1, ι1, w', h2, r.mono s1 r1, e2, fun v' H2 ι2 s2 r2 q2 => ?_⟩⟩
        split at e3
        · rename_i c1
          split at e3
          · rename_i z' h3 e4
            split at e3
            · cases e3
              refine ⟨ι2, _, u', w', _, r2, q1.mono s2, q2, c1, true, rfl, ?_⟩
              rw [if_pos rfl]
              refine ⟨ρ, h2, ι2, z', _, r.mono (s1.trans s2) r2, e4, fun v3 H3 ι3 s3 r3 q3 => ?_⟩
              exact ⟨ι3, _, w', z', _, r3, q2.mono s3, q3, by assumption, (p.step ((s1.trans s2).trans s3)).dat r3 (.b _)⟩
            · cases e3
          · cases e3
        · cases e3
          rename_i c1
          refine ⟨ι2, _, u', w', _, r2, q1.mono s2, q2, c1, false, rfl, ?_⟩
          rw [if_neg Bool.false_ne_true]
          exact (p.step (s1.trans s2)).dat r2 (.b _)
        · cases e3
      have mk : lastMarks [o, o'] [b, c] = false := ok_marks (hf _ _ hc).1 o'
      exact ⟨(pe_chain (cop_run g ho) (cop_run g ho') (hf _ _ ha).2 (hf _ _ hb).2 (hf _ _ hc).2 mk).monoJ m, (pt_chain (cop_run g ho) (cop_run g ho') (hf _ _ ha).2 (hf _ _ hb).2 (hf _ _ hc).2 mk).monoJ (fin m)⟩
    · cases h
  · cases h
end
end J
set_option maxRecDepth 100000
namespace J
open PySem L2 PyProof.Rows
section
variable {X : Cx} {x : Sx} {J : Prog} {k : Nat}
abbrev SndT (X : Cx) (J : Prog) (k : Nat) (f : Expr → Option E) : Prop := ∀ (e : Expr) (Z : E), f e = some Z → PT X e (tB' (cJ J k) X.K Z)
/-! ### and, or -/
theorem trB_cons {f : Expr → Option E} {mk : E → E → E} {a b : Expr} {r : List Expr} {Z : E} (h : trB f mk (a :: b :: r) = some Z) : ∃ A R, f a = some A ∧ trB f mk (b :: r) = some R ∧ Z = mk A R := by
  have h' : (match f a, trB f mk (b :: r) with
      | some x, some y => some (mk x y)
      | _, _ => none) = some Z := h
  split at h'
  · cases h'; exact ⟨_, _, by assumption, by assumption, rfl⟩
  · cases h'
theorem snd_and {f : Expr → Option E} (hf : Snd X J k f) {pos : Pos} : ∀ {vs : List Expr} {Z : E}, trB f .and vs = some Z → PE X (.BoolOp .And vs pos) (tE (cJ J k) X.K Z)
  | [], _, h => by cases h
  | [a], _, h => pe_one (hf _ _ h).2
  | a :: b :: r, Z, h => by
    obtain ⟨A, R, ha, hr, rfl⟩ := trB_cons h
    refine (pe_and (hf _ _ ha).2 (snd_and hf hr)).monoJ ?_
    rintro σ H Q ⟨ρ, h, ι, w, h', r, e, p⟩
    unfold ev at e
    split at e
    · rename_i h1 e1
      refine ⟨ρ, h, ι, _, h1, r, e1, fun v H1 ι1 s1 r1 q1 => ?_⟩
      cases q1 with | d q1 => cases q1; exact ⟨true, rfl, by exact iteT <| ⟨ρ, h1, ι1, w, h', r.mono s1 r1, e, p.step s1⟩⟩
    · cases e
      rename_i e1
      refine ⟨ρ, h, ι, _, _, r, e1, fun v H1 ι1 s1 r1 q1 => ?_⟩
      cases q1 with | d q1 => cases q1; exact ⟨false, rfl, by exact iteF <| (p.step s1).dat r1 (.b _)⟩
    · cases e
theorem snd_or {f : Expr → Option E} (hf : Snd X J k f) {pos : Pos} : ∀ {vs : List Expr} {Z : E}, trB f .or vs = some Z → PE X (.BoolOp .Or vs pos) (tE (cJ J k) X.K Z)
  | [], _, h => by cases h
  | [a], _, h => pe_one (hf _ _ h).2
  | a :: b :: r, Z, h => by
    obtain ⟨A, R, ha, hr, rfl⟩ := trB_cons h
    refine (pe_or (hf _ _ ha).2 (snd_or hf hr)).monoJ ?_
    rintro σ H Q ⟨ρ, h, ι, w, h', r, e, p⟩
    unfold ev at e
    split at e
    · cases e
      rename_i e1
      refine ⟨ρ, h, ι, _, _, r, e1, fun v H1 ι1 s1 r1 q1 => ?_⟩
      cases q1 with | d q1 => cases q1; exact ⟨true, rfl, by exact iteT <| (p.step s1).dat r1 (.b _)⟩
    · rename_i h1 e1
      refine ⟨ρ, h, ι, _, h1, r, e1, fun v H1 ι1 s1 r1 q1 => ?_⟩
      cases q1 with | d q1 => cases q1; exact ⟨false, rfl, by exact iteF <| ⟨ρ, h1, ι1, w, h', r.mono s1 r1, e, p.step s1⟩⟩
    · cases e
theorem PostB.step {K : Fg} {ι ι1 : List Addr} {H H1 : Hp} {b : Bool} {h' : LH} {Q : Bool → Hp → Prop} (p : PostB K ι H b h' Q) (st : Step ι H ι1 H1) : PostB K ι1 H1 b h' Q := fun H' ι' s r => p H' ι' (st.trans s) r
theorem sndT_and {f : Expr → Option E} (hf : SndT X J k f) {pos : Pos} : ∀ {vs : List Expr} {Z : E}, trB f .and vs = some Z → PW X (.BoolOp .And vs pos) (tB' (cJ J k) X.K Z)
  | [], _, h => by cases h
  | [a], _, h => pw_and1 (hf _ _ h)
  | a :: b :: r, Z, h => by
    obtain ⟨A, R, ha, hr, rfl⟩ := trB_cons h
    refine ⟨fun wh pins s σ H Q I hq => (pw_and (hf _ _ ha) (sndT_and hf hr)).run wh pins s σ H Q I ?_⟩
    obtain ⟨ρ, h, ι, bb, h', r, e, p⟩ := hq
    unfold ev at e
    split at e
    · rename_i h1 e1
      refine ⟨ρ, h, ι, _, h1, r, e1, fun H1 ι1 s1 r1 => ?_⟩
      exact iteT <| ⟨ρ, h1, ι1, bb, h', r.mono s1 r1, e, p.step s1⟩
    · cases e
      rename_i e1
      refine ⟨ρ, h, ι, _, _, r, e1, fun H1 ι1 s1 r1 => ?_⟩
      exact iteF <| p H1 ι1 s1 r1
    · cases e
theorem sndT_or {f : Expr → Option E} (hf : SndT X J k f) {pos : Pos} : ∀ {vs : List Expr} {Z : E}, trB f .or vs = some Z → PW X (.BoolOp .Or vs pos) (tB' (cJ J k) X.K Z)
  | [], _, h => by cases h
  | [a], _, h => pw_or1 (hf _ _ h)
  | a :: b :: r, Z, h => by
    obtain ⟨A, R, ha, hr, rfl⟩ := trB_cons h
    refine ⟨fun wh pins s σ H Q I hq => (pw_or (hf _ _ ha) (sndT_or hf hr)).run wh pins s σ H Q I ?_⟩
    obtain ⟨ρ, h, ι, bb, h', r, e, p⟩ := hq
    unfold ev at e
    split at e
    · cases e
      rename_i e1
      refine ⟨ρ, h, ι, _, _, r, e1, fun H1 ι1 s1 r1 => ?_⟩
      exact iteT <| p H1 ι1 s1 r1
    · rename_i h1 e1
      refine ⟨ρ, h, ι, _, h1, r, e1, fun H1 ι1 s1 r1 => ?_⟩
      exact iteF <| ⟨ρ, h1, ι1, bb, h', r.mono s1 r1, e, p.step s1⟩
    · cases e
theorem sndT_not {a : Expr} {A : E} {pos : Pos} (ha : PT X a (tB' (cJ J k) X.K A)) : PT X (.UnaryOp .Not a pos) (tB' (cJ J k) X.K (.not A)) := by
  refine (pt_not ha).monoJ ?_
  rintro σ H Q ⟨ρ, h, ι, b, h', r, e, p⟩
  unfold ev at e
  split at e
  · cases e
    rename_i b e1
    exact ⟨ρ, h, ι, _, _, r, e1, fun H1 ι1 s1 r1 => p H1 ι1 s1 r1⟩
  · cases e
/-- a test whose value is a bool -/
theorem sndT_val {e : Expr} {Z : E} (he : PE X e (tE (cJ J k) X.K Z)) (hw : ∀ whole, isTrue e X.env whole = (do let v ← whole; standAt e.pos; holding [v] (truthy v))) : PT X e (tB' (cJ J k) X.K Z) := by
  refine (pt_val he hw).monoJ ?_
  rintro σ H Q ⟨ρ, h, ι, b, h', r, e, p⟩
  refine ⟨ρ, h, ι, _, h', r, e, fun v H' ι' s1 r1 q1 => ?_⟩
  cases q1 with | d q1 => cases q1; exact ⟨b, rfl, p H' ι' s1 r1⟩
/-! ### a if c else b -/
theorem snd_ite {c a b : Expr} {C A B : E} {pos : Pos} (hc : PT X c (tB' (cJ J k) X.K C)) (ha : PE X a (tE (cJ J k) X.K A)) (hb : PE X b (tE (cJ J k) X.K B)) : PE X (.IfExp c a b pos) (tE (cJ J k) X.K (.ite C A B)) := by
  refine (pe_ifExp hc ha hb).monoJ ?_
  rintro σ H Q ⟨ρ, h, ι, w, h', r, e, p⟩
  unfold ev at e
  split at e
  · rename_i h1 e1
    refine ⟨ρ, h, ι, _, h1, r, e1, fun H1 ι1 s1 r1 => ?_⟩
    exact iteT <| ⟨ρ, h1, ι1, w, h', r.mono s1 r1, e, p.step s1⟩
  · rename_i h1 e1
    refine ⟨ρ, h, ι, _, h1, r, e1, fun H1 ι1 s1 r1 => ?_⟩
    exact iteF <| ⟨ρ, h1, ι1, w, h', r.mono s1 r1, e, p.step s1⟩
  · cases e
theorem sndT_ite {c a b : Expr} {C A B : E} {pos : Pos} (hc : PT X c (tB' (cJ J k) X.K C)) (ha : PT X a (tB' (cJ J k) X.K A)) (hb : PT X b (tB' (cJ J k) X.K B)) : PT X (.IfExp c a b pos) (tB' (cJ J k) X.K (.ite C A B)) := by
  refine ⟨fun pins s σ H Q I hq => ?_⟩
  obtain ⟨ρ, h, ι, bb, h', r, e, p⟩ := hq
  unfold ev at e
  show wpAny _ _ (isTrue c X.env (eval c X.env) >>= fun z => if z = true then isTrue a X.env (eval a X.env) else isTrue b X.env (eval b X.env)) _ _ s
  refine wpAny_bind ?_
  split at e
  · rename_i h1 e1
    refine thn (hc.run pins s σ H (fun b H' => b = true ∧ ∃ ι1, Step ι H ι1 H' ∧ RH X.K H' ι1 h1) I ⟨ρ, h, ι, true, h1, r, e1, fun H1 ι1 s1 r1 => ⟨rfl, ι1, s1, r1⟩⟩) fun z s1 ⟨H1, I1, hz, ι1, st, r1⟩ => ?_
    subst hz
    exact ha.run pins s1 σ H1 Q I1 ⟨ρ, h1, ι1, bb, h', r.mono st r1, e, p.step st⟩
  · rename_i h1 e1
    refine thn (hc.run pins s σ H (fun b H' => b = false ∧ ∃ ι1, Step ι H ι1 H' ∧ RH X.K H' ι1 h1) I ⟨ρ, h, ι, false, h1, r, e1, fun H1 ι1 s1 r1 => ⟨rfl, ι1, s1, r1⟩⟩) fun z s1 ⟨H1, I1, hz, ι1, st, r1⟩ => ?_
    subst hz
    exact hb.run pins s1 σ H1 Q I1 ⟨ρ, h1, ι1, bb, h', r.mono st r1, e, p.step st⟩
  · cases e
/-! ### subscripts -/
theorem snd_ix {v s : Expr} {A B : E} {pos : Pos} (ha : PE X v (tE (cJ J k) X.K A)) (hb : PE X s (tE (cJ J k) X.K B)) (ok : okE s = true) : PE X (.Subscript v s pos) (tE (cJ J k) X.K (.ix A B)) := by
  refine (pe_ix ix_J ha hb (ok_plain ok)).monoJ ?_
  rintro σ H Q ⟨ρ, h, ι, w, h', r, e, p⟩
  unfold ev at e
  obtain ⟨u', h1, w', h2, e1, e2, e3⟩ := ev2 e
  refine ⟨ρ, h, ι, u', h1, r, e1, fun v H1 ι1 s1 r1 q1 => ⟨ρ, h1, ι1, w', h2, r.mono s1 r1, e2, fun v' H2 ι2 s2 r2 q2 => ?_⟩⟩
  exact ⟨ι2, h2, u', w', _, _, r2, q1.mono s2, q2, e3, p.step (s1.trans s2)⟩
theorem snd_dix (g : Good x k X) (F : Facts X.prog X.w X.K X.mg X.base x.T J k) {y : Str} {s : Expr} {B : E} {d : Nat} {py pos : Pos} (hg : glB x y = true) (hd : (y == ("__debug__" : Str)) = false) (hl : x.T.t.lookup y = some d) (hb : PE X s (tE (cJ J k) X.K B)) (ok : okE s = true) : PE X (.Subscript (.Name y py) s pos) (tE (cJ J k) X.K (.dix d B)) := by
  by_cases he : ∃ z c, J.T d z = some c
  · obtain ⟨z0, c0, h0⟩ := he
    obtain ⟨a, hm, _⟩ := F.ts y d z0 c0 hl h0
    refine (pe_ix ix_kdict (pe_glob (v := .ref a) (g.gl hg) hm rfl hd) hb (ok_plain ok)).monoJ ?_
    rintro σ H Q ⟨ρ, h, ι, w, h', r, e, p⟩
    unfold ev at e
    split at e
    · rename_i z h1 e1
      split at e
      · cases e
        rename_i c hc
        obtain ⟨a', hm', hz⟩ := F.ts y d z c hl hc
        have : a = a' := by rw [hm] at hm'; cases hm'; rfl
        subst this
        refine ⟨ρ, h, ι, _, _, r, e1, fun v H1 ι1 s1 r1 q1 => ?_⟩
        cases q1 with | d q1 => cases q1 with
          | s ez lz =>
            obtain ⟨v, kd, rd⟩ := hz _ ez
            exact ⟨a, _, v, rfl, rfl, kd, (p.step s1).dat r1 (rd H1)⟩
      · cases e
    · cases e
  · refine ⟨fun pins s σ H Q I hq => ?_⟩
    obtain ⟨ρ, h, ι, w, h', r, e, p⟩ := hq
    unfold ev at e
    split at e
    · split at e
      · exact absurd ⟨_, _, by assumption⟩ he
      · cases e
    · cases e
def tOJ (C : Ctx) (K : Fg) (o : Option E) : TO := fun σ H Q => ∃ ρ h ι z h', Rs K σ H ρ ι h ∧ evo C o ρ h = some (z, h') ∧ ∀ H' ι', Step ι H ι' H' → RH K H' ι' h' → Q z H'
theorem snd_opt {f : Expr → Option E} (hf : Snd X J k f) {o : Option Expr} {O : Option E} (h : trO f o = some O) : PO X o (tOJ (cJ J k) X.K O) := by
  have mono : ∀ {t t' : TO}, PO X o t → (∀ σ H Q, t' σ H Q → t σ H Q) → PO X o t' := fun p m => ⟨fun pins s σ H Q I q => p.run pins s σ H Q I (m _ _ _ q)⟩
  cases o with
  | none =>
    cases h
    refine mono po_none ?_
    rintro σ H Q ⟨ρ, h, ι, z, h', r, e, p⟩
    unfold evo at e
    cases e
    exact p H ι (.refl _ _) r.rh
  | some e =>
    obtain ⟨Z, hz, rfl⟩ := Option.map_eq_some_iff.mp h
    refine mono (po_some (hf _ _ hz).2) ?_
    rintro σ H Q ⟨ρ, h, ι, z, h', r, e, p⟩
    unfold evo at e
    split at e
    · cases e
      rename_i i e1
      refine ⟨ρ, h, ι, _, _, r, e1, fun v H1 ι1 s1 r1 q1 => ?_⟩
      cases q1 with | d q1 => cases q1; exact ⟨_, rfl, p H1 ι1 s1 r1⟩
    · cases e
theorem snd_slice {f : Expr → Option E} (hf : Snd X J k f) {v : Expr} {lo hi : Option Expr} {A : E} {L U : Option E} {p2 pos : Pos} (ha : f v = some A) (hl : trO f lo = some L) (hu : trO f hi = some U) : PE X (.Subscript v (.Slice lo hi none p2) pos) (tE (cJ J k) X.K (.sl A L U)) := by
  refine (pe_slice sl_J (hf _ _ ha).2 (snd_opt hf hl) (snd_opt hf hu)).monoJ ?_
  rintro σ H Q ⟨ρ, h, ι, w, h', r, e, p⟩
  unfold ev at e
  split at e
  · rename_i u h1 e1
    split at e
    · rename_i a h2 e2
      split at e
      · rename_i z h3 e3
        refine ⟨ρ, h, ι, u, h1, r, e1, fun v H1 ι1 s1 r1 q1 => ⟨ρ, h1, ι1, a, h2, r.mono s1 r1, e2, fun H2 ι2 s2 r2 => ⟨ρ, h2, ι2, z, h3, r.mono (s1.trans s2) r2, e3, fun H3 ι3 s3 r3 => ?_⟩⟩⟩
        exact ⟨ι3, h3, u, w, h', r3, (q1.mono s2).mono s3, e, p.step ((s1.trans s2).trans s3)⟩
      · cases e
    · cases e
  · cases e
theorem snd_rev {v : Expr} {A : E} {j : Nat} {p1 p2 p3 pos : Pos} (ha : PE X v (tE (cJ J k) X.K A)) : PE X (.Subscript v (.Slice none none (some (.UnaryOp .USub (.Constant (.int 1) j p1) p2)) p3) pos) (tE (cJ J k) X.K (.rev A)) := by
  refine (pe_revL ha).monoJ ?_
  rintro σ H Q ⟨ρ, h, ι, w, h', r, e, p⟩
  unfold ev at e
  split at e
  · rename_i u h1 e1
    refine ⟨ρ, h, ι, u, h1, r, e1, fun v H1 ι1 s1 r1 q1 => ?_⟩
    unfold revW at e
    split at e
    · cases e
      cases q1 with | d q1 => cases q1 with | fl f1 q2 => exact ⟨_, _, rfl, f1.sq, (p.step s1).lst r1 (RWs.data q2).reverse⟩
    · split at e
      · cases e
        rename_i ws hws
        cases q1 with | l q1 =>
          obtain ⟨vs, g, q2, _⟩ := r1.of q1 hws
          exact ⟨_, _, rfl, SqL.of g, (p.step s1).lst r1 q2.reverse⟩
      · cases e
    · cases e
  · cases e
theorem isM1_eq {e : Expr} (h : isM1 e = true) : ∃ j p1 p2, e = .UnaryOp .USub (.Constant (.int 1) j p1) p2 := by
  unfold isM1 at h
  split at h
  · exact ⟨_, _, _, rfl⟩
  · cases h
theorem snd_sub (g : Good x k X) (F : Facts X.prog X.w X.K X.mg X.base x.T J k) {f : Expr → Option E} (hf : Snd X J k f) {v s : Expr} {pos : Pos} {Z : E} (h : trSub f x v s = some Z) : PE X (.Subscript v s pos) (tE (cJ J k) X.K Z) := by
  have two : ∀ {v s : Expr} {Z : E}, (match f v, f s with
        | some a, some b => some (E.ix a b)
        | _, _ => none) = some Z → PE X (.Subscript v s pos) (tE (cJ J k) X.K Z) := by
    intro v s Z h
    split at h
    · cases h
      rename_i h1 h2
      exact snd_ix (hf _ _ h1).2 (hf _ _ h2).2 (hf _ _ h2).1
    · cases h
  unfold trSub at h
  split at h
  · split at h
    · cases h
      exact snd_slice hf (by assumption) (by assumption) (by assumption)
    · cases h
  · split at h
    · rename_i hm
      obtain ⟨j, p1, p2, rfl⟩ := isM1_eq hm
      obtain ⟨A, ha, rfl⟩ := Option.map_eq_some_iff.mp h
      exact snd_rev (hf _ _ ha).2
    · cases h
  · split at h
    · rename_i y py
      split at h
      · rename_i hg
        split at h
        · cases h
          rename_i d i hl hi
          exact snd_dix g F hg.1 hg.2 hl (hf _ _ hi).2 (hf _ _ hi).1
        · exact two h
      · exact two h
    · exact two h
end
end J
set_option maxRecDepth 100000
namespace J
open PySem L2 PyProof.Rows
section
variable {X : Cx} {x : Sx} {J : Prog} {k : Nat}
/-! ### calls -/
theorem snd_call (g : Good x k X) (F : Facts X.prog X.w X.K X.mg X.base x.T J k) {f : Expr → Option E} (hf : Snd X J k f) {y : Str} {py pos : Pos} {args : List Expr} {us : List E} {i : Nat} (hd : (y == ("__debug__" : Str)) = false) (hg : glB x y = true) (hl : x.T.f.lookup y = some i) (ha : trs f args = some us) :
    PE X (.Call (.Name y py) args [] pos) (tE (cJ J k) X.K (.call i us)) := by
  cases hF : J.F i with
  | none =>
    refine ⟨fun pins s σ H Q I hq => ?_⟩
    obtain ⟨ρ, h, ι, w, h', r, e, p⟩ := hq
    unfold ev at e
    split at e
    · have e' : call J k i _ _ = some (w, h') := e
      cases k with
      | zero => cases e'
      | succ k =>
        unfold call at e'
        rw [hF] at e'
        cases e'
    · cases e
  | some d =>
    obtain ⟨a, fd, ps, hm, hk, hb, ok⟩ := F.fns y i d hl hF
    have m : ∀ σ H Q, tE (cJ J k) X.K (.call i us) σ H Q → tCall (spJ X.K J k i) [] E0 (tAs (cJ J k) X.K us) σ H Q := by
      rintro σ H Q ⟨ρ, h, ι, w, h', r, e, p⟩
      unfold ev at e
      split at e
      · rename_i ws h1 e1
        refine ⟨ρ, h, ι, ws, h1, r, e1, fun vs H1 ι1 s1 r1 q1 => ?_⟩
        show spJ X.K J k i (vs ++ []) H1 Q E0
        rw [List.append_nil]
        exact ⟨ι1, h1, ws, w, h', r1, q1, e, p.step s1⟩
      · cases e
    cases args with
    | nil =>
      cases ha
      refine (pe_call0 ok g.room (g.gl hg) hm hk hb .nil pass0 hd).monoJ ?_
      rintro σ H Q ⟨ρ, h, ι, w, h', r, e, p⟩
      unfold ev evs at e
      exact ⟨ι, h, [], w, h', r.rh, .nil, e, p⟩
    | cons a as =>
      have hall := trs_all ha (P := fun e => okE e = true) fun e Z h => (hf e Z h).1
      exact (pe_call ok g.room (g.gl hg) hm hk hb .nil pass0 (snd_args hf ha) hd (ok_star (hall a List.mem_cons_self) as X.env) (star_plain (fun e he => hall e (List.mem_cons_of_mem _ he)) pos X.env)).monoJ m
theorem bi_m {bi : Bi} {us : List E} : ∀ σ H Q, tE (cJ J k) X.K (.bi bi us) σ H Q → tCB (rJl X.K fun h ws => builtin h bi ws) (tAs (cJ J k) X.K us) σ H Q := by
  rintro σ H Q ⟨ρ, h, ι, w, h', r, e, p⟩
  unfold ev at e
  split at e
  · rename_i ws h1 e1
    exact ⟨ρ, h, ι, ws, h1, r, e1, fun vs H1 ι1 s1 r1 q1 => ⟨ι1, h1, ws, w, h', r1, q1, e, p.step s1⟩⟩
  · cases e
theorem snd_blt (g : Good x k X) {f : Expr → Option E} (hf : Snd X J k f) {y : Str} {py pos : Pos} {args : List Expr} {us : List E} {bi : Bi} {id : String} (hd : (y == ("__debug__" : Str)) = false) (hn : y ≠ "__name__") (hg : glB x y = true) (hm : X.mg y = none) (ha : trs f args = some us) (hne : args ≠ [])
    (hv : bootBuiltins y = some (.builtin id) ∧ CallR X (.builtin id) (rJl X.K fun h ws => builtin h bi ws) ∨ bootBuiltins y = some (.type id) ∧ CallR X (.type id) (rJl X.K fun h ws => builtin h bi ws)) :
    PE X (.Call (.Name y py) args [] pos) (tE (cJ J k) X.K (.bi bi us)) := by
  cases args with
  | nil => exact absurd rfl hne
  | cons a as =>
    have hall := trs_all ha (P := fun e => okE e = true) fun e Z h => (hf e Z h).1
    have st := ok_star (hall a List.mem_cons_self) as X.env
    have pl := star_plain (fun e he => hall e (List.mem_cons_of_mem _ he)) pos X.env
    rcases hv with ⟨hv, hc⟩ | ⟨hv, hc⟩
    · exact (pe_callB hc (g.gl hg) hm hv (snd_args hf ha) hn hd st pl).monoJ bi_m
    · exact (pe_callTy hc (g.gl hg) hm hv (snd_args hf ha) hn hd st pl).monoJ bi_m
theorem snd_isi (g : Good x k X) {a : Expr} {A : E} {c : Str} {T : String} {py pc pos : Pos} {bi : Bi} {fW : W → Bool} (ha : PE X a (tE (cJ J k) X.K A)) (ok : okE a = true) (hg : glB x "isinstance" = true) (hm : X.mg "isinstance" = none) (hgc : glB x c = true) (hmc : X.mg c = none) (hdc : (c == ("__debug__" : Str)) = false) (hnc : c ≠ "__name__")
    (hv : bootBuiltins c = some (.type T)) (hc : CallR X (.builtin "isinstance") (rIsJ X.K T fW)) (hb : ∀ h w, builtin h bi [w] = some (.d (.b (fW w)), h)) :
    PE X (.Call (.Name "isinstance" py) [a, .Name c pc] [] pos) (tE (cJ J k) X.K (.bi bi [A])) := by
  have pcn : PE X (.Name c pc) (tC (.ty T)) := pe_bltn (g.gl hgc) hmc hv rfl hnc hdc
  refine (pe_callB hc (g.gl hg) hm boot_isinstance (pa_cons ha (pa_cons pcn pa_nil) (ok_star ok _ X.env)) (by decide) (by decide) (ok_star ok _ X.env) rfl).monoJ ?_
  rintro σ H Q ⟨ρ, h, ι, w, h', r, e, p⟩
  unfold ev at e
  split at e
  · rename_i ws h1 e1
    obtain ⟨w1, h2, ws', e2, e3, rfl⟩ := evs_cons e1
    unfold evs at e3
    cases e3
    rw [hb] at e
    cases e
    refine ⟨ρ, h, ι, w1, _, r, e2, fun v H1 ι1 s1 r1 q1 => ?_⟩
    exact ⟨ι1, _, w1, v, r1, q1, rfl, (p.step s1).dat r1 (.b _)⟩
  · cases e
theorem trs_ne {args : List Expr} {n : Nat} (h : args.length = n + 1) : args ≠ [] := by
  rintro rfl; cases h
theorem snd_meth {f : Expr → Option E} (hf : Snd X J k f) {o : Expr} {m : Str} {apos pos : Pos} {args : List Expr} {me : Me} {O : E} {us : List E} (hr : recv o = true) (hline : (apos.endLine == pos.line) = true) (hme : meOf m args.length = some me) (ho : f o = some O) (ha : trs f args = some us) :
    PE X (.Call (.Attribute o m apos) args [] pos) (tE (cJ J k) X.K (.meth me O us)) := by
  have base : attributeBase o m X.env (eval o X.env) = eval o X.env := by
    cases o <;> first | rfl | cases hr
  have hall := trs_all ha (P := fun e => okE e = true) fun e Z h => (hf e Z h).1
  have islist : ∀ {H1 : Hp} {ι1 : List Addr} {h1 : LH} {v : V} {u : W} {r : W × LH} {ws : List W} {h2 : LH}, RH X.K H1 ι1 h1 → RW X.K H1 ι1 v u → method h2 me u ws = some r → tyV X.K "list" v H1 := by
    intro H1 ι1 h1 v u r ws h2 rh q e
    cases q with
    | d q => exfalso; unfold method at e; split at e <;> first | cases e | contradiction
    | l q =>
      obtain ⟨vs, g⟩ := rh.mem (List.mem_of_getElem? q)
      exact .inl ⟨rfl, vs, SqL.of g⟩
  have mm : ∀ σ H Q, tE (cJ J k) X.K (.meth me O us) σ H Q → tBM X.K "list" (rJm X.K me) (tE (cJ J k) X.K O) (tAs (cJ J k) X.K us) σ H Q := by
    rintro σ H Q ⟨ρ, h, ι, w, h', r, e, p⟩
    unfold ev at e
    split at e
    · rename_i u h1 e1
      split at e
      · rename_i ws h2 e2
        refine ⟨ρ, h, ι, u, h1, r, e1, fun v H1 ι1 s1 r1 q1 => ⟨islist r1 q1 e, ρ, h1, ι1, ws, h2, r.mono s1 r1, e2, fun vs H2 ι2 s2 r2 q2 => ?_⟩⟩
        exact ⟨ι2, h2, u, ws, w, h', r2, q1.mono s2, q2, e, p.step (s1.trans s2)⟩
      · cases e
    · cases e
  have m0 : ∀ σ H Q, tE (cJ J k) X.K (.meth me O []) σ H Q → tBM0 X.K "list" (rJm X.K me) (tE (cJ J k) X.K O) σ H Q := by
    rintro σ H Q ⟨ρ, h, ι, w, h', r, e, p⟩
    unfold ev evs at e
    split at e
    · rename_i u h1 e1
      refine ⟨ρ, h, ι, u, h1, r, e1, fun v H1 ι1 s1 r1 q1 => ⟨?_, ι1, h1, u, [], w, h', r1, q1, .nil, e, p.step s1⟩⟩
      cases q1 with
      | d q => exfalso; replace e : method h1 me _ [] = some (w, h') := e; unfold method at e; split at e <;> first | cases e | contradiction
      | l q =>
        obtain ⟨vs, g⟩ := r1.mem (List.mem_of_getElem? q)
        exact .inl ⟨rfl, vs, SqL.of g⟩
    · cases e
  unfold meOf at hme
  split at hme
  · cases hme; rename_i hc
    obtain ⟨rfl, hc⟩ := hc
    cases args with
    | nil => cases hc
    | cons a as =>
      cases as with
      | cons _ _ => cases hc
      | nil => exact (pe_bm PySem.F.plainAttrs_list PySem.F.slot_list_append PySem.F.type_list_append mt_appendJ (hf _ _ ho).2 (snd_args hf ha) base (by rw [ok_star (hall a List.mem_cons_self)]; rfl) hline (ok_star (hall a List.mem_cons_self) [] X.env) rfl).monoJ mm
  · split at hme
    · cases hme; rename_i hc
      obtain ⟨rfl, hc⟩ := hc
      cases args with
      | nil => cases hc
      | cons a as =>
        cases as with
        | cons _ _ => cases hc
        | nil => exact (pe_bm PySem.F.plainAttrs_list PySem.F.slot_list_extend PySem.F.type_list_extend mt_extendJ (hf _ _ ho).2 (snd_args hf ha) base (by rw [ok_star (hall a List.mem_cons_self)]; rfl) hline (ok_star (hall a List.mem_cons_self) [] X.env) rfl).monoJ mm
    · split at hme
      · cases hme; rename_i hc
        obtain ⟨rfl, hc⟩ := hc
        cases args with
        | cons _ _ => cases hc
        | nil =>
          cases ha
          exact (pe_bm0 PySem.F.plainAttrs_list PySem.F.slot_list_pop PySem.F.type_list_pop mt_popJ (hf _ _ ho).2 base hline).monoJ m0
      · split at hme
        · cases hme; rename_i hc
          obtain ⟨rfl, hc⟩ := hc
          cases args with
          | cons _ _ => cases hc
          | nil =>
            cases ha
            exact (pe_bm0 PySem.F.plainAttrs_list PySem.F.slot_list_reverse PySem.F.type_list_reverse mt_reverseJ (hf _ _ ho).2 base hline).monoJ m0
        · cases hme
theorem nmOf_eq {e : Expr} {y : Str} (h : nmOf e = some y) : ∃ p, e = .Name y p := by
  unfold nmOf at h
  split at h
  · cases h; exact ⟨_, rfl⟩
  · cases h
theorem snd_builtins (g : Good x k X) (F : Facts X.prog X.w X.K X.mg X.base x.T J k) {f : Expr → Option E} (hf : Snd X J k f) {y : Str} {py pos : Pos} {args : List Expr} {us : List E} {bi : Bi} (hd : (y == ("__debug__" : Str)) = false) (hg : glB x y = true) (hc : x.T.b.contains y = true) (hb : biOf y args.length = some bi) (ha : trs f args = some us) :
    PE X (.Call (.Name y py) args [] pos) (tE (cJ J k) X.K (.bi bi us)) := by
  have hm := F.bs y hc
  unfold biOf at hb
  split at hb
  · cases hb; rename_i c; obtain ⟨rfl, c⟩ := c
    exact snd_blt g hf hd (by decide) hg hm ha (trs_ne c) (.inl ⟨PySem.boot_len, len_J⟩)
  split at hb
  · cases hb; rename_i c; obtain ⟨rfl, c⟩ := c
    exact snd_blt g hf hd (by decide) hg hm ha (trs_ne c) (.inr ⟨by decide +kernel, tuple_J⟩)
  split at hb
  · cases hb; rename_i c; obtain ⟨rfl, c⟩ := c
    exact snd_blt g hf hd (by decide) hg hm ha (trs_ne c) (.inr ⟨by decide +kernel, list_J⟩)
  split at hb
  · cases hb; rename_i c; obtain ⟨rfl, c⟩ := c
    exact snd_blt g hf hd (by decide) hg hm ha (trs_ne c) (.inr ⟨by decide +kernel, int_J⟩)
  split at hb
  · cases hb; rename_i c; obtain ⟨rfl, c⟩ := c
    exact snd_blt g hf hd (by decide) hg hm ha (trs_ne c) (.inr ⟨by decide +kernel, bool_J⟩)
  split at hb
  · cases hb; rename_i c; obtain ⟨rfl, c⟩ := c
    exact snd_blt g hf hd (by decide) hg hm ha (trs_ne c) (.inl ⟨by decide +kernel, all_J g.calm⟩)
  split at hb
  · cases hb; rename_i c; obtain ⟨rfl, c⟩ := c
    exact snd_blt g hf hd (by decide) hg hm ha (trs_ne c) (.inl ⟨by decide +kernel, any_J g.calm⟩)
  split at hb
  · cases hb; rename_i c; obtain ⟨rfl, c⟩ := c
    exact snd_blt g hf hd (by decide) hg hm ha (trs_ne c) (.inl ⟨by decide +kernel, max2_J g.calm⟩)
  split at hb
  · cases hb; rename_i c; obtain ⟨rfl, c⟩ := c
    exact snd_blt g hf hd (by decide) hg hm ha (trs_ne c) (.inl ⟨by decide +kernel, min2_J g.calm⟩)
  split at hb
  · cases hb; rename_i c; obtain ⟨rfl, c⟩ := c
    exact snd_blt g hf hd (by decide) hg hm ha (trs_ne c) (.inl ⟨by decide +kernel, abs_J⟩)
  cases hb
theorem snd_trCall (g : Good x k X) (F : Facts X.prog X.w X.K X.mg X.base x.T J k) {f : Expr → Option E} (hf : Snd X J k f) {fn : Expr} {args : List Expr} {kws : List Keyword} {pos : Pos} {Z : E} (h : trCall f x fn args kws pos = some Z) :
    PE X (.Call fn args kws pos) (tE (cJ J k) X.K Z) := by
  unfold trCall at h
  split at h
  · rename_i hk
    have hk' : kws = [] := by cases kws with | nil => rfl | cons _ _ => cases hk
    subst hk'
    split at h
    · rename_i y py
      split at h
      · rename_i hdg
        obtain ⟨hd, hg⟩ := hdg
        split at h
        · rename_i i hl
          obtain ⟨us, ha, rfl⟩ := Option.map_eq_some_iff.mp h
          exact snd_call g F hf hd hg hl ha
        · split at h
          · rename_i hc
            split at h
            · rename_i hy
              subst hy
              split at h
              · rename_i a t
                split at h
                · rename_i c hn
                  obtain ⟨pc, rfl⟩ := nmOf_eq hn
                  split at h
                  · rename_i hb
                    split at h
                    · cases h
                      rename_i ki u hi hu
                      obtain ⟨hgc, hcc⟩ := Bool.and_eq_true_iff.mp hb
                      have hm := F.bs _ hc
                      have hmc := F.bs _ hcc
                      unfold isiOf at hi
                      split at hi
                      · cases hi; subst_vars
                        exact snd_isi g (hf _ _ hu).2 (hf _ _ hu).1 hg hm hgc hmc (by decide) (by decide) (by decide +kernel) isInt_J fun _ _ => rfl
                      split at hi
                      · cases hi; subst_vars
                        exact snd_isi g (hf _ _ hu).2 (hf _ _ hu).1 hg hm hgc hmc (by decide) (by decide) (by decide +kernel) isBool_J fun _ _ => rfl
                      split at hi
                      · cases hi; subst_vars
                        exact snd_isi g (hf _ _ hu).2 (hf _ _ hu).1 hg hm hgc hmc (by decide) (by decide) (by decide +kernel) isStr_J fun _ _ => rfl
                      split at hi
                      · cases hi; subst_vars
                        exact snd_isi g (hf _ _ hu).2 (hf _ _ hu).1 hg hm hgc hmc (by decide) (by decide) (by decide +kernel) isTuple_J fun _ _ => rfl
                      cases hi
                    · cases h
                  · cases h
                · cases h
              · cases h
            · split at h
              · cases h
                exact snd_builtins g F hf hd hg hc (by assumption) (by assumption)
              · cases h
          · cases h
      · cases h
    · split at h
      · rename_i hr
        split at h
        · cases h
          exact snd_meth hf hr.1 hr.2 (by assumption) (by assumption) (by assumption)
        · cases h
      · cases h
    · cases h
  · cases h

/-! ### targets -/
theorem Good.loc (g : Good x k X) {y : Str} (h : locB x y = true) : L2.Loc X.env.scope y ∧ (X.fn y = true ∨ X.env.scope.names.lookup y = some .local) := by
  rw [g.sc, g.fb]
  unfold locB at h
  split at h
  · exact ⟨.inl (by assumption), .inr (by assumption)⟩
  · exact ⟨.inr (by assumption), .inl h⟩
  · cases h
theorem trTgs_nm : ∀ {es : List Expr} {is : List Nat}, trTgs x es = some is → (∀ env : PySem.Env, (assignEach es env).length = is.length ∧ (assignEach es env).findIdx? (·.1) = none)
  | [], is, h => by cases h; exact fun env => ⟨rfl, rfl⟩
  | e :: r, is, h => by
    unfold trTgs at h
    split at h
    · rename_i y hn
      obtain ⟨p, rfl⟩ := nmOf_eq hn
      split at h
      · split at h
        · cases h
          rename_i i is' hi hr
          intro env
          obtain ⟨h1, h2⟩ := trTgs_nm hr env
          refine ⟨congrArg (· + 1) h1, ?_⟩
          show List.findIdx? (·.1) ((false, assign (.Name y p) env) :: assignEach r env) = none
          rw [List.findIdx?_cons]
          simp [h2]
        · cases h
      · cases h
    · cases h
theorem snd_tgs (g : Good x k X) : ∀ {es : List Expr} {is : List Nat}, trTgs x es = some is → PGs X es (gNames is)
  | [], is, h => by cases h; exact pgs_nil
  | e :: r, is, h => by
    unfold trTgs at h
    split at h
    · rename_i y hn
      obtain ⟨p, rfl⟩ := nmOf_eq hn
      split at h
      · rename_i hl
        split at h
        · cases h
          rename_i i is' hi hr
          obtain ⟨l1, l2⟩ := g.loc hl
          exact pgs_cons (pg_name g.nd (by rw [g.N]; exact slotOf_get hi) l1 l2) (snd_tgs g hr)
        · cases h
      · cases h
    · cases h
theorem snd_tg (g : Good x k X) {e : Expr} {t : Tg} (h : trTg x e = some t) : PG X e (gT X.K t) := by
  unfold trTg at h
  split at h
  · rename_i y p
    split at h
    · rename_i hl
      obtain ⟨i, hi, rfl⟩ := Option.map_eq_some_iff.mp h
      obtain ⟨l1, l2⟩ := g.loc hl
      exact pg_name g.nd (by rw [g.N]; exact slotOf_get hi) l1 l2
    · cases h
  · rename_i es j p
    obtain ⟨is, hi, rfl⟩ := Option.map_eq_some_iff.mp h
    obtain ⟨h1, h2⟩ := trTgs_nm hi X.env
    exact pg_tup g.calm (snd_tgs g hi) h1 h2
  · cases h

/-! ### what is walked -/
def iSq (K : Fg) (tl : TE) : TI := fun σ H R => tl σ H fun v H1 => ∃ a, v = .ref a ∧ (((∃ xs, SqL K H1 a xs) ∧ R (Itl K a) H1) ∨ ((∃ xs, SqT K H1 a xs) ∧ R (Itt K a) H1))
theorem pi_sq {tg l : Expr} {tl : TE} (hl : PE X l tl) : PI X tg l (iSq X.K tl) := by
  refine ⟨fun pins s σ H R I h => ?_⟩
  refine thn (hl.run pins s σ H _ I h) fun v s1 ⟨y, H1, I1, r1, q1⟩ => ?_
  obtain ⟨a, e, c⟩ := q1
  subst e
  cases r1
  rcases c with ⟨⟨xs, hq⟩, q⟩ | ⟨⟨xs, hq⟩, q⟩
  · obtain ⟨its, rv, p, hz⟩ := I1.list hq
    refine wpAny_pyIter_list p.isList ?_
    refine ⟨s1.heap.objs.size, [s1.heap.objs.size], _, _, H1, rfl, I1.kept (t' := s1.toks) fun b o e => Heap.get?_push_of_some _ e, turn_list a _, ⟨_, Heap.get?_push_size _ rfl, rfl, rfl⟩, fun b hb => ?_, q⟩
    have e : b = s1.heap.objs.size := by simpa using hb
    subst e
    exact I1.fpOk (Nat.le_refl _) (I1.hok.fresh (Nat.le_refl _))
  · obtain ⟨its, rv, p, hz⟩ := I1.tuple hq
    refine wpAny_pyIter_tuple (show s1.heap.IsTuple a its.toArray from p) ?_
    refine ⟨s1.heap.objs.size, [s1.heap.objs.size], _, _, H1, rfl, I1.kept (t' := s1.toks) fun b o e => Heap.get?_push_of_some _ e, turn_tuple a _, ⟨_, Heap.get?_push_size _ rfl, rfl, rfl⟩, fun b hb => ?_, q⟩
    have e : b = s1.heap.objs.size := by simpa using hb
    subst e
    exact I1.fpOk (Nat.le_refl _) (I1.hok.fresh (Nat.le_refl _))
def tI (C : Ctx) (K : Fg) (i : It) : TI := fun σ H R => ∃ ρ h ι src h', Rs K σ H ρ ι h ∧ evi C i ρ h = some (src, h') ∧ ∀ J H' ι', Step ι H ι' H' → RH K H' ι' h' → SrcJ K H' ι' src J → R J H'
theorem piMono {tg e : Expr} {t t' : TI} (h : PI X tg e t) (m : ∀ σ H R, t' σ H R → t σ H R) : PI X tg e t' := ⟨fun pins s σ H R I q => h.run pins s σ H R I (m _ _ _ q)⟩
theorem snd_sq {tg e : Expr} {A : E} (ha : PE X e (tE (cJ J k) X.K A)) : PI X tg e (tI (cJ J k) X.K (.sq A)) := by
  refine piMono (pi_sq ha) ?_
  rintro σ H R ⟨ρ, h, ι, src, h', r, e, p⟩
  unfold evi at e
  split at e
  · rename_i u h1 e1
    split at e
    · cases e
      rename_i src hs
      refine ⟨ρ, h, ι, u, _, r, e1, fun v H1 ι1 s1 r1 q1 => ?_⟩
      unfold srcOf at hs
      split at hs
      · cases hs
        cases q1 with | d q1 => cases q1 with | t t1 q2 => exact ⟨_, rfl, .inr ⟨⟨_, t1⟩, p _ H1 ι1 s1 r1 (srcT t1 q2)⟩⟩
      · cases hs
        cases q1 with | d q1 => cases q1 with | fl t1 q2 => exact ⟨_, rfl, .inl ⟨⟨_, t1.sq⟩, p _ H1 ι1 s1 r1 (srcF t1 q2)⟩⟩
      · split at hs
        · cases hs
          rename_i ws hws
          cases q1 with | l q1 =>
            obtain ⟨vs, g, q2, _⟩ := r1.of q1 hws
            exact ⟨_, rfl, .inl ⟨⟨vs, SqL.of g⟩, p _ H1 ι1 s1 r1 ⟨_, q1, rfl⟩⟩⟩
        · cases hs
      · cases hs
    · cases e
  · cases e
theorem evi_r1 {C : Ctx} {a : E} {ρ : Env} {h h' : LH} {src : Src} (e : evi C (.r1 a) ρ h = some (src, h')) : ∃ n, ev C a ρ h = some (.d (.i n), h') ∧ (-(2 ^ 62) ≤ n ∧ n < 2 ^ 62) ∧ src = .its (range 0 n) := by
  unfold evi at e
  split at e
  · split at e
    · cases e; exact ⟨_, by assumption, by assumption, rfl⟩
    · cases e
  · cases e
theorem snd_it (g : Good x k X) (F : Facts X.prog X.w X.K X.mg X.base x.T J k) {f : Expr → Option E} (hf : Snd X J k f) {tg e : Expr} {i : It} (h : trIt f x e = some i) : PI X tg e (tI (cJ J k) X.K i) := by
  have sq : ∀ {e : Expr} {i : It}, (f e).map It.sq = some i → PI X tg e (tI (cJ J k) X.K i) := by
    intro e i h
    obtain ⟨A, ha, rfl⟩ := Option.map_eq_some_iff.mp h
    exact snd_sq (hf _ _ ha).2
  unfold trIt at h
  split at h
  · rename_i fn args kws pos
    split at h
    · rename_i y hn
      split at h
      · rename_i hc
        obtain ⟨hy, hk, hb⟩ := hc
        subst hy
        obtain ⟨p, rfl⟩ := nmOf_eq hn
        have hk' : kws = [] := by cases kws with | nil => rfl | cons _ _ => cases hk
        subst hk'
        obtain ⟨hg, hc⟩ := Bool.and_eq_true_iff.mp hb
        have hm := F.bs _ hc
        split at h
        · rename_i a
          obtain ⟨A, ha, rfl⟩ := Option.map_eq_some_iff.mp h
          obtain ⟨ok, pa⟩ := hf _ _ ha
          refine piMono (pi_range1 (g.gl hg) hm (pa_cons pa pa_nil (ok_star ok [] X.env)) (ok_star ok [] X.env)) ?_
          rintro σ H R ⟨ρ, h, ι, src, h', r, e, p⟩
          obtain ⟨n, e1, hn, rfl⟩ := evi_r1 e
          refine ⟨ρ, h, ι, _, _, r, e1, fun v H1 ι1 s1 r1 q1 => ?_⟩
          cases q1 with | d q1 => cases q1; exact ⟨n, rfl, hn.1, hn.2, by have := p _ H1 ι1 s1 r1 (srcR 0 n); rw [Int.sub_zero] at this; exact this⟩
        · rename_i a b
          split at h
          · cases h
            rename_i A B ha hb'
            obtain ⟨oka, pa⟩ := hf _ _ ha
            obtain ⟨okb, pb⟩ := hf _ _ hb'
            refine piMono (pi_range2 (g.gl hg) hm (pa_cons pa (pa_cons pb pa_nil (ok_star okb [] X.env)) (ok_star oka [b] X.env)) (by rw [ok_star oka, ok_star okb]; rfl) (ok_star okb [] X.env)) ?_
            rintro σ H R ⟨ρ, h, ι, src, h', r, e, p⟩
            unfold evi at e
            split at e
            · rename_i a0 h1 e1
              split at e
              · rename_i n h2 e2
                split at e
                · cases e
                  rename_i hn
                  refine ⟨ρ, h, ι, _, _, r, e1, fun v H1 ι1 s1 r1 q1 => ⟨ρ, h1, ι1, _, _, r.mono s1 r1, e2, fun v' H2 ι2 s2 r2 q2 => ?_⟩⟩
                  cases q1 with | d q1 => cases q1; cases q2 with | d q2 => cases q2; exact ⟨a0, n, rfl, hn, p _ H2 ι2 (s1.trans s2) r2 (srcR a0 n)⟩
                · cases e
              · cases e
            · cases e
          · cases h
        · cases h
      · exact sq h
    · exact sq h
  · exact sq h
theorem snd_ifs {f : Expr → Option E} (hf : SndT X J k f) {ifs : List Expr} {c : Option E} (h : trIfs f ifs = some c) : PTs X ifs (tC' (cJ J k) X.K c) := by
  unfold trIfs at h
  split at h
  · cases h; exact pts_nil
  · obtain ⟨A, ha, rfl⟩ := Option.map_eq_some_iff.mp h
    exact pts_one (hf _ _ ha)
  · cases h
end
end J
set_option maxRecDepth 100000
namespace J
open PySem L2 PyProof.Rows
theorem ok_assign {o i : Expr} {pos : Pos} {env : PySem.Env} (h : okE i = true) (v : Value) : assign (.Subscript o i pos) env v = (do
      let ov ← holding [v] (eval o env)
      let iv ← holding [v, ov] (eval i env)
      standAt pos
      holding [v, ov, iv] (setItem ov iv v)
      release [v, ov, iv] []) := by
  cases i <;> first | rfl | cases h
section
variable {J : Prog} {k : Nat}
theorem ownOf_go {N : List Str} : ∀ {es : List Expr} {own : List (Str × Nat)}, ownOf.go N es = some own → True := fun _ => trivial
theorem ownOf_ix {N : List Str} {e : Expr} {own : List (Str × Nat)} (h : True) : True := trivial
theorem snd_comp {X : Cx} {x : Sx} (g : Good x k X) (F : Facts X.prog X.w X.K X.mg X.base x.T J k) {f : Sx → Expr → Option E}
    (hf : ∀ (x : Sx) (X : Cx), Good x k X → Facts X.prog X.w X.K X.mg X.base x.T J k → Snd X J k (f x) ∧ SndT X J k (f x)) {elt : Expr} {gs : List Comprehension} {scope : Scope} {Z : E} (h : trComp f x elt gs scope = some Z) :
    ∃ (tg iter : Expr) (ifs : List Expr) (own : List (Str × Nat)) (t : Tg) (i : It) (c : Option E) (e : E), gs = [⟨tg, iter, ifs, 0⟩] ∧ okE iter = true ∧ Z = .comp e t i c ∧ BlkOk X.N X.env.scope scope own ∧ own.map (·.2) = t.slots ∧ PI X tg iter (tI (cJ J k) X.K i) ∧
      (∀ (s : Shared) (H : Hp) (C : Addr) (cl : List (Str × Addr)) (fp : List Addr), PG (X.blk s H scope (compEnvC scope cl C X.env) fp) tg (gT X.K t)) ∧
      (∀ (s : Shared) (H : Hp) (C : Addr) (cl : List (Str × Addr)) (fp : List Addr), PTs (X.blk s H scope (compEnvC scope cl C X.env) fp) ifs (tC' (cJ J k) X.K c)) ∧
      (∀ (s : Shared) (H : Hp) (C : Addr) (cl : List (Str × Addr)) (fp : List Addr), PE (X.blk s H scope (compEnvC scope cl C X.env) fp) elt (tE (cJ J k) X.K e)) := by
  unfold trComp at h
  split at h
  · rename_i tg iter ifs a
    split at h
    · rename_i ha
      obtain ⟨rfl, hok⟩ := ha
      split at h
      · rename_i own t i c e h1 h2 h3 h4 h5
        split at h
        · cases h
          rename_i hb
          refine ⟨tg, iter, ifs, own, t, i, c, e, rfl, hok, rfl, by rw [g.N, g.sc]; exact blkOk_by hb.1, hb.2, snd_it g F (hf x X g F).1 h3, fun s H C cl fp => ?_, fun s H C cl fp => ?_, fun s H C cl fp => ?_⟩
          · exact snd_tg (g.blk scope s H C cl fp) h2
          · exact snd_ifs (hf _ _ (g.blk scope s H C cl fp) F).2 h4
          · exact ((hf _ _ (g.blk scope s H C cl fp) F).1 _ _ h5).2
        · cases h
      · cases h
    · cases h
  · cases h
theorem comp_m {X : Cx} {t : Tg} {i : It} {c : Option E} {e : E} : ∀ σ H Q, tE (cJ J k) X.K (.comp e t i c) σ H Q → tLc (tI (cJ J k) X.K i) (gT X.K t) (tC' (cJ J k) X.K c) (tE (cJ J k) X.K e) t.slots σ H Q := by
  rintro σ H Q ⟨ρ, h, ι, w, h', r, e, p⟩
  unfold ev at e
  split at e
  · rename_i src h1 e1
    split at e
    · cases e
      rename_i acc h2 e2
      exact ⟨ρ, h, ι, src, h1, r, e1, fun J H1 ι1 s1 r1 sj => comp_red (r.mono s1 r1) sj e2 (p.step s1)⟩
    · cases e
  · cases e
theorem snd_all : ∀ (n : Nat) (x : Sx) (X : Cx), Good x k X → Facts X.prog X.w X.K X.mg X.base x.T J k → Snd X J k (tr n x) ∧ SndT X J k (tr n x)
  | 0, _, _, _, _ => ⟨(fun _ _ h => by cases h), (fun _ _ h => by cases h)⟩
  | n + 1, x, X, g, F => by
    have ih : ∀ (x : Sx) (X : Cx), Good x k X → Facts X.prog X.w X.K X.mg X.base x.T J k → Snd X J k (tr n x) ∧ SndT X J k (tr n x) := fun x X g F => snd_all n x X g F
    have hf := (ih x X g F).1
    have hT := (ih x X g F).2
    have main : ∀ (e : Expr) (Z : E), tr (n + 1) x e = some Z → PE X e (tE (cJ J k) X.K Z) ∧ PT X e (tB' (cJ J k) X.K Z) := by
      intro e Z h
      cases e with
      | Name y pos => have := snd_name (pos := pos) g F (show trName x y = some Z from h); exact ⟨this, sndT_val this fun _ => rfl⟩
      | Constant c j pos => have := snd_const (X := X) (J := J) (k := k) (j := j) (pos := pos) (show trC c = some Z from h); exact ⟨this, sndT_val this fun _ => rfl⟩
      | Tuple es j pos => have := snd_tuple (j := j) (pos := pos) hf h; exact ⟨this, sndT_val this fun _ => rfl⟩
      | List es pos => have := snd_list (pos := pos) hf h; exact ⟨this, sndT_val this fun _ => rfl⟩
      | BinOp a op b pos => have := snd_bin (pos := pos) hf h; exact ⟨this, sndT_val this fun _ => rfl⟩
      | UnaryOp op a pos =>
        cases op with
        | Not =>
          obtain ⟨A, ha, rfl⟩ := Option.map_eq_some_iff.mp (show (tr n x a).map E.not = some Z from h)
          exact ⟨snd_not (hf _ _ ha).2, sndT_not (hT _ _ ha)⟩
        | USub =>
          obtain ⟨A, ha, rfl⟩ := Option.map_eq_some_iff.mp (show (tr n x a).map E.neg = some Z from h)
          have := snd_neg (pos := pos) (hf _ _ ha).2
          exact ⟨this, sndT_val this fun _ => rfl⟩
        | Invert => cases h
        | UAdd => cases h
      | Compare a ops cs pos => exact snd_cmp g hf h
      | BoolOp op vs pos =>
        cases op with
        | And => exact ⟨snd_and hf h, (sndT_and hT h).pt⟩
        | Or => exact ⟨snd_or hf h, (sndT_or hT h).pt⟩
      | IfExp c a b pos =>
        replace h : (match tr n x c, tr n x a, tr n x b with
          | some k, some u, some w => some (E.ite k u w)
          | _, _, _ => none) = some Z := h
        split at h
        · cases h
          rename_i hc ha hb
          exact ⟨snd_ite (hT _ _ hc) (hf _ _ ha).2 (hf _ _ hb).2, sndT_ite (hT _ _ hc) (hT _ _ ha) (hT _ _ hb)⟩
        · cases h
      | Subscript v s pos => have := snd_sub (pos := pos) g F hf (show trSub (tr n x) x v s = some Z from h); exact ⟨this, sndT_val this fun _ => rfl⟩
      | Call fn args kws pos => have := snd_trCall (pos := pos) g F hf (show trCall (tr n x) x fn args kws pos = some Z from h); exact ⟨this, sndT_val this fun _ => rfl⟩
      | ListComp elt gs scope pos =>
        obtain ⟨tg, iter, ifs, own, t, i, c, e, rfl, hok, rfl, hb, ho, hi, h1, h2, h3⟩ := snd_comp g F ih (show trComp (tr n) x elt gs scope = some Z from h)
        have := pe_lc (pos := pos) g.calm g.nd hi hb h1 h2 h3 (ok_fold hok X.env)
        rw [ho] at this
        have := this.monoJ comp_m
        exact ⟨this, sndT_val this fun _ => rfl⟩
      | _ => cases h
    exact ⟨fun e Z h => ⟨tr_ok h, (main e Z h).1⟩, fun e Z h => (main e Z h).2⟩
end

/-! ### statements -/
def isTupE : Expr → Bool
  | .Tuple .. => true
  | _ => false
def nmPos : Expr → Option (Str × Pos)
  | .Name y p => some (y, p)
  | _ => none
def trSs (f : Stmt → Option S) : List Stmt → Option (List S)
  | [] => some []
  | s :: r => match f s, trSs f r with
    | some a, some b => some (a :: b)
    | _, _ => none
/-- is the comprehension's value stored within it -/
def swapB (x : Sx) (y : Str) (py : Pos) : Expr → Bool
  | .ListComp _ _ scope pos => (match x.sc.names.lookup y with
      | some .local => true
      | _ => false) && (py.line == pos.line) && !(scope.names.any fun (n, k) => n == y && (k == .local || k == .cell))
  | _ => false
def lc1 : Expr → Bool
  | .ListComp .. => true
  | e => !isLc e
def trAsg (n : Nat) (x : Sx) (tg e : Expr) (pos : Pos) : Option S := match tg with
  | .Name y py => if locB x y = true ∧ lc1 e = true then (match slotOf x.N y, tr n x e with
      | some i, some z => some (.asg (.n i) z)
      | _, _ => none) else none
  | .Tuple es j p => if isTupE e = false ∧ isLc e = false then (match trTgs x es, tr n x e with
      | some is, some z => some (.asg (.t is) z)
      | _, _ => none) else none
  | .Subscript o i p => if isLc e = false then (match tr n x o, tr n x i, tr n x e with
      | some a, some b, some z => some (.setix a b z)
      | _, _, _ => none) else none
  | _ => none
def trS : Nat → Sx → Stmt → Option S
  | 0, _, _ => none
  | n + 1, x, s => match s with
    | .Assign [tg] e pos => trAsg n x tg e pos
    | .AugAssign tg op e _ => (match tg with
      | .Name y _ => if locB x y = true then (match op, slotOf x.N y, tr n x e with
        | .Add, some i, some z => some (.aug .add i z)
        | .Sub, some i, some z => some (.aug .sub i z)
        | _, _, _ => none) else none
      | _ => none)
    | .If c a b _ => (match tr n x c, trSs (trS n x) a, trSs (trS n x) b with
      | some c, some a, some b => some (.ife c a b)
      | _, _, _ => none)
    | .For tg iter body orelse _ => if orelse.isEmpty = true ∧ okE iter = true then (match trTg x tg, trIt (tr n x) x iter, trSs (trS n x) body with
      | some t, some i, some b => some (.for t i b)
      | _, _, _ => none) else none
    | .While c body orelse _ => if orelse.isEmpty = true then (match tr n x c, trSs (trS n x) body with
      | some c, some b => some (.whl c b)
      | _, _ => none) else none
    | .Return v _ => (match v with
      | some e => (tr n x e).map .ret
      | none => some .retN)
    | .Expr e _ => if isLc e = false then (tr n x e).map .ex else none
    | .Pass _ => some .pass
    | .Break _ => some .brk
    | .Continue _ => some .cnt
    | .Raise _ _ _ => some .never
    | _ => none
section
variable {X : Cx} {x : Sx} {J : Prog} {k : Nat}
theorem _root_.L2.PS.monoJ {X : Cx} {e : Stmt} {t t' : TS} (h : PS X e t) (m : ∀ D σ H, t' D σ H → t D σ H) : PS X e t' := ⟨fun pins s σ H D I q => h.run pins s σ H D I (m _ _ _ q)⟩
theorem _root_.L2.PSs.monoJ {X : Cx} {e : List Stmt} {t t' : TS} (h : PSs X e t) (m : ∀ D σ H, t' D σ H → t D σ H) : PSs X e t' := ⟨fun pins s σ H D I q => h.run pins s σ H D I (m _ _ _ q)⟩
theorem sse_cons {C : Ctx} {s : S} {r : List S} {ρ : Env} {h : LH} {res : Fl × Env × LH} (e : execs C (s :: r) ρ h = some res) : ∃ f ρ1 h1, exec C s ρ h = some (f, ρ1, h1) ∧ match f with
    | .nxt => execs C r ρ1 h1 = some res
    | f => res = (f, ρ1, h1) := by
  unfold execs at e
  split at e
  · exact ⟨_, _, _, by assumption, e⟩
  · cases e; exact ⟨_, _, _, by assumption, rfl⟩
  · cases e; exact ⟨_, _, _, by assumption, rfl⟩
  · cases e; exact ⟨_, _, _, by assumption, rfl⟩
  · cases e
theorem snd_ss {f : Stmt → Option S} (hf : ∀ (s : Stmt) (Z : S), f s = some Z → PS X s (tSt (cJ J k) X.K Z)) : ∀ {ss : List Stmt} {Zs : List S}, trSs f ss = some Zs → PSs X ss (tSs (cJ J k) X.K Zs)
  | [], Zs, h => by
    cases h
    refine pss_nil.monoJ ?_
    rintro D σ H ⟨ρ, h, ι, fl, ρ', h', r, e, p⟩
    unfold execs at e
    cases e
    exact p σ H ι (.refl _ _) r
  | s :: ss, Zs, h => by
    unfold trSs at h
    split at h
    · cases h
      rename_i h1 h2
      refine (pss_cons (hf _ _ h1) (snd_ss hf h2)).monoJ ?_
      rintro D σ H ⟨ρ, h, ι, fl, ρ', h', r, e, p⟩
      obtain ⟨f1, ρ1, h1, e1, e2⟩ := sse_cons e
      refine ⟨ρ, h, ι, f1, ρ1, h1, r, e1, ?_⟩
      cases f1 with
      | nxt => exact fun σ' H' ι' s1 r1 => ⟨ρ1, h1, ι', fl, ρ', h', r1, e2, p.step s1⟩
      | brk => cases e2; exact p
      | cnt => cases e2; exact p
      | ret w => cases e2; exact p
    · cases h
theorem swap_eq (g : Good x k X) (hk : X.env.scope.kind = .function) {y : Str} {py : Pos} {e : Expr} {l : Nat} (he : lc1 e = true) : swapsWith e (some (.Name y py)) l X.env = pure (swapB x y py e) := by
  cases e with
  | ListComp elt gs scope pos =>
    have hb : X.env.blockKind = .function := by unfold PySem.Env.blockKind; rw [hk]; rfl
    have hkd : X.env.kindOf y = x.sc.names.lookup y := by unfold PySem.Env.kindOf; rw [g.sc]
    unfold swapsWith swapB
    simp only [hb, hkd, Expr.pos]
    cases x.sc.names.lookup y with
    | none => rfl
    | some kd => cases kd <;> rfl
  | SetComp _ _ _ _ => cases he
  | DictComp _ _ _ _ _ => cases he
  | _ => rfl
theorem snd_asg (g : Good x k X) (F : Facts X.prog X.w X.K X.mg X.base x.T J k) (hk : X.env.scope.kind = .function) {n : Nat} {tg e : Expr} {pos : Pos} {Z : S} (h : trAsg n x tg e pos = some Z) : PS X (.Assign [tg] e pos) (tSt (cJ J k) X.K Z) := by
  have hf := (snd_all (J := J) n x X g F).1
  have mset : ∀ {i : Nat} {z : E} {te : TE}, (∀ σ H Q, tE (cJ J k) X.K z σ H Q → te σ H Q) → ∀ D σ H, tSt (cJ J k) X.K (.asg (.n i) z) D σ H → tAsg te (gName i) D σ H := by
    rintro i z te m D σ H ⟨ρ, h, ι, fl, ρ', h', r, e, p⟩
    unfold exec at e
    split at e
    · rename_i w h1 e1
      cases e
      refine m σ H _ ⟨ρ, h, ι, w, h', r, e1, fun v H1 ι1 s1 r1 q1 => ?_⟩
      exact p _ H1 ι1 s1 ((r.mono s1 r1).set q1)
    · cases e
  unfold trAsg at h
  split at h
  · rename_i y py
    split at h
    · rename_i hl
      split at h
      · cases h
        rename_i i z hi hz
        obtain ⟨l1, l2⟩ := g.loc hl.1
        have hN : X.N[i]? = some y := by rw [g.N]; exact slotOf_get hi
        have hs := swap_eq (py := py) (l := pos.line) g hk hl.2 (y := y)
        cases hsw : swapB x y py e with
        | false =>
          rw [hsw] at hs
          exact (ps_set g.nd hN l1 (hf _ _ hz).2 hs l2).monoJ (mset fun _ _ _ q => q)
        | true =>
          rw [hsw] at hs
          cases e with
          | ListComp elt gs scope lpos =>
            cases n with
            | zero => cases hz
            | succ n =>
              obtain ⟨tg, iter, ifs, own, t, it, c, e, rfl, hok, rfl, hb, ho, hi', h1, h2, h3⟩ := snd_comp (J := J) g F (snd_all n) (show trComp (tr n) x elt gs scope = some z from hz)
              have hyl : X.env.scope.names.lookup y = some .local := by
                rw [g.sc]
                unfold swapB at hsw
                cases q : x.sc.names.lookup y with
                | none => rw [q] at hsw; cases hsw
                | some kd => cases kd <;> first | rfl | (rw [q] at hsw; cases hsw)
              have := ps_setLc g.calm g.nd hN hyl hs hi' hb h1 h2 h3 (ok_fold hok X.env)
              rw [ho] at this
              exact this.monoJ (mset comp_m)
          | _ => cases hsw
      · cases h
    · cases h
  · rename_i es j p
    split at h
    · rename_i hl
      split at h
      · cases h
        rename_i is z hi hz
        obtain ⟨a1, a2⟩ := trTgs_nm hi X.env
        have pg := pg_tup (X := X) (k := j) (pos := p) g.calm (snd_tgs g hi) a1 a2
        have sw : swapsWithSole [.Tuple es j p] e pos.line X.env = pure false := noLc_swaps hl.2 (some (.Tuple es j p)) pos.line X.env
        have st : swappedStores [.Tuple es j p] e X.env = pure none := by
          have := hl.1
          cases e <;> first | rfl | cases this
        refine (ps_asg (hf _ _ hz).2 pg sw st rfl).monoJ ?_
        rintro D σ H ⟨ρ, h, ι, fl, ρ', h', r, e, p⟩
        unfold exec at e
        split at e
        · rename_i w h1 e1
          split at e
          · cases e
            rename_i ρ1 hs
            refine ⟨ρ, h, ι, w, _, r, e1, fun v H1 ι1 s1 r1 q1 => ?_⟩
            exact gT_red (tg := .t is) q1 (r.mono s1 r1) hs fun σ' r' _ => p σ' H1 ι1 s1 r'
          · cases e
        · cases e
      · cases h
    · cases h
  · rename_i o i p
    split at h
    · rename_i hl
      split at h
      · cases h
        rename_i a b z ha hb hz
        have sw : swapsWithSole [.Subscript o i p] e pos.line X.env = pure false := noLc_swaps hl (some (.Subscript o i p)) pos.line X.env
        refine (ps_asg (hf _ _ hz).2 (pg_sub (hf _ _ ha).2 (hf _ _ hb).2 set_J (ok_assign (hf _ _ hb).1)) sw (by cases e <;> rfl) rfl).monoJ ?_
        rintro D σ H ⟨ρ, h, ι, fl, ρ', h', r, e, p⟩
        unfold exec at e
        split at e
        · rename_i w h1 e1
          split at e
          · rename_i u h2 e2
            split at e
            · rename_i kk h3 e3
              split at e
              · cases e
                rename_i h4 e4
                refine ⟨ρ, h, ι, w, h1, r, e1, fun v H1 ι1 s1 r1 q1 => ⟨ρ, h1, ι1, u, h2, r.mono s1 r1, e2, fun v2 H2 ι2 s2 r2 q2 => ⟨ρ, h2, ι2, kk, h3, r.mono (s1.trans s2) r2, e3, fun v3 H3 ι3 s3 r3 q3 => ?_⟩⟩⟩
                refine ⟨ι3, h3, u, kk, w, h', r3, q2.mono s3, q3, (q1.mono s2).mono s3, e4, fun H4 ι4 s4 r4 => ?_⟩
                exact p σ H4 ι4 (((s1.trans s2).trans s3).trans s4) (r.mono (((s1.trans s2).trans s3).trans s4) r4)
              · cases e
            · cases e
          · cases e
        · cases e
      · cases h
    · cases h
  · cases h
theorem snd_aug (g : Good x k X) {y : Str} {py pos : Pos} {e : Expr} {z : E} {i : Nat} {op : Operator} {bo : BOp} (ho : OpR X (inplaceOp op) (rJ2 X.K fun h u w => augop h bo u w)) (hl : locB x y = true) (hi : slotOf x.N y = some i) (he : PE X e (tE (cJ J k) X.K z)) :
    PS X (.AugAssign (.Name y py) op e pos) (tSt (cJ J k) X.K (.aug bo i z)) := by
  obtain ⟨l1, l2⟩ := g.loc hl
  refine (ps_aug g.nd (by rw [g.N]; exact slotOf_get hi) l1 he (fun pins s σ H x y v u Q I rx ry q => ho pins s σ H x y v u Q I rx ry q) l2).monoJ ?_
  rintro D σ H ⟨ρ, h, ι, fl, ρ', h', r, e, p⟩
  unfold exec at e
  split at e
  · rename_i u hu
    split at e
    · rename_i w h1 e1
      split at e
      · rename_i v h2 e2
        cases e
        obtain ⟨xv, hx, rx⟩ := r.rl.env i u hu
        refine ⟨xv, hx, ρ, h, ι, w, h1, r, e1, fun yv H1 ι1 s1 r1 q1 => ?_⟩
        exact ⟨ι1, h1, u, w, v, h', r1, rx.mono s1, q1, e2, fun zv H2 ι2 s2 r2 q2 => p _ H2 ι2 (s1.trans s2) ((r.mono (s1.trans s2) r2).set q2)⟩
      · cases e
    · cases e
  · cases e
theorem snd_stmt (g : Good x k X) (F : Facts X.prog X.w X.K X.mg X.base x.T J k) (hk : X.env.scope.kind = .function) : ∀ (n : Nat) (s : Stmt) (Z : S), trS n x s = some Z → PS X s (tSt (cJ J k) X.K Z)
  | 0, _, _, h => by cases h
  | n + 1, s, Z, h => by
    have hf := (snd_all (J := J) n x X g F).1
    have hT := (snd_all (J := J) n x X g F).2
    have ih := snd_stmt g F hk n
    have hp : PassesOwn (model X.prog X.w) X.A X.env X.xe := by rw [g.xe]; exact PassesOwn.never
    cases s with
    | Assign tgs e pos =>
      cases tgs with
      | nil => cases h
      | cons tg r =>
        cases r with
        | nil => exact snd_asg g F hk h
        | cons _ _ => cases h
    | AugAssign tg op e pos =>
      cases tg with
      | Name y py =>
        replace h : (if locB x y = true then (match op, slotOf x.N y, tr n x e with
          | .Add, some i, some z => some (S.aug .add i z)
          | .Sub, some i, some z => some (S.aug .sub i z)
          | _, _, _ => none) else none) = some Z := h
        split at h
        · rename_i hl
          split at h
          · cases h; exact snd_aug g iop_addJ hl (by assumption) (hf _ _ (by assumption)).2
          · cases h; exact snd_aug g iop_subJ hl (by assumption) (hf _ _ (by assumption)).2
          · cases h
        · cases h
      | _ => cases h
    | If c a b pos =>
      replace h : (match tr n x c, trSs (trS n x) a, trSs (trS n x) b with
        | some c, some a, some b => some (S.ife c a b)
        | _, _, _ => none) = some Z := h
      split at h
      · cases h
        rename_i c' a' b' hc ha hb
        refine (ps_if (hT _ _ hc) (snd_ss ih ha) (snd_ss ih hb)).monoJ ?_
        rintro D σ H ⟨ρ, h, ι, fl, ρ', h', r, e, p⟩
        unfold exec at e
        split at e
        · rename_i h1 e1
          refine ⟨ρ, h, ι, true, h1, r, e1, fun H1 ι1 s1 r1 => iteT ⟨ρ, h1, ι1, fl, ρ', h', r.mono s1 r1, e, p.step s1⟩⟩
        · rename_i h1 e1
          refine ⟨ρ, h, ι, false, h1, r, e1, fun H1 ι1 s1 r1 => iteF ⟨ρ, h1, ι1, fl, ρ', h', r.mono s1 r1, e, p.step s1⟩⟩
        · cases e
      · cases h
    | For tg iter body orelse pos =>
      replace h : (if orelse.isEmpty = true ∧ okE iter = true then (match trTg x tg, trIt (tr n x) x iter, trSs (trS n x) body with
        | some t, some i, some b => some (S.for t i b)
        | _, _, _ => none) else none) = some Z := h
      split at h
      · rename_i hoe
        split at h
        · cases h
          rename_i t i b ht hi hb
          have ho : orelse = [] := by
            have := hoe.1
            cases orelse with
            | nil => rfl
            | cons _ _ => cases this
          subst ho
          refine (ps_for hp g.calm (snd_it g F hf hi) (snd_tg g ht) (snd_ss ih hb) (ok_fold hoe.2 X.env)).monoJ ?_
          rintro D σ H ⟨ρ, h, ι, fl, ρ', h', r, e, p⟩
          unfold exec at e
          split at e
          · rename_i src h1 e1
            exact ⟨ρ, h, ι, src, h1, r, e1, fun J H1 ι1 s1 r1 sj => for_red (r.mono s1 r1) sj e (p.step s1)⟩
          · cases e
        · cases h
      · cases h
    | While c body orelse pos =>
      replace h : (if orelse.isEmpty = true then (match tr n x c, trSs (trS n x) body with
        | some c, some b => some (S.whl c b)
        | _, _ => none) else none) = some Z := h
      split at h
      · rename_i hoe
        split at h
        · cases h
          rename_i c' b hc hb
          have ho : orelse = [] := by
            cases orelse with
            | nil => rfl
            | cons _ _ => cases hoe
          subst ho
          refine (ps_while hp (hT _ _ hc) (snd_ss ih hb)).monoJ ?_
          rintro D σ H ⟨ρ, h, ι, fl, ρ', h', r, e, p⟩
          unfold exec at e
          exact while_red r e p
        · cases h
      · cases h
    | Return v pos =>
      cases v with
      | none =>
        cases h
        refine ps_retN.monoJ ?_
        rintro D σ H ⟨ρ, h, ι, fl, ρ', h', r, e, p⟩
        unfold exec at e
        cases e
        exact Post.dat p r.rh .non
      | some e =>
        obtain ⟨z, hz, rfl⟩ := Option.map_eq_some_iff.mp (show (tr n x e).map S.ret = some Z from h)
        refine (ps_ret (hf _ _ hz).2).monoJ ?_
        rintro D σ H ⟨ρ, h, ι, fl, ρ', h', r, e, p⟩
        unfold exec at e
        split at e
        · cases e
          exact ⟨ρ, h, ι, _, _, r, by assumption, p⟩
        · cases e
    | Expr e pos =>
      replace h : (if isLc e = false then (tr n x e).map S.ex else none) = some Z := h
      split at h
      · rename_i hl
        obtain ⟨z, hz, rfl⟩ := Option.map_eq_some_iff.mp h
        refine (ps_expr (hf _ _ hz).2 (noLc_swaps hl _ _ _)).monoJ ?_
        rintro D σ H ⟨ρ, h, ι, fl, ρ', h', r, e, p⟩
        unfold exec at e
        split at e
        · cases e
          exact ⟨ρ, h, ι, _, _, r, by assumption, fun v H1 ι1 s1 r1 _ => p σ H1 ι1 s1 (r.mono s1 r1)⟩
        · cases e
      · cases h
    | Pass pos =>
      cases h
      refine ps_pass.monoJ ?_
      rintro D σ H ⟨ρ, h, ι, fl, ρ', h', r, e, p⟩
      unfold exec at e
      cases e
      exact p σ H ι (.refl _ _) r
    | Break pos =>
      cases h
      refine ps_break.monoJ ?_
      rintro D σ H ⟨ρ, h, ι, fl, ρ', h', r, e, p⟩
      unfold exec at e
      cases e
      exact p σ H ι (.refl _ _) r
    | Continue pos =>
      cases h
      refine ps_continue.monoJ ?_
      rintro D σ H ⟨ρ, h, ι, fl, ρ', h', r, e, p⟩
      unfold exec at e
      cases e
      exact p σ H ι (.refl _ _) r
    | Raise _ _ _ =>
      cases h
      refine ps_never.monoJ ?_
      rintro D σ H ⟨ρ, h, ι, fl, ρ', h', r, e, p⟩
      unfold exec at e
      cases e
    | _ => cases h
end
end J
set_option maxRecDepth 100000
/-! Defs: what is read as J keeps J's promise, to any depth that there is room for. -/
namespace J
open PySem L2 PyProof.Rows
theorem zip_look : ∀ {ns : List Str} {us : List Value} {n : Str}, ns.length = us.length → n ∈ ns → ∃ u, (ns.zip us).lookup n = some u
  | [], _, _, _, h => by cases h
  | a :: ns, [], _, e, _ => by cases e
  | a :: ns, u :: us, n, e, h => by
    rw [List.zip_cons_cons, List.lookup_cons]
    by_cases q : n == a
    · rw [q]; exact ⟨u, rfl⟩
    · have q' : (n == a) = false := by simpa using q
      rw [q']
      refine zip_look (by simpa using e) ?_
      rcases List.mem_cons.mp h with rfl | h
      · simp at q
      · exact h
theorem fm_congr {α β : Type} {f g : α → Option β} : ∀ {l : List α}, (∀ x ∈ l, f x = g x) → l.filterMap f = l.filterMap g
  | [], _ => rfl
  | a :: r, h => by
    rw [List.filterMap_cons, List.filterMap_cons, h a List.mem_cons_self, fm_congr fun x hx => h x (List.mem_cons_of_mem _ hx)]
theorem zip_fm : ∀ {ns : List Str} {us : List Value}, ns.Nodup → ns.length = us.length → ns.filterMap (fun n => ((ns.zip us).lookup n).map fun u => (n, u)) = ns.zip us
  | [], _, _, _ => rfl
  | a :: ns, [], _, e => by cases e
  | a :: ns, u :: us, nd, e => by
    rw [List.nodup_cons] at nd
    rw [List.zip_cons_cons, List.filterMap_cons, List.lookup_cons, beq_self_eq_true]
    have : ns.filterMap (fun n => (((a, u) :: ns.zip us).lookup n).map fun u => (n, u)) = ns.filterMap (fun n => ((ns.zip us).lookup n).map fun u => (n, u)) := by
      refine fm_congr fun n hn => ?_
      rw [List.lookup_cons]
      have : (n == a) = false := beq_eq_false_iff_ne.mpr fun z => nd.1 (by rw [← z]; exact hn)
      rw [this]
    show (a, u) :: ns.filterMap (fun n => (((a, u) :: ns.zip us).lookup n).map fun u => (n, u)) = _
    rw [this, zip_fm nd.2 (by simpa using e)]
theorem bind_plain {x q : Str} {body : List Stmt} {scope : Scope} {kV doc pm cdv ct : Value} {an : Option Addr} (as : List Arg) (us : List Value) (nd : (as.map (·.arg)).Nodup) (hl : us.length = (as.map (·.arg)).length) :
    bindArgs (PySem.W.fnOf x q ⟨[], as, none, [], [], none, []⟩ body scope .none kV doc pm an cdv ct) ⟨us, []⟩ = pure ((as.map (·.arg)).zip us) := by
  unfold bindArgs
  have h0 : seqItems? Value.none = pure none := rfl
  have hm : (as.map (·.arg)).filter (fun n => (((as.map (·.arg)).zip us).lookup n).isNone) = [] := by
    rw [List.filter_eq_nil_iff]
    intro n hn
    obtain ⟨u, e⟩ := zip_look hl.symm hn
    rw [e]; simp
  simp only [PySem.W.fnOf, h0, pure_bind, List.map_nil, List.nil_append]
  have hz := zip_fm nd hl.symm
  generalize as.map (·.arg) = ns at *
  have ht : ∀ l : List Value, l = [] → ns.take (ns.length - l.length) = ns := by rintro l rfl; simp
  simp only [List.forIn_nil, pure_bind, hl, gt_iff_lt, Nat.lt_irrefl, decide_false, Bool.false_and, Bool.false_eq_true, if_false, List.append_nil, Option.getD_none, List.drop_nil, List.length_nil, Nat.sub_zero, List.take_length, hm, List.isEmpty_nil, Bool.not_true, List.zip_nil_right, List.zip_nil_left, hz, Array.toList_empty, ht [] rfl]

theorem Step.take {ι ι' : List Addr} {H H' : Hp} (s : Step ι H ι' H') : Step ι H ι H' := ⟨⟨[], by simp⟩, fun _ h => .inl h, s.keep, s.stab⟩
theorem Step.pre_take {ι ι' : List Addr} {H H' : Hp} (s : Step ι H ι' H') : ι'.take ι.length = ι := by
  obtain ⟨t, e⟩ := s.pre
  rw [e, List.take_left]
theorem allD_eq : ∀ {ws : List W} {ds : List D}, allD ws = some ds → ws = ds.map .d
  | [], ds, hd => by simp [allD] at hd; subst hd; rfl
  | .l _ :: xs, ds, hd => by simp [allD] at hd
  | .d x :: xs, ds, hd => by
    unfold allD at hd
    split at hd
    · cases hd
      rename_i hx
      rw [allD_eq hx]; rfl
    · cases hd
theorem fin_post {K : Fg} {ι : List Addr} {H : Hp} {w w' : W} {h1 h' : LH} {Q : VK} (e : fin ι.length w h1 = some (w', h')) (p : Post K ι H w' h' Q) : Post K ι H w h1 Q := by
  intro v H' ι' s r q
  have rt := r.take ι.length
  rw [s.pre_take] at rt
  unfold fin at e
  split at e
  · cases e
    cases q with | d q => exact p v H' ι s.take rt (.d q)
  · rename_i a h
    cases q with | l q =>
      split at e
      · cases e
        rename_i hl
        refine p _ H' ι s.take rt (.l ?_)
        obtain ⟨t, et⟩ := s.pre
        rw [et, List.getElem?_append_left hl] at q
        exact q
      · rename_i hl
        split at e
        · rename_i ws hws
          split at e
          · cases e
            rename_i ds hd
            obtain ⟨vs, g, q2, _⟩ := r.of q hws
            have qd := q2.allD hd
            have hmem : _ ∈ ι' := List.mem_of_getElem? q
            have hn : _ ∉ ι := fun hm => by
              obtain ⟨c, hc⟩ := List.mem_iff_getElem?.mp hm
              have hc' := s.at hc
              have hlc : c < ι'.length := by
                rcases Nat.lt_or_ge c ι'.length with z | z
                · exact z
                · rw [List.getElem?_eq_none z] at hc'; cases hc'
              have e1 := (List.getElem?_inj hlc r.nd).mp (hc'.trans q.symm)
              have : c < ι.length := by
                rcases Nat.lt_or_ge c ι.length with z | z
                · exact z
                · rw [List.getElem?_eq_none z] at hc; cases hc
              omega
            have ews : ws = ds.map .d := allD_eq hd
            rw [ews] at p
            have ra := rt.adopt hn g (RWs.data qd)
            refine p _ H' (ι ++ [_]) ⟨⟨[_], rfl⟩, fun z hz => ?_, s.keep, s.stab⟩ ra (.l (by simp))
            rcases List.mem_append.mp hz with y | y
            · exact .inl y
            · rw [List.mem_singleton.mp y]
              rcases s.fresh _ hmem with z1 | z1
              · exact absurd z1 hn
              · exact .inr z1
          · cases e
            exact p _ H' ι' s r (.l q)
        · cases e

/-- a def of the text, and its number -/
structure FRow where
  x : Str
  name : Str
  qual : Str
  i : Nat
  as : List Arg
  body : List Stmt
  scope : Scope
  N : List Str
def FRow.ps (r : FRow) : List Str := r.as.map (·.arg)
def FRow.sx (r : FRow) (T : Nm) : Sx := ⟨T, r.N, r.scope, fun _ => true⟩
def scopeB (r : FRow) : Bool := (match r.scope.kind with
    | .function => true
    | _ => false) && !r.scope.isCoroutine && !r.scope.isGenerator && decide r.N.Nodup && decide (r.N.take r.ps.length = r.ps) && (r.ps.all fun x => match r.scope.names.lookup x with
    | some .local => true
    | some .cell => true
    | _ => false) && r.scope.names.all fun y => match y.2 with
    | .free => false
    | _ => true
theorem scope_ok {r : FRow} (h : scopeB r = true) : FnScope r.N r.ps r.scope := by
  unfold scopeB at h
  simp only [Bool.and_eq_true, decide_eq_true_eq, List.all_eq_true, Bool.not_eq_true'] at h
  obtain ⟨⟨⟨⟨⟨⟨h1, h2⟩, h3⟩, h4⟩, h5⟩, h6⟩, h7⟩ := h
  refine ⟨?_, h2, h3, h4, h5, fun x hx => ?_, fun y hy e => ?_⟩
  · split at h1
    · assumption
    · cases h1
  · have := h6 x hx
    split at this
    · exact .inl (by assumption)
    · exact .inr (by assumption)
    · cases this
  · have := h7 y hy
    rw [e] at this
    cases this
section
variable {P : Program} {w : World} {K : Fg} {mg : Str → Option Value} {base : Heap} {T : Nm} {J : Prog}
theorem rws_env {H : Hp} {ι : List Addr} : ∀ {vs : List V} {ws : List W}, RWs K H ι vs ws → ∀ (n : Nat) (i : Nat) (w : W), (ws.map some ++ List.replicate n none)[i]? = some (some w) → ∃ v, (vs.map some ++ List.replicate n none)[i]? = some (some v) ∧ RW K H ι v w
  | _, _, .nil, n, i, w, e => by
    simp [List.getElem?_replicate] at e
  | _, _, .cons r t, n, 0, w, e => by
    simp at e; subst e
    exact ⟨_, rfl, r⟩
  | _, _, .cons _ t, n, i + 1, w, e => by
    obtain ⟨v, h1, h2⟩ := rws_env t n i w (by simpa using e)
    exact ⟨v, by simpa using h1, h2⟩
theorem fn_ok {r : FRow} {k : Nat} {f : Addr} {fd : FuncData} {d : Def} (F : FunD K r.name r.qual ⟨[], r.as, none, [], [], none, []⟩ r.body r.scope [] [] f fd) (S : scopeB r = true) {n : Nat} (ht : trSs (trS n (r.sx T)) r.body = some d.body) (hF : J.F r.i = some d) (np : d.np = r.as.length) (ns : d.ns = r.N.length)
    (fa : Facts P w K mg base T J k) : FnOk P w K mg base CX0 (k + 1) f fd r.ps (spJ K J (k + 1) r.i) := by
  have S' := scope_ok S
  have hlen : ∀ {ws : List W} {h : LH} {res : W × LH}, call J (k + 1) r.i ws h = some res → ws.length = r.ps.length ∧ ∃ fl ρ' h1, execs (cJ J k) d.body (ws.map some ++ List.replicate (d.ns - d.np) none) h = some (fl, ρ', h1) ∧ ((∃ w, fl = .ret w ∧ fin h.length w h1 = some res) ∨ (fl = .nxt ∧ fin h.length (.d .none) h1 = some res)) := by
    intro ws h res e
    unfold call at e
    rw [hF] at e
    dsimp only at e
    split at e
    · rename_i hl
      refine ⟨by rw [hl, np]; simp [FRow.ps], ?_⟩
      split at e
      · exact ⟨_, _, _, by assumption, .inl ⟨_, rfl, e⟩⟩
      · exact ⟨_, _, _, by assumption, .inr ⟨rfl, e⟩⟩
      · cases e
    · cases e
  refine F.ok S' (fun vs H Q E h => ?_) (fun cdv A outer s H vs Q E hr hsp => ?_)
  · obtain ⟨ι, h, ws, w, h', rh, q, e, p⟩ := h
    rw [q.length]
    exact (hlen e).1
  · obtain ⟨ι, h, ws, w', h', rh, q, e, p⟩ := hsp
    obtain ⟨hl, fl, ρ', h1, e1, e2⟩ := hlen e
    have g : Good (r.sx T) k (cxOf CX0 P w K mg base r.N r.qual r.scope f cdv A outer s H E).nox := ⟨rfl, S'.nd, rfl, hr, rfl, rfl, rfl⟩
    refine ⟨tSs (cJ J k) K d.body, (snd_ss (X := (cxOf CX0 P w K mg base r.N r.qual r.scope f cdv A outer s H E).nox) (snd_stmt g fa S'.kind n) ht).nox, ?_⟩
    have hst : L2.start r.N vs = vs.map some ++ List.replicate (d.ns - d.np) none := by
      unfold L2.start
      rw [ns, np, q.length, hl]
      simp [FRow.ps]
    refine ⟨_, h, ι, fl, ρ', h1, ⟨⟨rh, fun i w e => ?_⟩, ?_⟩, e1, ?_⟩
    · rw [hst]
      exact rws_env q _ i w e
    · rw [hst]; simp [q.length]
    · rw [← rh.len] at e2
      rcases e2 with ⟨w0, rfl, e2⟩ | ⟨rfl, e2⟩
      · exact fin_post e2 p
      · intro σ' H' ι' s' r'
        exact fin_post e2 p .non H' ι' s' r'.rh (.d .non)
theorem fn_none {k f : Nat} {fa : Addr} {fd : FuncData} {ps : List Str} : FnOk P w K mg base CX0 0 fa fd ps (spJ K J 0 f) := by
  have no : ∀ vs H Q E, ¬ spJ K J 0 f vs H Q E := fun vs H Q E h => by
    obtain ⟨ι, h, ws, w, h', rh, q, e, p⟩ := h
    cases e
  exact ⟨fun vs H Q E h => absurd h (no vs H Q E), fun A outer s H args us vs Q E _ _ _ _ h => absurd h (no vs H Q E)⟩
/-- all defs, to any depth -/
theorem facts_all {rows : List FRow} {n : Nat} (hT : T.f = rows.map fun r => (r.x, r.i)) (hS : ∀ r ∈ rows, scopeB r = true)
    (ht : ∀ r ∈ rows, ∀ d, J.F r.i = some d → trSs (trS n (r.sx T)) r.body = some d.body ∧ d.np = r.as.length ∧ d.ns = r.N.length)
    (hd : ∀ r ∈ rows, ∃ a fd, mg r.x = some (.ref a) ∧ FunD K r.name r.qual ⟨[], r.as, none, [], [], none, []⟩ r.body r.scope [] [] a fd)
    (gs : ∀ x g c, T.g.lookup x = some g → J.G g = some c → ∃ v u, mg x = some u ∧ RelV v u ∧ ∀ H, RD K H v c)
    (ts : ∀ x g s c, T.t.lookup x = some g → J.T g s = some c → ∃ a, mg x = some (.ref a) ∧ ∀ z, EncS s z → ∃ v, KDct K w a z v ∧ ∀ H, RD K H v c)
    (bs : ∀ x, T.b.contains x = true → mg x = none) : ∀ k, Facts P w K mg base T J k := by
  have look : ∀ {x : Str} {f : Nat}, T.f.lookup x = some f → ∃ r ∈ rows, r.x = x ∧ r.i = f := by
    intro x f h
    rw [hT] at h
    clear hT hS ht hd
    induction rows with
    | nil => cases h
    | cons r rs ih =>
      rw [List.map_cons, List.lookup_cons] at h
      by_cases q : x == r.x
      · rw [q] at h
        cases h
        exact ⟨r, List.mem_cons_self, (eq_of_beq q).symm, rfl⟩
      · have q' : (x == r.x) = false := by simpa using q
        rw [q'] at h
        obtain ⟨r', h1, h2⟩ := ih h
        exact ⟨r', List.mem_cons_of_mem _ h1, h2⟩
  intro k
  induction k with
  | zero =>
    refine ⟨fun x f d hx hf => ?_, gs, ts, bs⟩
    obtain ⟨r, hr, rfl, rfl⟩ := look hx
    obtain ⟨a, fd, hm, F⟩ := hd r hr
    refine ⟨a, fd, r.ps, hm, F.kp, F.bindsN fun kV doc pm an cdv ct us hl => bind_plain r.as us ?_ hl, fn_none (k := 0)⟩
    have S' := scope_ok (hS r hr)
    have := S'.nd.sublist (List.take_sublist r.ps.length r.N)
    rw [S'.pre] at this
    exact this
  | succ k ih =>
    refine ⟨fun x f d hx hf => ?_, gs, ts, bs⟩
    obtain ⟨r, hr, rfl, rfl⟩ := look hx
    obtain ⟨a, fd, hm, F⟩ := hd r hr
    obtain ⟨h1, h2, h3⟩ := ht r hr d hf
    refine ⟨a, fd, r.ps, hm, F.kp, F.bindsN fun kV doc pm an cdv ct us hl => bind_plain r.as us ?_ hl, fn_ok F (hS r hr) h1 hf h2 h3 ih⟩
    have S' := scope_ok (hS r hr)
    have := S'.nd.sublist (List.take_sublist r.ps.length r.N)
    rw [S'.pre] at this
    exact this
end
end J
set_option maxRecDepth 100000
/-! The head's facts for J, and a law's end. -/
namespace J
open PySem L2 PyProof.Rows
/-- what a law's text has: its defs, its constants, its tables, the built-ins it uses -/
structure Lay where
  rows : List FRow
  gs : List (Str × Nat × D)
  ts : List (Str × Nat × List (String × Int))
  bs : List Str
def Lay.T (l : Lay) : Nm := ⟨l.rows.map fun r => (r.x, r.i), l.gs.map fun g => (g.1, g.2.1), l.ts.map fun g => (g.1, g.2.1), l.bs⟩
def flatD : D → Bool
  | .i _ => true
  | .b _ => true
  | .s z => decide (z.length ≤ SZ)
  | _ => false
def dvD : D → He.Dv
  | .i k => .int k
  | .b b => .bl b
  | .s z => .str (cpS z)
  | _ => .non
def cstB (K : Fg) (g : Str × Nat × D) : Bool := match g.2.2 with
  | .t ds => ds.all flatD && He.tupB K g.1 (ds.map dvD)
  | .i k => (match PySem.W.nsIn K mainGlobals g.1 with
    | some (some u) => He.relB (.int k) u
    | _ => false)
  | .s z => decide (z.length ≤ SZ) && (match PySem.W.nsIn K mainGlobals g.1 with
    | some (some u) => He.relB (.str (cpS z)) u
    | _ => false)
  | _ => false
def tabB (K : Fg) (t : Str × Nat × List (String × Int)) : Bool := He.valsB K (He.ga K t.1) (t.2.2.map fun q => (cpS q.1, He.Dv.int q.2))
def Lay.fa (l : Lay) : List He.Fa := l.rows.map (fun r => .glo r.x) ++ ((l.gs.filter fun g => match g.2.2 with
    | .t _ => true
    | _ => false).map (fun g => .glo g.1) ++ (l.ts.map (fun t => .glo t.1) ++ l.bs.map fun b => .free b))
def Lay.fn (l : Lay) : List He.DefD := l.rows.map fun r => ⟨(r.x, none), r.name, r.qual, ⟨[], r.as, none, [], [], none, []⟩, r.body, r.scope, [], []⟩
def Lay.tabs (l : Lay) : List He.Tab := l.ts.map fun t => (fun K => He.ga K t.1, t.2.2.map fun q => cpS q.1)
abbrev AlJ : Type := He.AlT × Bool
def obsJ (l : Lay) (K : Fg) : AlJ := (He.obsT l.fa l.fn l.tabs K, l.gs.all (cstB K) && l.ts.all (tabB K))
def valJ (l : Lay) (w : World) : AlJ := (He.valT l.fn l.tabs w, true)
def SaysJ (l : Lay) (w : World) (K : Fg) : Prop := obsJ l K = valJ l w
def obsJG (n : Nat) (l : Lay) (g : Addr → Option Obj) : AlJ := obsJ l (He.frG g (He.asD g n))
def hookJ (n : Nat) (l : Lay) : PySem.W.Hook where
  α := AlJ
  obs := fun s => obsJG n l s.heap.get?
  val := fun w => valJ l w
  says := fun w h => ∃ K : Fg, K.In h ∧ SaysJ l w K
  of := fun _ _ e => ⟨_, He.frG_in, e⟩
  keeps := fun _ _ _ ⟨K, hK, c⟩ k => ⟨K, PySem.W.Frag.In.keeps hK k, c⟩
theorem obsJG_eq {n : Nat} {l : Lay} {g : Addr → Option Obj} {s : Shared} (h : ∀ a, g a = s.heap.get? a) : obsJG n l g = (hookJ n l).obs s := by
  have e : g = s.heap.get? := funext h
  rw [e] <;> rfl
theorem flat_rd {K : Fg} {H : Hp} : ∀ {ds : List D}, ds.all flatD = true → RDs K H ((ds.map dvD).map (He.Dv.v K)) ds
  | [], _ => .nil
  | d :: r, h => by
    rw [List.all_cons, Bool.and_eq_true] at h
    refine .cons ?_ (flat_rd h.2)
    have h1 := h.1
    cases d with
    | i k => exact .i k
    | b b => exact .b b
    | s z => exact .s (encS z) (of_decide_eq_true h1)
    | _ => cases h1
theorem look_map {α β : Type} {f : α → β} {n : α → Str} : ∀ {l : List α} {x : Str} {b : β}, (l.map fun a => (n a, f a)).lookup x = some b → ∃ a ∈ l, n a = x ∧ f a = b
  | [], _, _, h => by cases h
  | a :: r, x, b, h => by
    rw [List.map_cons, List.lookup_cons] at h
    by_cases q : x == n a
    · rw [q] at h
      cases h
      exact ⟨a, List.mem_cons_self, (eq_of_beq q).symm, rfl⟩
    · have q' : (x == n a) = false := by simpa using q
      rw [q'] at h
      obtain ⟨a', h1, h2⟩ := look_map h
      exact ⟨a', List.mem_cons_of_mem _ h1, h2⟩
/-- the program of a layout: its constants and tables off the lists -/
structure Fits (l : Lay) (J : Prog) (n : Nat) : Prop where
  sc : l.rows.all scopeB = true
  tr : l.rows.map (fun r => (trSs (trS n (r.sx l.T)) r.body, r.as.length, r.N.length)) = l.rows.map fun r => (match J.F r.i with
    | some d => (some d.body, d.np, d.ns)
    | none => (trSs (trS n (r.sx l.T)) r.body, r.as.length, r.N.length))
  g : ∀ g ∈ l.gs, ∀ c, J.G g.2.1 = some c → g.2.2 = c
  t : ∀ t ∈ l.ts, ∀ s c, J.T t.2.1 s = some c → ∃ k, (s, k) ∈ t.2.2 ∧ c = .i k
theorem facts_of {l : Lay} {J : Prog} {n : Nat} (ft : Fits l J n) {P : Program} {w : World} {K : Fg} {mg : Str → Option Value} {base h : Heap} (X : K.In h) (G : h.Ns mainGlobals mg) (c : SaysJ l w K) : ∀ k, Facts P w K mg base l.T J k := by
  have cT : He.SaysT l.fa l.fn l.tabs w K := congrArg (fun z : AlJ => z.1) c
  have cD := cT.d
  have cB : (l.gs.all (cstB K) && l.ts.all (tabB K)) = true := congrArg (fun z : AlJ => z.2) c
  obtain ⟨cg, ct⟩ := Bool.and_eq_true_iff.mp cB
  have fact : ∀ f ∈ l.fa, f.ok K = true := fun f hf => by
    obtain ⟨i, hi⟩ := List.mem_iff_getElem?.mp hf
    exact cD.fact i hi
  have trk := List.map_inj_left.mp ft.tr
  refine facts_all (n := n) rfl (List.all_eq_true.mp ft.sc) (fun r hr d hd => ?_) (fun r hr => ?_) (fun x g c hx hg => ?_) (fun x g s c hx hg => ?_) (fun x hx => ?_)
  · have := trk r hr
    rw [hd] at this
    simp only [Prod.mk.injEq] at this
    exact ⟨this.1, this.2.1.symm, this.2.2.symm⟩
  · have hg : He.Fa.glo r.x ∈ l.fa := List.mem_append_left _ (List.mem_map.mpr ⟨r, hr, rfl⟩)
    obtain ⟨i, hi⟩ := List.mem_iff_getElem?.mp hr
    obtain ⟨fd, F⟩ := cD.def_ i (d := ⟨(r.x, none), r.name, r.qual, ⟨[], r.as, none, [], [], none, []⟩, r.body, r.scope, [], []⟩) (by unfold Lay.fn; rw [List.getElem?_map, hi]; rfl)
    exact ⟨_, fd, He.glo_ok X G (fact _ hg), F⟩
  · obtain ⟨q, hq, rfl, rfl⟩ := look_map hx
    have hc := ft.g q hq c hg
    have ok := List.all_eq_true.mp cg q hq
    obtain ⟨x, g, cc⟩ := q
    simp only at hc
    subst hc
    cases cc with
    | t ds =>
      obtain ⟨h1, h2⟩ := Bool.and_eq_true_iff.mp (show (ds.all flatD && He.tupB K x (ds.map dvD)) = true from ok)
      have hgl : He.Fa.glo x ∈ l.fa := List.mem_append_right _ (List.mem_append_left _ (List.mem_map.mpr ⟨_, List.mem_filter.mpr ⟨hq, rfl⟩, rfl⟩))
      exact ⟨.ref (He.ga K x), _, He.glo_ok X G (fact _ hgl), rfl, fun H => .t (He.tupB_ok h2 H) (flat_rd h1)⟩
    | i k =>
      have ok' : (match PySem.W.nsIn K mainGlobals x with
        | some (some u) => He.relB (.int k) u
        | _ => false) = true := ok
      split at ok'
      · rename_i u hu
        exact ⟨.int k, u, PySem.W.mg_of X G hu, He.relB_ok ok', fun H => .i k⟩
      · cases ok'
    | s z =>
      obtain ⟨h1, ok'⟩ := Bool.and_eq_true_iff.mp (show (decide (z.length ≤ SZ) && (match PySem.W.nsIn K mainGlobals x with
        | some (some u) => He.relB (.str (cpS z)) u
        | _ => false)) = true from ok)
      split at ok'
      · rename_i u hu
        exact ⟨.str (cpS z), u, PySem.W.mg_of X G hu, He.relB_ok ok', fun H => .s (encS z) (of_decide_eq_true h1)⟩
      · cases ok'
    | none => cases ok
    | b _ => cases ok
    | fl _ => cases ok
  · obtain ⟨q, hq, rfl, rfl⟩ := look_map hx
    obtain ⟨kk, hk, rfl⟩ := ft.t q hq s c hg
    have hgl : He.Fa.glo q.1 ∈ l.fa := List.mem_append_right _ (List.mem_append_right _ (List.mem_append_left _ (List.mem_map.mpr ⟨q, hq, rfl⟩)))
    refine ⟨_, He.glo_ok X G (fact _ hgl), fun z hz => ⟨.int kk, ?_, fun H => .i kk⟩⟩
    obtain ⟨i, hi⟩ := List.mem_iff_getElem?.mp hq
    obtain ⟨es, n, kd⟩ := cT.tab i (t := (fun K => He.ga K q.1, q.2.2.map fun q => cpS q.1)) (by unfold Lay.tabs; rw [List.getElem?_map, hi]; rfl)
    have ok := List.all_eq_true.mp ct q hq
    have ez : z = cpS s := hz.fn (encS s)
    subst ez
    obtain ⟨u, hu, ru⟩ := He.valsB_ok ok (q := (cpS s, He.Dv.int kk)) (List.mem_map.mpr ⟨(s, kk), hk, rfl⟩)
    exact ⟨es, n, u, kd.at_, kd.lit, hu, ru⟩
  · have hb : He.Fa.free x ∈ l.fa := List.mem_append_right _ (List.mem_append_right _ (List.mem_append_right _ (List.mem_map.mpr ⟨x, List.contains_iff_mem.mp hx, rfl⟩)))
    exact He.free_ok X G (fact _ hb)
/-- the law: its def is a row; called with the script it gives True -/
theorem law_end {lw : PySem.W.OpenLaw} {q : Program} {loose : List Str} {XP : (Str → Option Value) → Heap → Prop} {d : DefRec} {m : Nat} {l : Lay} {J : Prog} {n k i : Nat} {px : Arg} (ft : Fits l J n)
    (hn : lw.most = some 63) (hdf : d.params.defaults = []) (hr : Room (k + 1) callerA) (hd : d.name = "law") (r : FRow) (hrow : r ∈ l.rows) (hx : r.x = "law") (hi : r.i = i) (has : r.ps = [("script" : Str)]) (hF : ∃ dd, J.F i = some dd)
    (hlaw : ∀ ns : List Int, ns.length ≤ 63 → ∃ h', call J (k + 1) i [.d (.fl (ns.map .i))] [] = some (.d (.b true), h')) :
    PySem.W.WalkO q loose XP (hookJ m l).says lw.row.toRowW d [] (fun f vs => PySem.call f vs) := by
  refine L2.walk_ofE (l := lw) (n := 63) (k := k + 1) (x := "script") (CX := L2.CX0) hn (by decide) hdf hr (fun w mg fa h Y G hmg => ?_) (fun _ _ _ _ z => z)
  obtain ⟨K, KX, c⟩ := Y
  rw [hd] at hmg
  have cT : He.SaysT l.fa l.fn l.tabs w K := congrArg (fun z : AlJ => z.1) c
  obtain ⟨j, hj⟩ := List.mem_iff_getElem?.mp hrow
  obtain ⟨fd, F⟩ := cT.d.def_ j (d := ⟨(r.x, none), r.name, r.qual, ⟨[], r.as, none, [], [], none, []⟩, r.body, r.scope, [], []⟩) (by unfold Lay.fn; rw [List.getElem?_map, hj]; rfl)
  have hgl : He.Fa.glo r.x ∈ l.fa := List.mem_append_left _ (List.mem_map.mpr ⟨r, hrow, rfl⟩)
  have hm : mg r.x = some (.ref (He.ga K r.x)) := by
    obtain ⟨i, hi⟩ := List.mem_iff_getElem?.mp hgl
    exact He.glo_ok KX G (cT.d.fact i hi)
  have efa : fa = He.ga K r.x := by
    rw [hx] at hm ⊢
    rw [hmg] at hm
    cases hm; rfl
  subst hi
  refine ⟨K, fd, spJ K J (k + 1) r.i, KX, fun s u => ?_, fun H a ns hl hO hS => ?_, fun base hb hg => ?_⟩
  · have nd : r.ps.Nodup := by rw [has]; decide
    have := F.bindsA (ps := r.ps) (fun kV doc pm an cdv ct us hl => bind_plain r.as us nd hl) s [u] (by rw [has]; rfl)
    rw [has] at this
    exact this
  · obtain ⟨h', e⟩ := hlaw ns hl
    have hnl : H a ≠ some (.lst (ns.map V.int)) := fun z => by
      rcases hO a with y | ⟨o, xs, y⟩
      · rw [y] at z; cases z
      · rw [y] at z; cases z
    have rds : ∀ ns : List Int, RDs K H (ns.map V.int) (ns.map D.i) := fun ns => by
      induction ns with
      | nil => exact .nil
      | cons a r ih => exact .cons (.i a) ih
    refine ⟨[], [], _, _, h', ⟨rfl, .nil, fun a p z => by simp at z⟩, .cons (.d (.fl (Frz.of hS hnl) (rds ns))) .nil, e, fun v H' ι' _ _ q => ?_⟩
    cases q with | d q => cases q; rfl
  · obtain ⟨dd, hF⟩ := hF
    have := List.map_inj_left.mp ft.tr r hrow
    rw [hF] at this
    simp only [Prod.mk.injEq] at this
    have ok := fn_ok F (List.all_eq_true.mp ft.sc r hrow) this.1 hF this.2.1.symm this.2.2.symm (facts_of ft (P := lw.prog) (w := w) (base := base) hb hg c k)
    rw [has] at ok
    rw [efa]
    exact ok
end J
/-! The evaluator's equations, for simp. -/
namespace J
variable {α β : Type}
def bnd0 (r : Option (α × LH)) (f : α → LH → Option β) : Option β := match r with
  | some (a, h) => f a h
  | none => none
@[simp] theorem bnd0_some (a : α) (h : LH) (f : α → LH → Option β) : bnd0 (some (a, h)) f = f a h := (rfl)
@[simp] theorem bnd0_none (f : α → LH → Option β) : bnd0 none f = none := (rfl)
@[simp] theorem bnd0_ite (p : Prop) [Decidable p] (x y : Option (α × LH)) (f : α → LH → Option β) : bnd0 (if p then x else y) f = if p then bnd0 x f else bnd0 y f := by split <;> rfl
def cnd0 (r : Option (W × LH)) (A B : LH → Option α) : Option α := match r with
  | some (.d (.b true), h) => A h
  | some (.d (.b false), h) => B h
  | _ => none
@[simp] theorem cnd0_b (b : Bool) (h : LH) (A B : LH → Option α) : cnd0 (some (.d (.b b), h)) A B = if b = true then A h else B h := by cases b <;> rfl
@[simp] theorem cnd0_none (A B : LH → Option α) : cnd0 none A B = none := (rfl)
@[simp] theorem cnd0_ite (p : Prop) [Decidable p] (x y : Option (W × LH)) (A B : LH → Option α) : cnd0 (if p then x else y) A B = if p then cnd0 x A B else cnd0 y A B := by split <;> rfl
def asI0 (r : Option (W × LH)) (f : Int → LH → Option α) : Option α := match r with
  | some (.d (.i k), h) => f k h
  | _ => none
@[simp] theorem asI0_i (k : Int) (h : LH) (f : Int → LH → Option α) : asI0 (some (.d (.i k), h)) f = f k h := (rfl)
@[simp] theorem asI0_ite (p : Prop) [Decidable p] (x y : Option (W × LH)) (f : Int → LH → Option α) : asI0 (if p then x else y) f = if p then asI0 x f else asI0 y f := by split <;> rfl
def asBl0 (r : Option (W × LH)) (f : Bool → LH → Option α) : Option α := match r with
  | some (.d (.b k), h) => f k h
  | _ => none
@[simp] theorem asBl0_b (k : Bool) (h : LH) (f : Bool → LH → Option α) : asBl0 (some (.d (.b k), h)) f = f k h := (rfl)
@[simp] theorem asBl0_ite (p : Prop) [Decidable p] (x y : Option (W × LH)) (f : Bool → LH → Option α) : asBl0 (if p then x else y) f = if p then asBl0 x f else asBl0 y f := by split <;> rfl
def asS0 (r : Option (W × LH)) (f : String → LH → Option α) : Option α := match r with
  | some (.d (.s k), h) => f k h
  | _ => none
@[simp] theorem asS0_s (k : String) (h : LH) (f : String → LH → Option α) : asS0 (some (.d (.s k), h)) f = f k h := (rfl)
def seqF0 (r : Option (Fl × Env × LH)) (f : Env → LH → Option (Fl × Env × LH)) : Option (Fl × Env × LH) := match r with
  | some (.nxt, ρ, h) => f ρ h
  | r => r
@[simp] theorem seqF0_nxt (ρ : Env) (h : LH) (f) : seqF0 (some (.nxt, ρ, h)) f = f ρ h := (rfl)
@[simp] theorem seqF0_ret (w : W) (ρ : Env) (h : LH) (f) : seqF0 (some (.ret w, ρ, h)) f = some (.ret w, ρ, h) := (rfl)
@[simp] theorem seqF0_brk (ρ : Env) (h : LH) (f) : seqF0 (some (.brk, ρ, h)) f = some (.brk, ρ, h) := (rfl)
@[simp] theorem seqF0_cnt (ρ : Env) (h : LH) (f) : seqF0 (some (.cnt, ρ, h)) f = some (.cnt, ρ, h) := (rfl)
@[simp] theorem seqF0_none (f) : seqF0 none f = none := (rfl)
@[simp] theorem seqF0_ite (p : Prop) [Decidable p] (x y : Option (Fl × Env × LH)) (f) : seqF0 (if p then x else y) f = if p then seqF0 x f else seqF0 y f := by split <;> rfl
def ret (n : Nat) : Option (Fl × Env × LH) → Option (W × LH)
  | some (.ret w, _, h') => fin n w h'
  | some (.nxt, _, h') => fin n (.d .none) h'
  | _ => none
@[simp] theorem fin_d (n : Nat) (x : D) (h : LH) : fin n (.d x) h = some (.d x, h.take n) := (rfl)
@[simp] theorem ret_ret (n : Nat) (w : W) (ρ : Env) (h : LH) : ret n (some (.ret w, ρ, h)) = fin n w h := (rfl)
@[simp] theorem ret_nxt (n : Nat) (ρ : Env) (h : LH) : ret n (some (.nxt, ρ, h)) = fin n (.d .none) h := (rfl)
@[simp] theorem ret_none (n : Nat) : ret n none = none := (rfl)
@[simp] theorem ret_ite (n : Nat) (p : Prop) [Decidable p] (x y : Option (Fl × Env × LH)) : ret n (if p then x else y) = if p then ret n x else ret n y := by split <;> rfl
theorem call_def {P : Prog} {k f : Nat} {d : Def} {ws : List W} {h : LH} (hF : P.F f = some d) (hl : ws.length = d.np) :
    call P (k + 1) f ws h = ret h.length (execs ⟨P.G, P.T, call P k, P.wf⟩ d.body (ws.map some ++ List.replicate (d.ns - d.np) none) h) := by
  unfold call
  rw [hF]
  dsimp only
  rw [if_pos hl]
  unfold ret
  rfl
variable (C : Ctx) (ρ : Env) (h : LH)
@[simp] theorem ev_var (i : Nat) : ev C (.var i) ρ h = (match ρ[i]? with
    | some (some w) => some (w, h)
    | _ => none) := by rw [ev]; try ((repeat' split) <;> simp_all)
@[simp] theorem ev_c (x : D) : ev C (.c x) ρ h = some (.d x, h) := by rw [ev]
@[simp] theorem ev_glob (g : Nat) : ev C (.glob g) ρ h = (match C.G g with
    | some x => some (.d x, h)
    | none => none) := by rw [ev]; try ((repeat' split) <;> simp_all)
theorem z_ev_tup (es : List E) : ev C (.tup es) ρ h = bnd0 (evs C es ρ h) fun ws h1 => mkT h1 ws := by rw [ev]; unfold bnd0; (repeat' split) <;> simp_all
theorem z_ev_lst (es : List E) : ev C (.lst es) ρ h = bnd0 (evs C es ρ h) fun ws h1 => new h1 ws := by rw [ev]; unfold bnd0; (repeat' split) <;> simp_all
theorem z_ev_bin (op : BOp) (x y : E) : ev C (.bin op x y) ρ h = bnd0 (ev C x ρ h) fun u h1 => bnd0 (ev C y ρ h1) fun w h2 => binop h2 op u w := by rw [ev]; unfold bnd0; (repeat' split) <;> simp_all
theorem z_ev_neg (x : E) : ev C (.neg x) ρ h = asI0 (ev C x ρ h) fun k h1 => some (.d (.i (-k)), h1) := by rw [ev]; unfold asI0; (repeat' split) <;> simp_all
theorem z_ev_not (x : E) : ev C (.not x) ρ h = asBl0 (ev C x ρ h) fun k h1 => some (.d (.b (!k)), h1) := by rw [ev]; unfold asBl0; (repeat' split) <;> simp_all
theorem z_ev_cmp (op : COp) (x y : E) : ev C (.cmp op x y) ρ h = bnd0 (ev C x ρ h) fun u h1 => bnd0 (ev C y ρ h1) fun w h2 => (cmpop h2 op u w).map fun k => (.d (.b k), h2) := by
  rw [ev]; rcases ev C x ρ h with _ | ⟨u, h1⟩
  · rfl
  · dsimp only [bnd0]; rcases ev C y ρ h1 with _ | ⟨w, h2⟩
    · rfl
    · dsimp only; cases cmpop h2 op u w <;> rfl
theorem z_ev_chain (o1 o2 : COp) (x y z : E) : ev C (.chain o1 o2 x y z) ρ h = bnd0 (ev C x ρ h) fun u h1 => bnd0 (ev C y ρ h1) fun w h2 => cnd0 ((cmpop h2 o1 u w).map fun k => (.d (.b k), h2)) (fun h2 => bnd0 (ev C z ρ h2) fun v h3 => (cmpop h3 o2 w v).map fun k => (.d (.b k), h3)) (fun h2 => some (.d (.b false), h2)) := by
  rw [ev]; rcases ev C x ρ h with _ | ⟨u, h1⟩
  · rfl
  · dsimp only [bnd0]; rcases ev C y ρ h1 with _ | ⟨w, h2⟩
    · rfl
    · dsimp only; rcases cmpop h2 o1 u w with _ | b
      · rfl
      · cases b
        · rfl
        · dsimp only [cnd0, Option.map_some]; rcases ev C z ρ h2 with _ | ⟨v, h3⟩
          · rfl
          · dsimp only; cases cmpop h3 o2 w v <;> rfl
def isNW : W → Bool
  | .d .none => true
  | _ => false
@[simp] theorem isNW_none : isNW (.d .none) = true := (rfl)
@[simp] theorem isNW_b (x : Bool) : isNW (.d (.b x)) = false := (rfl)
@[simp] theorem isNW_i (x : Int) : isNW (.d (.i x)) = false := (rfl)
@[simp] theorem isNW_s (x : String) : isNW (.d (.s x)) = false := (rfl)
@[simp] theorem isNW_t (x : List D) : isNW (.d (.t x)) = false := (rfl)
@[simp] theorem isNW_l (x : Nat) : isNW (.l x) = false := (rfl)
theorem z_ev_isN (x : E) : ev C (.isN x) ρ h = bnd0 (ev C x ρ h) fun u h1 => some (.d (.b (isNW u)), h1) := by
  rw [ev]; rcases ev C x ρ h with _ | ⟨u, h1⟩
  · rfl
  · dsimp only [bnd0]; rcases u with d | a
    · cases d <;> rfl
    · rfl
theorem z_ev_isNN (x : E) : ev C (.isNN x) ρ h = bnd0 (ev C x ρ h) fun u h1 => some (.d (.b (!isNW u)), h1) := by
  rw [ev]; rcases ev C x ρ h with _ | ⟨u, h1⟩
  · rfl
  · dsimp only [bnd0]; rcases u with d | a
    · cases d <;> rfl
    · rfl
theorem z_ev_and (x y : E) : ev C (.and x y) ρ h = cnd0 (ev C x ρ h) (fun h1 => ev C y ρ h1) (fun h1 => some (.d (.b false), h1)) := by rw [ev]; unfold cnd0; (repeat' split) <;> simp_all
theorem z_ev_or (x y : E) : ev C (.or x y) ρ h = cnd0 (ev C x ρ h) (fun h1 => some (.d (.b true), h1)) (fun h1 => ev C y ρ h1) := by rw [ev]; unfold cnd0; (repeat' split) <;> simp_all
theorem z_ev_ite (c x y : E) : ev C (.ite c x y) ρ h = cnd0 (ev C c ρ h) (fun h1 => ev C x ρ h1) (fun h1 => ev C y ρ h1) := by rw [ev]; unfold cnd0; (repeat' split) <;> simp_all
theorem z_ev_ix (x i : E) : ev C (.ix x i) ρ h = bnd0 (ev C x ρ h) fun u h1 => bnd0 (ev C i ρ h1) fun k h2 => index h2 u k := by rw [ev]; unfold bnd0; (repeat' split) <;> simp_all
theorem z_ev_dix (g : Nat) (i : E) : ev C (.dix g i) ρ h = asS0 (ev C i ρ h) fun k h1 => (C.T g k).map fun x => (.d x, h1) := by
  rw [ev]; rcases ev C i ρ h with _ | ⟨u, h1⟩
  · rfl
  · rcases u with d | a
    · cases d <;> first | rfl | (dsimp only [asS0]; rename_i k; cases C.T g k <;> rfl)
    · rfl
theorem z_ev_sl (x : E) (lo hi : Option E) : ev C (.sl x lo hi) ρ h = bnd0 (ev C x ρ h) fun u h1 => bnd0 (evo C lo ρ h1) fun a h2 => bnd0 (evo C hi ρ h2) fun z h3 => slice h3 u a z := by rw [ev]; unfold bnd0; (repeat' split) <;> simp_all
theorem z_ev_rev (x : E) : ev C (.rev x) ρ h = bnd0 (ev C x ρ h) fun u h1 => revW h1 u := by rw [ev]; unfold bnd0; (repeat' split) <;> simp_all
theorem z_ev_call (f : Nat) (es : List E) : ev C (.call f es) ρ h = bnd0 (evs C es ρ h) fun ws h1 => C.cl f ws h1 := by rw [ev]; unfold bnd0; (repeat' split) <;> simp_all
theorem z_ev_bi (f : Bi) (es : List E) : ev C (.bi f es) ρ h = bnd0 (evs C es ρ h) fun ws h1 => builtin h1 f ws := by rw [ev]; unfold bnd0; (repeat' split) <;> simp_all
theorem z_ev_meth (m : Me) (x : E) (es : List E) : ev C (.meth m x es) ρ h = bnd0 (ev C x ρ h) fun u h1 => bnd0 (evs C es ρ h1) fun ws h2 => method h2 m u ws := by rw [ev]; unfold bnd0; (repeat' split) <;> simp_all
theorem z_ev_comp (elt : E) (tg : Tg) (it : It) (c : Option E) : ev C (.comp elt tg it c) ρ h = bnd0 (evi C it ρ h) fun src h1 => bnd0 (compSrc (turn tg ρ (evc C c) (ev C elt)) src [] h1) fun acc h2 => some (.l h2.length, h2 ++ [acc]) := by rw [ev]; unfold bnd0; (repeat' split) <;> simp_all
@[simp] theorem evs_nil : evs C [] ρ h = some ([], h) := by rw [evs]
theorem z_evs_cons' (e : E) (es : List E) : evs C (e :: es) ρ h = bnd0 (ev C e ρ h) fun w h1 => bnd0 (evs C es ρ h1) fun ws h2 => some (w :: ws, h2) := by rw [evs]; unfold bnd0; (repeat' split) <;> simp_all
@[simp] theorem evo_none : evo C none ρ h = some (none, h) := by rw [evo]
theorem z_evo_some (e : E) : evo C (some e) ρ h = asI0 (ev C e ρ h) fun k h1 => some (some k, h1) := by rw [evo]; unfold asI0; (repeat' split) <;> simp_all
@[simp] theorem evc_none : evc C none ρ h = some (true, h) := by rw [evc]
theorem z_evc_some (e : E) : evc C (some e) ρ h = asBl0 (ev C e ρ h) fun k h1 => some (k, h1) := by
  rw [evc]; rcases ev C e ρ h with _ | ⟨u, h1⟩
  · rfl
  · rcases u with d | a
    · cases d <;> rfl
    · rfl
/-- a range's end, as a thing that the kernel does not look into -/
def inR (n : Int) : Prop := -(2 ^ 62) ≤ n ∧ n < 2 ^ 62
noncomputable instance (n : Int) : Decidable (inR n) := Classical.propDecidable _
theorem inR_of {n : Int} (h1 : -1000000000 ≤ n) (h2 : n ≤ 1000000000) : inR n := by
  have e : (2 : Int) ^ 62 = 4611686018427387904 := by decide
  unfold inR
  rw [e]
  omega
@[simp] theorem inR_0 : inR 0 := inR_of (by decide) (by decide)
@[simp] theorem inR_1 : inR 1 := inR_of (by decide) (by decide)
@[simp] theorem inR_2 : inR 2 := inR_of (by decide) (by decide)
@[simp] theorem inR_3 : inR 3 := inR_of (by decide) (by decide)
@[simp] theorem inR_4 : inR 4 := inR_of (by decide) (by decide)
@[simp] theorem inR_320 : inR 320 := inR_of (by decide) (by decide)
theorem z_evi_r1' (x : E) : evi C (.r1 x) ρ h = asI0 (ev C x ρ h) fun n h1 => if inR n then some (.its (range 0 n), h1) else none := by
  rw [evi]
  rcases ev C x ρ h with _ | ⟨u, h1⟩
  · rfl
  · rcases u with d | a
    · cases d <;> first | rfl | skip
      rename_i n
      rw [asI0_i]
      by_cases hn : inR n
      · rw [if_pos hn]; exact if_pos hn
      · rw [if_neg hn]; exact if_neg hn
    · rfl
theorem z_evi_r2' (x y : E) : evi C (.r2 x y) ρ h = asI0 (ev C x ρ h) fun a h1 => asI0 (ev C y ρ h1) fun n h2 => if inR a then (if inR n then some (.its (range a n), h2) else none) else none := by
  rw [evi]
  rcases ev C x ρ h with _ | ⟨u, h1⟩
  · rfl
  · rcases u with d | a
    · cases d <;> first | rfl | skip
      rename_i m
      rw [asI0_i]
      dsimp only
      rcases ev C y ρ h1 with _ | ⟨u, h2⟩
      · rfl
      · rcases u with d | a
        · cases d <;> first | rfl | skip
          rename_i n
          rw [asI0_i]
          by_cases hm : inR m
          · rw [if_pos hm]
            by_cases hn : inR n
            · rw [if_pos hn]; exact if_pos ⟨hm.1, hm.2, hn.1, hn.2⟩
            · rw [if_neg hn]; exact if_neg (fun h => hn ⟨h.2.2.1, h.2.2.2⟩)
          · rw [if_neg hm]; exact if_neg (fun h => hm ⟨h.1, h.2.1⟩)
        · rfl
    · rfl
theorem z_evi_sq' (x : E) : evi C (.sq x) ρ h = bnd0 (ev C x ρ h) fun u h1 => (srcOf h1 u).map fun s => (s, h1) := by
  rw [evi]; rcases ev C x ρ h with _ | ⟨u, h1⟩
  · rfl
  · dsimp only [bnd0]; cases srcOf h1 u <;> rfl
theorem z_ex_asg (tg : Tg) (e : E) : exec C (.asg tg e) ρ h = bnd0 (ev C e ρ h) fun w h1 => (setT tg w ρ).map fun ρ' => (.nxt, ρ', h1) := by
  rw [exec]; rcases ev C e ρ h with _ | ⟨u, h1⟩
  · rfl
  · dsimp only [bnd0]; cases setT tg u ρ <;> rfl
theorem z_ex_par (i j : Nat) (x y : E) : exec C (.par i j x y) ρ h = bnd0 (ev C x ρ h) fun u h1 => bnd0 (ev C y ρ h1) fun w h2 => some (.nxt, (ρ.set i (some u)).set j (some w), h2) := by rw [exec]; unfold bnd0; (repeat' split) <;> simp_all
theorem z_ex_setix (o i e : E) : exec C (.setix o i e) ρ h = bnd0 (ev C e ρ h) fun w h1 => bnd0 (ev C o ρ h1) fun u h2 => bnd0 (ev C i ρ h2) fun k h3 => (setAt h3 u k w).map fun h4 => (.nxt, ρ, h4) := by
  rw [exec]; rcases ev C e ρ h with _ | ⟨w, h1⟩
  · rfl
  · dsimp only [bnd0]; rcases ev C o ρ h1 with _ | ⟨u, h2⟩
    · rfl
    · dsimp only; rcases ev C i ρ h2 with _ | ⟨k, h3⟩
      · rfl
      · dsimp only; cases setAt h3 u k w <;> rfl
theorem z_ex_aug (op : BOp) (i : Nat) (e : E) : exec C (.aug op i e) ρ h = (match ρ[i]? with
    | some (some u) => bnd0 (ev C e ρ h) fun w h1 => bnd0 (augop h1 op u w) fun v h2 => some (.nxt, ρ.set i (some v), h2)
    | _ => none) := by rw [exec]; (repeat' split) <;> simp_all
theorem z_ex_ife (c : E) (x y : List S) : exec C (.ife c x y) ρ h = cnd0 (ev C c ρ h) (fun h1 => execs C x ρ h1) (fun h1 => execs C y ρ h1) := by rw [exec]; unfold cnd0; (repeat' split) <;> simp_all
def fb (C : Ctx) (tg : Tg) (body : List S) : W → Env → LH → Option (Fl × Env × LH) := fun x ρ h => match setT tg x ρ with
  | some ρ' => execs C body ρ' h
  | none => none
theorem z_ex_for (tg : Tg) (it : It) (body : List S) : exec C (.for tg it body) ρ h = bnd0 (evi C it ρ h) fun src h1 => forSrc (fb C tg body) src ρ h1 := by rw [exec]; rcases evi C it ρ h with _ | ⟨u, h1⟩ <;> rfl
def wc (C : Ctx) (c : E) : Env → LH → Option (Bool × LH) := fun ρ h => asB (ev C c ρ h)
@[simp] theorem ex_whl (c : E) (body : List S) : exec C (.whl c body) ρ h = whileF (wc C c) (execs C body) C.wf ρ h := by rw [exec]; rfl
theorem z_ex_ret (e : E) : exec C (.ret e) ρ h = bnd0 (ev C e ρ h) fun w h1 => some (.ret w, ρ, h1) := by rw [exec]; unfold bnd0; (repeat' split) <;> simp_all
@[simp] theorem ex_retN : exec C .retN ρ h = some (.ret (.d .none), ρ, h) := by rw [exec]
theorem z_ex_ex (e : E) : exec C (.ex e) ρ h = bnd0 (ev C e ρ h) fun _ h1 => some (.nxt, ρ, h1) := by rw [exec]; unfold bnd0; (repeat' split) <;> simp_all
@[simp] theorem ex_brk : exec C .brk ρ h = some (.brk, ρ, h) := by rw [exec]
@[simp] theorem ex_cnt : exec C .cnt ρ h = some (.cnt, ρ, h) := by rw [exec]
@[simp] theorem ex_pass : exec C .pass ρ h = some (.nxt, ρ, h) := by rw [exec]
@[simp] theorem exs_nil : execs C [] ρ h = some (.nxt, ρ, h) := by rw [execs]
theorem z_exs_cons (s : S) (r : List S) : execs C (s :: r) ρ h = seqF0 (exec C s ρ h) fun ρ' h' => execs C r ρ' h' := by
  rw [execs]; unfold seqF0; split <;> simp_all
@[simp] theorem asB_b (b : Bool) : asB (some (.d (.b b), h)) = some (b, h) := (rfl)
@[simp] theorem setT_n (i : Nat) (w : W) : setT (.n i) w ρ = some (ρ.set i (some w)) := (rfl)
@[simp] theorem setT_t (is : List Nat) (xs : List D) : setT (.t is) (.d (.t xs)) ρ = if xs.length = is.length then some (setMany is xs ρ) else none := (rfl)
@[simp] theorem setMany_nil (xs : List D) : setMany [] xs ρ = ρ := by cases xs <;> rfl
@[simp] theorem setMany_cons (i : Nat) (is : List Nat) (x : D) (xs : List D) : setMany (i :: is) (x :: xs) ρ = setMany is xs (ρ.set i (some (.d x))) := (rfl)
@[simp] theorem wipe_nil : wipe ρ [] = ρ := (rfl)
@[simp] theorem wipe_cons (i : Nat) (r : List Nat) : wipe ρ (i :: r) = (wipe ρ r).set i none := (rfl)
@[simp] theorem slots_n (i : Nat) : (Tg.n i).slots = [i] := (rfl)
@[simp] theorem slots_t (is : List Nat) : (Tg.t is).slots = is := (rfl)
/-! ### values -/
@[simp] theorem items_t (xs : List D) : items h (.d (.t xs)) = some (xs.map .d) := (rfl)
@[simp] theorem items_fl (xs : List D) : items h (.d (.fl xs)) = some (xs.map .d) := (rfl)
@[simp] theorem items_l (a : Nat) : items h (.l a) = h[a]? := (rfl)
@[simp] theorem srcOf_t (xs : List D) : srcOf h (.d (.t xs)) = some (.its (xs.map .d)) := (rfl)
@[simp] theorem srcOf_fl (xs : List D) : srcOf h (.d (.fl xs)) = some (.its (xs.map .d)) := (rfl)
@[simp] theorem srcOf_l (a : Nat) : srcOf h (.l a) = (h[a]?).map fun ws => .live a ws.length := by
  show (match h[a]? with | some ws => some (Src.live a ws.length) | none => none) = _
  cases h[a]? <;> rfl
@[simp] theorem allD_map' (xs : List D) : allD (xs.map .d) = some xs := by
  induction xs with
  | nil => rfl
  | cons x r ih => rw [List.map_cons, allD, ih]
@[simp] theorem allD_nil : allD [] = some [] := (rfl)
@[simp] theorem allD_cons (x : D) (r : List W) : allD (.d x :: r) = (allD r).map (x :: ·) := by
  rw [allD]; cases allD r <;> rfl
@[simp] theorem mkT_eq (ws : List W) : mkT h ws = (allD ws).bind fun xs => if xs.length ≤ SZ then some (.d (.t xs), h) else none := by
  unfold mkT; cases allD ws <;> rfl
@[simp] theorem new_eq (ws : List W) : new h ws = if ws.length ≤ SZ then some (.l h.length, h ++ [ws]) else none := (rfl)
@[simp] theorem index_eq (x : W) (i : Int) : index h x (.d (.i i)) = (items h x).bind fun ws => (ixN ws.length i).bind fun k => (ws[k]?).map fun w => (w, h) := by
  unfold index
  cases items h x with
  | none => rfl
  | some ws =>
    dsimp only [Option.bind_some]
    cases ixN ws.length i with
    | none => rfl
    | some k => dsimp only [Option.bind_some]; cases ws[k]? <;> rfl
@[simp] theorem len_t (xs : List D) : builtin h .len [.d (.t xs)] = some (.d (.i xs.length), h) := by
  unfold builtin; simp
@[simp] theorem len_fl (xs : List D) : builtin h .len [.d (.fl xs)] = some (.d (.i xs.length), h) := by
  unfold builtin; simp
@[simp] theorem len_l (a : Nat) : builtin h .len [.l a] = (h[a]?).map fun ws => (.d (.i ws.length), h) := by
  unfold builtin; simp; cases h[a]? <;> rfl
@[simp] theorem tuple_eq (x : W) : builtin h .tuple [x] = (items h x).bind fun ws => mkT h ws := by
  rcases x with d | a
  · cases d <;> (unfold builtin; dsimp only; rcases items h _ with _ | ws <;> rfl)
  · unfold builtin; dsimp only; rcases items h _ with _ | ws <;> rfl
@[simp] theorem list_eq (x : W) : builtin h .list [x] = (items h x).bind fun ws => new h ws := by
  rcases x with d | a
  · cases d <;> (unfold builtin; dsimp only; rcases items h _ with _ | ws <;> rfl)
  · unfold builtin; dsimp only; rcases items h _ with _ | ws <;> rfl
@[simp] theorem isInt_eq (x : W) : builtin h .isInt [x] = some (.d (.b (isIntW x)), h) := (rfl)
@[simp] theorem isBool_eq (x : W) : builtin h .isBool [x] = some (.d (.b (isBoolW x)), h) := (rfl)
@[simp] theorem isStr_eq (x : W) : builtin h .isStr [x] = some (.d (.b (isStrW x)), h) := (rfl)
@[simp] theorem isTuple_eq (x : W) : builtin h .isTuple [x] = some (.d (.b (isTupleW x)), h) := (rfl)
@[simp] theorem int_i (x : Int) : builtin h .int [.d (.i x)] = some (.d (.i x), h) := (rfl)
@[simp] theorem int_b (x : Bool) : builtin h .int [.d (.b x)] = some (.d (.i (if x then 1 else 0)), h) := (rfl)
theorem bools_bs (bs : List Bool) : bools (bs.map fun b => .d (.b b)) = some bs := by
  induction bs with
  | nil => rfl
  | cons x r ih => rw [List.map_cons, bools, ih]
@[simp] theorem all_l (a : Nat) : builtin h .all [.l a] = (h[a]?).bind fun ws => (bools ws).map fun bs => (.d (.b (bs.all id)), h) := by
  unfold builtin bl; dsimp only; cases h[a]? with
  | none => rfl
  | some ws => dsimp only [Option.bind_some]; cases bools ws <;> rfl
@[simp] theorem any_l (a : Nat) : builtin h .any [.l a] = (h[a]?).bind fun ws => (bools ws).map fun bs => (.d (.b (bs.any id)), h) := by
  unfold builtin bl; dsimp only; cases h[a]? with
  | none => rfl
  | some ws => dsimp only [Option.bind_some]; cases bools ws <;> rfl
@[simp] theorem isIntW_i (x : Int) : isIntW (.d (.i x)) = true := (rfl)
@[simp] theorem isIntW_b (x : Bool) : isIntW (.d (.b x)) = true := (rfl)
@[simp] theorem isIntW_s (x : String) : isIntW (.d (.s x)) = false := (rfl)
@[simp] theorem isIntW_t (x : List D) : isIntW (.d (.t x)) = false := (rfl)
@[simp] theorem isIntW_n : isIntW (.d .none) = false := (rfl)
@[simp] theorem isBoolW_i (x : Int) : isBoolW (.d (.i x)) = false := (rfl)
@[simp] theorem isBoolW_b (x : Bool) : isBoolW (.d (.b x)) = true := (rfl)
@[simp] theorem isBoolW_s (x : String) : isBoolW (.d (.s x)) = false := (rfl)
@[simp] theorem isBoolW_t (x : List D) : isBoolW (.d (.t x)) = false := (rfl)
@[simp] theorem isBoolW_n : isBoolW (.d .none) = false := (rfl)
@[simp] theorem isStrW_i (x : Int) : isStrW (.d (.i x)) = false := (rfl)
@[simp] theorem isStrW_b (x : Bool) : isStrW (.d (.b x)) = false := (rfl)
@[simp] theorem isStrW_s (x : String) : isStrW (.d (.s x)) = true := (rfl)
@[simp] theorem isStrW_t (x : List D) : isStrW (.d (.t x)) = false := (rfl)
@[simp] theorem isStrW_n : isStrW (.d .none) = false := (rfl)
@[simp] theorem isTupleW_i (x : Int) : isTupleW (.d (.i x)) = false := (rfl)
@[simp] theorem isTupleW_b (x : Bool) : isTupleW (.d (.b x)) = false := (rfl)
@[simp] theorem isTupleW_s (x : String) : isTupleW (.d (.s x)) = false := (rfl)
@[simp] theorem isTupleW_t (x : List D) : isTupleW (.d (.t x)) = true := (rfl)
@[simp] theorem isTupleW_n : isTupleW (.d .none) = false := (rfl)
@[simp] theorem lt_i (x y : Int) : cmpop h .lt (.d (.i x)) (.d (.i y)) = some (decide (x < y)) := (rfl)
@[simp] theorem le_i (x y : Int) : cmpop h .le (.d (.i x)) (.d (.i y)) = some (decide (x ≤ y)) := (rfl)
@[simp] theorem gt_i (x y : Int) : cmpop h .gt (.d (.i x)) (.d (.i y)) = some (decide (y < x)) := (rfl)
@[simp] theorem ge_i (x y : Int) : cmpop h .ge (.d (.i x)) (.d (.i y)) = some (decide (y ≤ x)) := (rfl)
theorem eq_d (x y : D) (hd : min (depth x) (depth y) ≤ 64) : cmpop h .eq (.d x) (.d y) = some (eqv x y) := by
  show eqW h (.d x) (.d y) = _
  unfold eqW; exact if_pos hd
theorem ne_d (x y : D) (hd : min (depth x) (depth y) ≤ 64) : cmpop h .ne (.d x) (.d y) = some (!eqv x y) := by
  show (eqW h (.d x) (.d y)).map (!·) = _
  unfold eqW; dsimp only; rw [if_pos hd]; rfl
@[simp] theorem depth_i (x : Int) : depth (.i x) = 0 := by simp [depth]
@[simp] theorem depth_b (x : Bool) : depth (.b x) = 0 := by simp [depth]
@[simp] theorem depth_none : depth .none = 0 := by simp [depth]
@[simp] theorem depth_s (x : String) : depth (.s x) = 0 := by simp [depth]
@[simp] theorem depth_t (x : List D) : depth (.t x) = depthL x + 1 := by simp [depth]
@[simp] theorem depthL_nil : depthL [] = 0 := by simp [depthL]
@[simp] theorem depthL_cons (x : D) (r : List D) : depthL (x :: r) = max (depth x) (depthL r) := by simp [depthL]
@[simp] theorem eq_dr (x y : D) (hd : depth y ≤ 64) : cmpop h .eq (.d x) (.d y) = some (eqv x y) := eq_d h x y (by omega)
theorem eq_dl (x y : D) (hd : depth x ≤ 64) : cmpop h .eq (.d x) (.d y) = some (eqv x y) := eq_d h x y (by omega)
@[simp] theorem ne_dr (x y : D) (hd : depth y ≤ 64) : cmpop h .ne (.d x) (.d y) = some (!eqv x y) := ne_d h x y (by omega)
theorem ne_dl (x y : D) (hd : depth x ≤ 64) : cmpop h .ne (.d x) (.d y) = some (!eqv x y) := ne_d h x y (by omega)
@[simp] theorem eq_rs (x : D) (s : String) : cmpop h .eq (.d x) (.d (.s s)) = some (eqv x (.s s)) := eq_d h x _ (by simp [depth])
@[simp] theorem ne_rs (x : D) (s : String) : cmpop h .ne (.d x) (.d (.s s)) = some (!eqv x (.s s)) := ne_d h x _ (by simp [depth])
@[simp] theorem eq_ri (x : D) (s : Int) : cmpop h .eq (.d x) (.d (.i s)) = some (eqv x (.i s)) := eq_d h x _ (by simp [depth])
@[simp] theorem ne_ri (x : D) (s : Int) : cmpop h .ne (.d x) (.d (.i s)) = some (!eqv x (.i s)) := ne_d h x _ (by simp [depth])
@[simp] theorem eqv_ss (x y : String) : eqv (.s x) (.s y) = (x == y) := by simp [eqv]
@[simp] theorem eqv_ii (x y : Int) : eqv (.i x) (.i y) = (x == y) := by simp [eqv]
@[simp] theorem eqv_bb (x y : Bool) : eqv (.b x) (.b y) = (x == y) := by simp [eqv]
@[simp] theorem eqv_si (x : String) (y : Int) : eqv (.s x) (.i y) = false := by simp [eqv]
@[simp] theorem eqv_is (x : Int) (y : String) : eqv (.i x) (.s y) = false := by simp [eqv]
@[simp] theorem eqv_ti (x : List D) (y : Int) : eqv (.t x) (.i y) = false := by simp [eqv]
@[simp] theorem eqv_it (x : Int) (y : List D) : eqv (.i x) (.t y) = false := by simp [eqv]
@[simp] theorem eqv_ts (x : List D) (y : String) : eqv (.t x) (.s y) = false := by simp [eqv]
@[simp] theorem eqv_st (x : String) (y : List D) : eqv (.s x) (.t y) = false := by simp [eqv]
@[simp] theorem eqv_tt (x y : List D) : eqv (.t x) (.t y) = eqvL x y := by simp [eqv]
@[simp] theorem eqv_nt (y : List D) : eqv .none (.t y) = false := by simp [eqv]
@[simp] theorem eqv_ni (y : Int) : eqv .none (.i y) = false := by simp [eqv]
@[simp] theorem eqv_ns (y : String) : eqv .none (.s y) = false := by simp [eqv]
@[simp] theorem eqv_nn : eqv .none .none = true := by simp [eqv]
@[simp] theorem eqvL_nil : eqvL [] [] = true := by simp [eqvL]
@[simp] theorem eqvL_cons (x y : D) (xs ys : List D) : eqvL (x :: xs) (y :: ys) = (eqv x y && eqvL xs ys) := by simp [eqvL]
@[simp] theorem eqvL_nc (y : D) (ys : List D) : eqvL [] (y :: ys) = false := by simp [eqvL]
@[simp] theorem eqvL_cn (y : D) (ys : List D) : eqvL (y :: ys) [] = false := by simp [eqvL]
@[simp] theorem add_ii (x y : Int) : binop h .add (.d (.i x)) (.d (.i y)) = some (.d (.i (x + y)), h) := (rfl)
@[simp] theorem sub_ii (x y : Int) : binop h .sub (.d (.i x)) (.d (.i y)) = some (.d (.i (x - y)), h) := (rfl)
@[simp] theorem add_tt (x y : List D) : binop h .add (.d (.t x)) (.d (.t y)) = if x.length + y.length ≤ SZ then some (.d (.t (x ++ y)), h) else none := (rfl)
@[simp] theorem add_ll (a c : Nat) : binop h .add (.l a) (.l c) = (h[a]?).bind fun xs => (h[c]?).bind fun ys => if xs.length + ys.length ≤ SZ then some (.l h.length, h ++ [xs ++ ys]) else none := by
  unfold binop; dsimp only; cases h[a]? <;> cases h[c]? <;> rfl
@[simp] theorem mod_ii (x y : Int) : binop h .mod (.d (.i x)) (.d (.i y)) = if 0 < y then some (.d (.i (x % y)), h) else none := (rfl)
@[simp] theorem slice_t (xs : List D) (lo hi : Option Int) : slice h (.d (.t xs)) lo hi = some (.d (.t (cutL xs lo hi)), h) := (rfl)
@[simp] theorem cutL_1 (x : D) (xs : List D) : cutL (x :: xs) (some 1) none = xs := by
  unfold cutL cutAt
  simp only [List.length_cons]
  have : min (Int.toNat 1) (xs.length + 1) = 1 := by simp
  simp
@[simp] theorem cutL_2 {α : Type} (x y : α) (xs : List α) : cutL (x :: y :: xs) (some 2) none = xs := by
  unfold cutL cutAt
  simp only [List.length_cons]
  have : min (Int.toNat 2) (xs.length + 1 + 1) = 2 := by simp
  simp
theorem ixN_nat (n k : Nat) (hk : k < n) : ixN n (k : Int) = some k := by
  unfold ixN; rw [if_pos (by omega), if_pos (by omega)]; simp
@[simp] theorem ixN_0 (n : Nat) : ixN (n + 1) 0 = some 0 := by unfold ixN; rw [if_pos (by omega), if_pos (by omega)]; rfl
@[simp] theorem ixN_1 (n : Nat) : ixN (n + 2) 1 = some 1 := by unfold ixN; rw [if_pos (by omega), if_pos (by omega)]; rfl
@[simp] theorem ixN_2 (n : Nat) : ixN (n + 3) 2 = some 2 := by unfold ixN; rw [if_pos (by omega), if_pos (by omega)]; rfl
@[simp] theorem ixN_3 (n : Nat) : ixN (n + 4) 3 = some 3 := by unfold ixN; rw [if_pos (by omega), if_pos (by omega)]; rfl
/-! ### loops over items that change nothing -/
theorem compItems_map {f : W → List W → LH → Option (List W × LH)} {g : W → W} {h : LH} : ∀ {xs acc : List W}, (∀ x ∈ xs, ∀ acc, acc.length < SZ → f x acc h = some (acc ++ [g x], h)) → acc.length + xs.length ≤ SZ → compItems f xs acc h = some (acc ++ xs.map g, h)
  | [], acc, _, _ => by simp [compItems]
  | x :: xs, acc, hf, hl => by
    unfold compItems
    simp only [List.length_cons] at hl
    rw [hf x List.mem_cons_self acc (by omega)]
    dsimp only
    rw [compItems_map (fun y hy => hf y (List.mem_cons_of_mem _ hy)) (by simp; omega)]
    simp
theorem forLive_items {f : W → Env → LH → Option (Fl × Env × LH)} {a : Nat} {ws : List W} (I : Env → LH → Prop) (hI : ∀ ρ h, I ρ h → h[a]? = some ws) (hf : ∀ x ∈ ws, ∀ ρ h, I ρ h → ∀ F ρ' h', f x ρ h = some (F, ρ', h') → I ρ' h') : ∀ (n i : Nat) (ρ : Env) (h : LH), ws.length - i < n → I ρ h → forLive f a n i ρ h = forItems f (ws.drop i) ρ h
  | 0, i, ρ, h, hn, _ => by omega
  | n + 1, i, ρ, h, hn, hi => by
    unfold forLive
    rw [hI ρ h hi]
    dsimp only
    cases hw : ws[i]? with
    | none =>
      rw [List.getElem?_eq_none_iff] at hw
      rw [List.drop_of_length_le hw]; rfl
    | some x =>
      obtain ⟨hlt, hx⟩ := List.getElem?_eq_some_iff.1 hw
      rw [List.drop_eq_getElem_cons hlt, hx]
      unfold forItems
      dsimp only
      cases hfx : f x ρ h with
      | none => rfl
      | some z =>
        obtain ⟨F, ρ', h'⟩ := z
        have hm : x ∈ ws := by rw [← hx]; exact List.getElem_mem hlt
        have h2 := forLive_items I hI hf n (i + 1) ρ' h' (by omega) (hf x hm ρ h hi F ρ' h' hfx)
        cases F <;> simp only [h2]
@[simp] theorem compSrc_live (f) (a n : Nat) : compSrc f (.live a n) = fun acc h => compLive f a (n + 1) 0 acc h := by rfl
@[simp] theorem get_app (h x : LH) : (h ++ x)[h.length]? = x[0]? := by rw [List.getElem?_append_right (Nat.le_refl _)]; simp
@[simp] theorem get_appk (h x : LH) (k : Nat) : (h ++ x)[h.length + k]? = x[k]? := by rw [List.getElem?_append_right (by omega)]; simp
@[simp] theorem set_app (h x : LH) (y : List W) : (h ++ x).set h.length y = h ++ x.set 0 y := by rw [List.set_append_right _ _ (Nat.le_refl _)]; simp
@[simp] theorem set_appk (h x : LH) (k : Nat) (y : List W) : (h ++ x).set (h.length + k) y = h ++ x.set k y := by rw [List.set_append_right _ _ (by omega)]; simp
theorem get_appl {h x : LH} {a : Nat} {ws : List W} (e : h[a]? = some ws) : (h ++ x)[a]? = some ws := by
  obtain ⟨h1, h2⟩ := List.getElem?_eq_some_iff.1 e
  rw [List.getElem?_append_left h1, e]
theorem set_appl {h x : LH} {a : Nat} (y : List W) (e : a < h.length) : (h ++ x).set a y = h.set a y ++ x := List.set_append_left _ _ e
@[simp] theorem okIn_d (a : Nat) (x : D) : okIn a (.d x) = true := (rfl)
theorem okAll_d (a : Nat) (xs : List D) : okAll a (xs.map .d) = true := by
  induction xs with
  | nil => rfl
  | cons x r ih => rw [List.map_cons, okAll, ih]; rfl
@[simp] theorem app_l (a : Nat) (w : W) : method h .append (.l a) [w] = (h[a]?).bind fun ws => if okIn a w = true ∧ ws.length < SZ then some (.d .none, h.set a (ws ++ [w])) else none := by
  unfold method; dsimp only; cases h[a]? <;> rfl
@[simp] theorem ext_l (a c : Nat) : method h .extend (.l a) [.l c] = (h[a]?).bind fun ws => (h[c]?).bind fun us => if okAll a us = true ∧ ws.length + us.length ≤ SZ then some (.d .none, h.set a (ws ++ us)) else none := by
  unfold method; dsimp only; cases h[a]? <;> cases h[c]? <;> rfl
@[simp] theorem pop_l (a : Nat) : method h .pop (.l a) [] = (h[a]?).bind fun ws => (ws.getLast?).map fun w => (w, h.set a ws.dropLast) := by
  unfold method; dsimp only; cases h[a]? with
  | none => rfl
  | some ws => dsimp only [Option.bind_some]; cases ws.getLast? <;> rfl
theorem z_turn_n (C : Ctx) (i : Nat) (ρ : Env) (e : E) (x : W) (acc : List W) (h : LH) : turn (.n i) ρ (evc C none) (ev C e) x acc h = bnd0 (ev C e (ρ.set i (some x)) h) fun w h2 => if acc.length < SZ then some (acc ++ [w], h2) else none := by
  unfold turn
  simp only [setT_n, slots_n, wipe_cons, wipe_nil, evc_none, List.set_set]
  rcases ev C e (ρ.set i (some x)) h with _ | ⟨w, h2⟩ <;> rfl
theorem comp_n {C : Ctx} {e : E} {i : Nat} {ρ : Env} {xs : List D} {h : LH} (g : D → W) (hx : ∀ x ∈ xs, ev C e (ρ.set i (some (.d x))) h = some (g x, h)) (hl : xs.length ≤ SZ) : compItems (turn (.n i) ρ (evc C none) (ev C e)) (xs.map .d) [] h = some (xs.map g, h) := by
  have := compItems_map (f := turn (.n i) ρ (evc C none) (ev C e)) (g := fun w => match w with | .d x => g x | w => w) (h := h) (xs := xs.map .d) (acc := []) (by
    intro x hx' acc hacc
    obtain ⟨y, hy, rfl⟩ := List.mem_map.1 hx'
    rw [z_turn_n, hx y hy, bnd0_some, if_pos hacc]) (by simpa using hl)
  rw [this]; simp
@[simp] theorem bools_g {γ : Type} (b : γ → Bool) (xs : List γ) : bools (xs.map fun x => .d (.b (b x))) = some (xs.map b) := by
  induction xs with
  | nil => rfl
  | cons x r ih => rw [List.map_cons, bools, ih]; rfl
@[simp] theorem allD_g {γ : Type} (b : γ → D) (xs : List γ) : allD (xs.map fun x => .d (b x)) = some (xs.map b) := by
  induction xs with
  | nil => rfl
  | cons x r ih => rw [List.map_cons, allD, ih]; rfl
theorem sk {α β : Type} [Inhabited β] {as : List α} {P : α → β → Prop} (h : ∀ a ∈ as, ∃ b, P a b) : ∃ f : α → β, ∀ a ∈ as, P a (f a) := by
  classical
  refine ⟨fun a => if ha : a ∈ as then Classical.choose (h a ha) else default, fun a ha => ?_⟩
  simp only [ha, dif_pos]
  exact Classical.choose_spec (h a ha)
theorem forItems_all {f : W → Env → LH → Option (Fl × Env × LH)} {w : W} {h : LH} (I : Env → Prop) (b : D → Bool) : ∀ {xs : List D}, (∀ x ∈ xs, ∀ ρ, I ρ → ∃ ρ', I ρ' ∧ f (.d x) ρ h = if b x then some (.nxt, ρ', h) else some (.ret w, ρ', h)) → ∀ ρ, I ρ → ∃ ρ', I ρ' ∧ forItems f (xs.map .d) ρ h = if xs.all b then some (.nxt, ρ', h) else some (.ret w, ρ', h)
  | [], _, ρ, hi => ⟨ρ, hi, rfl⟩
  | x :: xs, hf, ρ, hi => by
    obtain ⟨ρ1, h1, e1⟩ := hf x List.mem_cons_self ρ hi
    simp only [List.map_cons, forItems, e1]
    cases hb : b x with
    | false => exact ⟨ρ1, h1, by simp [hb]⟩
    | true =>
      obtain ⟨ρ2, h2, e2⟩ := forItems_all I b (fun y hy => hf y (List.mem_cons_of_mem _ hy)) ρ1 h1
      exact ⟨ρ2, h2, by simp [hb, e2]⟩
@[simp] theorem forSrc_live (f) (a n : Nat) : forSrc f (.live a n) = forLive f a (n + 1) 0 := (rfl)
@[simp] theorem forSrc_its (f) (ws : List W) : forSrc f (.its ws) = forItems f ws := (rfl)
@[simp] theorem compSrc_its (f) (ws : List W) : compSrc f (.its ws) = compItems f ws := (rfl)
@[simp] theorem setAt_l (h : LH) (a : Nat) (i : Int) (w : W) : setAt h (.l a) (.d (.i i)) w = (h[a]?).bind fun ws => (ixN ws.length i).bind fun k => if okIn a w = true then some (h.set a (ws.set k w)) else none := by
  unfold setAt; dsimp only; cases h[a]? with
  | none => rfl
  | some ws => dsimp only [Option.bind_some]; cases ixN ws.length i <;> rfl
@[simp] theorem rev_l (h : LH) (a : Nat) : method h .reverse (.l a) [] = (h[a]?).map fun ws => (.d .none, h.set a ws.reverse) := by
  unfold method; dsimp only; cases h[a]? <;> rfl
@[simp] theorem isin_d (h : LH) (x : D) (ys : List D) : cmpop h .isin (.d x) (.d (.t ys)) = if depth x ≤ 64 then some (ys.any fun z => eqv z x) else none := by
  show inW h (.d x) (.d (.t ys)) = _
  unfold inW
  rw [items_t]
  dsimp only
  rw [allD_map']
@[simp] theorem nin_d (h : LH) (x : D) (ys : List D) : cmpop h .nin (.d x) (.d (.t ys)) = if depth x ≤ 64 then some (!(ys.any fun z => eqv z x)) else none := by
  show (inW h (.d x) (.d (.t ys))).map (!·) = _
  unfold inW
  rw [items_t]
  dsimp only
  rw [allD_map']
  dsimp only
  split <;> rfl
@[simp] theorem revW_l (h : LH) (a : Nat) : revW h (.l a) = (h[a]?).map fun ws => (.l h.length, h ++ [ws.reverse]) := by
  unfold revW; dsimp only; cases h[a]? <;> rfl
@[simp] theorem get_sapp (h K : LH) (a : Nat) (x : List W) : (h.set a x ++ K)[h.length]? = K[0]? := by
  rw [List.getElem?_append_right (by simp)]; simp
@[simp] theorem get_sappk (h K : LH) (a k : Nat) (x : List W) : (h.set a x ++ K)[h.length + k]? = K[k]? := by
  rw [List.getElem?_append_right (by simp)]; simp
@[simp] theorem set_sapp (h K : LH) (a : Nat) (x y : List W) : (h.set a x ++ K).set h.length y = h.set a x ++ K.set 0 y := by
  rw [List.set_append_right _ _ (by simp)]; simp
@[simp] theorem set_sappk (h K : LH) (a k : Nat) (x y : List W) : (h.set a x ++ K).set (h.length + k) y = h.set a x ++ K.set k y := by
  rw [List.set_append_right _ _ (by simp)]; simp
@[simp] theorem mul_l (h : LH) (a : Nat) (n : Int) : binop h .mul (.l a) (.d (.i n)) = (h[a]?).bind fun xs => if xs.length * n.toNat ≤ SZ ∧ -SZ ≤ n ∧ n ≤ SZ then some (.l h.length, h ++ [rep xs n.toNat]) else none := by
  unfold binop; dsimp only; cases h[a]? <;> rfl
@[simp] theorem mul_t (h : LH) (xs : List D) (n : Int) : binop h .mul (.d (.t xs)) (.d (.i n)) = if xs.length ≤ 1000 ∧ 1 ≤ n ∧ n ≤ 1000 then some (.d (.t (rep xs n.toNat)), h) else none := (rfl)
theorem mul_ii (h : LH) (x y : Int) (hb : (-18446744073709551616 < x ∧ x < 18446744073709551616) ∨ (-18446744073709551616 < y ∧ y < 18446744073709551616)) : binop h .mul (.d (.i x)) (.d (.i y)) = some (.d (.i (x * y)), h) := by
  have e : (2 : Int) ^ 64 = 18446744073709551616 := by decide
  unfold binop
  dsimp only
  rw [e, if_pos hb]
theorem fdiv_ii (h : LH) (x y : Int) (h1 : 0 < y) (h2 : y < 1073741824) : binop h .fdiv (.d (.i x)) (.d (.i y)) = some (.d (.i (x / y)), h) := by
  unfold binop
  dsimp only
  rw [if_pos ⟨h1, h2⟩]
theorem pow_18 (h : LH) : binop h .pow (.d (.i 10)) (.d (.i 18)) = some (.d (.i 1000000000000000000), h) := by
  unfold binop
  dsimp only
  rw [if_pos (by decide)]
  rfl
theorem pow_60 (h : LH) : binop h .pow (.d (.i 10)) (.d (.i 60)) = some (.d (.i (10 ^ 60)), h) := by
  unfold binop
  dsimp only
  rw [if_pos (by decide)]
  rfl
theorem ixN_mod (n k : Nat) (h : 1 ≤ n) : ixN n ((k : Int) % (n : Int)) = some (k % n) := by
  have : (k : Int) % (n : Int) = ((k % n : Nat) : Int) := by omega
  rw [this, ixN_nat _ _ (Nat.mod_lt _ h)]
@[simp] theorem take_set_len (h : LH) (a : Nat) (x : List W) : (h.set a x).take h.length = h.set a x := List.take_of_length_le (by simp)
@[simp] theorem take_set_app (h K : LH) (a : Nat) (x : List W) : (h.set a x ++ K).take h.length = h.set a x := by
  rw [List.take_append_of_le_length (by simp)]; simp
theorem set_self {h : LH} {a : Nat} {x : List W} (e : h[a]? = some x) : h.set a x = h := by
  obtain ⟨h1, h2⟩ := List.getElem?_eq_some_iff.1 e
  rw [← h2]; exact List.set_getElem_self h1
@[simp] theorem SZ_eq : SZ = 16777216 := (rfl)
end J
/-! The evaluator's equations, for simp: what goes on behind is an instance, so that simp leaves it alone. -/
namespace J
variable {α β γ : Type}
class Kn (α β : Type) where
  run : α → β
@[simp] theorem run_mk (f : α → β) (a : α) : @Kn.run α β ⟨f⟩ a = f a := (rfl)
def bnd (r : Option (α × LH)) [f : Kn α (LH → Option β)] : Option β := match r with
  | some (a, h) => f.run a h
  | none => none
def cnd (r : Option (W × LH)) [A : Kn LH (Option α)] [B : Kn LH (Option α)] : Option α := match r with
  | some (.d (.b true), h) => A.run h
  | some (.d (.b false), h) => B.run h
  | _ => none
def asI (r : Option (W × LH)) [f : Kn Int (LH → Option α)] : Option α := match r with
  | some (.d (.i k), h) => f.run k h
  | _ => none
def asBl (r : Option (W × LH)) [f : Kn Bool (LH → Option α)] : Option α := match r with
  | some (.d (.b k), h) => f.run k h
  | _ => none
def asS (r : Option (W × LH)) [f : Kn String (LH → Option α)] : Option α := match r with
  | some (.d (.s k), h) => f.run k h
  | _ => none
def seqF (r : Option (Fl × Env × LH)) [f : Kn Env (LH → Option (Fl × Env × LH))] : Option (Fl × Env × LH) := match r with
  | some (.nxt, ρ, h) => f.run ρ h
  | r => r
theorem bnd_eq (r : Option (α × LH)) (f) : @bnd α β r f = bnd0 r f.run := by rcases r with _ | ⟨a, h⟩ <;> rfl
theorem cnd_eq (r : Option (W × LH)) (A B) : @cnd α r A B = cnd0 r A.run B.run := by
  rcases r with _ | ⟨w, h⟩
  · rfl
  · rcases w with d | a
    · cases d with
      | b k => cases k <;> rfl
      | _ => rfl
    · rfl
theorem asI_eq (r : Option (W × LH)) (f) : @asI α r f = asI0 r f.run := by
  rcases r with _ | ⟨w, h⟩
  · rfl
  · rcases w with d | a
    · cases d <;> rfl
    · rfl
theorem asBl_eq (r : Option (W × LH)) (f) : @asBl α r f = asBl0 r f.run := by
  rcases r with _ | ⟨w, h⟩
  · rfl
  · rcases w with d | a
    · cases d <;> rfl
    · rfl
theorem asS_eq (r : Option (W × LH)) (f) : @asS α r f = asS0 r f.run := by
  rcases r with _ | ⟨w, h⟩
  · rfl
  · rcases w with d | a
    · cases d <;> rfl
    · rfl
theorem seqF_eq (r : Option (Fl × Env × LH)) (f) : @seqF r f = seqF0 r f.run := by
  rcases r with _ | ⟨a, ρ, h⟩
  · rfl
  · cases a <;> rfl
@[simp] theorem bnd_some (a : α) (h : LH) (f) : @bnd α β (some (a, h)) f = f.run a h := (rfl)
@[simp] theorem bnd_none (f) : @bnd α β none f = none := (rfl)
@[simp] theorem bnd_ite (p : Prop) [Decidable p] (x y : Option (α × LH)) (f) : @bnd α β (if p then x else y) f = if p then @bnd α β x f else @bnd α β y f := by split <;> rfl
@[simp] theorem cnd_b (b : Bool) (h : LH) (A B) : @cnd α (some (.d (.b b), h)) A B = if b = true then A.run h else B.run h := by cases b <;> rfl
@[simp] theorem cnd_none (A B) : @cnd α none A B = none := (rfl)
@[simp] theorem cnd_ite (p : Prop) [Decidable p] (x y : Option (W × LH)) (A B) : @cnd α (if p then x else y) A B = if p then @cnd α x A B else @cnd α y A B := by split <;> rfl
@[simp] theorem asI_i (k : Int) (h : LH) (f) : @asI α (some (.d (.i k), h)) f = f.run k h := (rfl)
@[simp] theorem asI_ite (p : Prop) [Decidable p] (x y : Option (W × LH)) (f) : @asI α (if p then x else y) f = if p then @asI α x f else @asI α y f := by split <;> rfl
@[simp] theorem asBl_b (k : Bool) (h : LH) (f) : @asBl α (some (.d (.b k), h)) f = f.run k h := (rfl)
@[simp] theorem asBl_ite (p : Prop) [Decidable p] (x y : Option (W × LH)) (f) : @asBl α (if p then x else y) f = if p then @asBl α x f else @asBl α y f := by split <;> rfl
@[simp] theorem asS_s (k : String) (h : LH) (f) : @asS α (some (.d (.s k), h)) f = f.run k h := (rfl)
@[simp] theorem seqF_nxt (ρ : Env) (h : LH) (f) : @seqF (some (.nxt, ρ, h)) f = f.run ρ h := (rfl)
@[simp] theorem seqF_ret (w : W) (ρ : Env) (h : LH) (f) : @seqF (some (.ret w, ρ, h)) f = some (.ret w, ρ, h) := (rfl)
@[simp] theorem seqF_brk (ρ : Env) (h : LH) (f) : @seqF (some (.brk, ρ, h)) f = some (.brk, ρ, h) := (rfl)
@[simp] theorem seqF_cnt (ρ : Env) (h : LH) (f) : @seqF (some (.cnt, ρ, h)) f = some (.cnt, ρ, h) := (rfl)
@[simp] theorem seqF_none (f) : @seqF none f = none := (rfl)
@[simp] theorem seqF_ite (p : Prop) [Decidable p] (x y : Option (Fl × Env × LH)) (f) : @seqF (if p then x else y) f = if p then @seqF x f else @seqF y f := by split <;> rfl
variable (C : Ctx) (ρ : Env) (h : LH)
@[simp] theorem ev_tup (es : List E) : ev C (.tup es) ρ h = @bnd _ _ (evs C es ρ h) ⟨fun ws h1 => mkT h1 ws⟩ := by
  simp only [bnd_eq, cnd_eq, asI_eq, asBl_eq, asS_eq, seqF_eq]
  first | exact z_ev_tup _ _ _ | exact z_ev_tup _ _ _ _ | exact z_ev_tup _ _ _ _ _ | exact z_ev_tup _ _ _ _ _ _ | exact z_ev_tup _ _ _ _ _ _ _ | exact z_ev_tup _ _ _ _ _ _ _ _
@[simp] theorem ev_lst (es : List E) : ev C (.lst es) ρ h = @bnd _ _ (evs C es ρ h) ⟨fun ws h1 => new h1 ws⟩ := by
  simp only [bnd_eq, cnd_eq, asI_eq, asBl_eq, asS_eq, seqF_eq]
  first | exact z_ev_lst _ _ _ | exact z_ev_lst _ _ _ _ | exact z_ev_lst _ _ _ _ _ | exact z_ev_lst _ _ _ _ _ _ | exact z_ev_lst _ _ _ _ _ _ _ | exact z_ev_lst _ _ _ _ _ _ _ _
@[simp] theorem ev_bin (op : BOp) (x y : E) : ev C (.bin op x y) ρ h = @bnd _ _ (ev C x ρ h) ⟨fun u h1 => @bnd _ _ (ev C y ρ h1) ⟨fun w h2 => binop h2 op u w⟩⟩ := by
  simp only [bnd_eq, cnd_eq, asI_eq, asBl_eq, asS_eq, seqF_eq]
  first | exact z_ev_bin _ _ _ | exact z_ev_bin _ _ _ _ | exact z_ev_bin _ _ _ _ _ | exact z_ev_bin _ _ _ _ _ _ | exact z_ev_bin _ _ _ _ _ _ _ | exact z_ev_bin _ _ _ _ _ _ _ _
@[simp] theorem ev_neg (x : E) : ev C (.neg x) ρ h = @asI _ (ev C x ρ h) ⟨fun k h1 => some (.d (.i (-k)), h1)⟩ := by
  simp only [bnd_eq, cnd_eq, asI_eq, asBl_eq, asS_eq, seqF_eq]
  first | exact z_ev_neg _ _ _ | exact z_ev_neg _ _ _ _ | exact z_ev_neg _ _ _ _ _ | exact z_ev_neg _ _ _ _ _ _ | exact z_ev_neg _ _ _ _ _ _ _ | exact z_ev_neg _ _ _ _ _ _ _ _
@[simp] theorem ev_not (x : E) : ev C (.not x) ρ h = @asBl _ (ev C x ρ h) ⟨fun k h1 => some (.d (.b (!k)), h1)⟩ := by
  simp only [bnd_eq, cnd_eq, asI_eq, asBl_eq, asS_eq, seqF_eq]
  first | exact z_ev_not _ _ _ | exact z_ev_not _ _ _ _ | exact z_ev_not _ _ _ _ _ | exact z_ev_not _ _ _ _ _ _ | exact z_ev_not _ _ _ _ _ _ _ | exact z_ev_not _ _ _ _ _ _ _ _
@[simp] theorem ev_cmp (op : COp) (x y : E) : ev C (.cmp op x y) ρ h = @bnd _ _ (ev C x ρ h) ⟨fun u h1 => @bnd _ _ (ev C y ρ h1) ⟨fun w h2 => (cmpop h2 op u w).map fun k => (.d (.b k), h2)⟩⟩ := by
  simp only [bnd_eq, cnd_eq, asI_eq, asBl_eq, asS_eq, seqF_eq]
  first | exact z_ev_cmp _ _ _ | exact z_ev_cmp _ _ _ _ | exact z_ev_cmp _ _ _ _ _ | exact z_ev_cmp _ _ _ _ _ _ | exact z_ev_cmp _ _ _ _ _ _ _ | exact z_ev_cmp _ _ _ _ _ _ _ _
@[simp] theorem ev_chain (o1 o2 : COp) (x y z : E) : ev C (.chain o1 o2 x y z) ρ h = @bnd _ _ (ev C x ρ h) ⟨fun u h1 => @bnd _ _ (ev C y ρ h1) ⟨fun w h2 => @cnd _ ((cmpop h2 o1 u w).map fun k => (.d (.b k), h2)) ⟨fun h2 => @bnd _ _ (ev C z ρ h2) ⟨fun v h3 => (cmpop h3 o2 w v).map fun k => (.d (.b k), h3)⟩⟩ ⟨fun h2 => some (.d (.b false), h2)⟩⟩⟩ := by
  simp only [bnd_eq, cnd_eq, asI_eq, asBl_eq, asS_eq, seqF_eq]
  first | exact z_ev_chain _ _ _ | exact z_ev_chain _ _ _ _ | exact z_ev_chain _ _ _ _ _ | exact z_ev_chain _ _ _ _ _ _ | exact z_ev_chain _ _ _ _ _ _ _ | exact z_ev_chain _ _ _ _ _ _ _ _
@[simp] theorem ev_isN (x : E) : ev C (.isN x) ρ h = @bnd _ _ (ev C x ρ h) ⟨fun u h1 => some (.d (.b (isNW u)), h1)⟩ := by
  simp only [bnd_eq, cnd_eq, asI_eq, asBl_eq, asS_eq, seqF_eq]
  first | exact z_ev_isN _ _ _ | exact z_ev_isN _ _ _ _ | exact z_ev_isN _ _ _ _ _ | exact z_ev_isN _ _ _ _ _ _ | exact z_ev_isN _ _ _ _ _ _ _ | exact z_ev_isN _ _ _ _ _ _ _ _
@[simp] theorem ev_isNN (x : E) : ev C (.isNN x) ρ h = @bnd _ _ (ev C x ρ h) ⟨fun u h1 => some (.d (.b (!isNW u)), h1)⟩ := by
  simp only [bnd_eq, cnd_eq, asI_eq, asBl_eq, asS_eq, seqF_eq]
  first | exact z_ev_isNN _ _ _ | exact z_ev_isNN _ _ _ _ | exact z_ev_isNN _ _ _ _ _ | exact z_ev_isNN _ _ _ _ _ _ | exact z_ev_isNN _ _ _ _ _ _ _ | exact z_ev_isNN _ _ _ _ _ _ _ _
@[simp] theorem ev_and (x y : E) : ev C (.and x y) ρ h = @cnd _ (ev C x ρ h) ⟨fun h1 => ev C y ρ h1⟩ ⟨fun h1 => some (.d (.b false), h1)⟩ := by
  simp only [bnd_eq, cnd_eq, asI_eq, asBl_eq, asS_eq, seqF_eq]
  first | exact z_ev_and _ _ _ | exact z_ev_and _ _ _ _ | exact z_ev_and _ _ _ _ _ | exact z_ev_and _ _ _ _ _ _ | exact z_ev_and _ _ _ _ _ _ _ | exact z_ev_and _ _ _ _ _ _ _ _
@[simp] theorem ev_or (x y : E) : ev C (.or x y) ρ h = @cnd _ (ev C x ρ h) ⟨fun h1 => some (.d (.b true), h1)⟩ ⟨fun h1 => ev C y ρ h1⟩ := by
  simp only [bnd_eq, cnd_eq, asI_eq, asBl_eq, asS_eq, seqF_eq]
  first | exact z_ev_or _ _ _ | exact z_ev_or _ _ _ _ | exact z_ev_or _ _ _ _ _ | exact z_ev_or _ _ _ _ _ _ | exact z_ev_or _ _ _ _ _ _ _ | exact z_ev_or _ _ _ _ _ _ _ _
@[simp] theorem ev_ite (c x y : E) : ev C (.ite c x y) ρ h = @cnd _ (ev C c ρ h) ⟨fun h1 => ev C x ρ h1⟩ ⟨fun h1 => ev C y ρ h1⟩ := by
  simp only [bnd_eq, cnd_eq, asI_eq, asBl_eq, asS_eq, seqF_eq]
  first | exact z_ev_ite _ _ _ | exact z_ev_ite _ _ _ _ | exact z_ev_ite _ _ _ _ _ | exact z_ev_ite _ _ _ _ _ _ | exact z_ev_ite _ _ _ _ _ _ _ | exact z_ev_ite _ _ _ _ _ _ _ _
@[simp] theorem ev_ix (x i : E) : ev C (.ix x i) ρ h = @bnd _ _ (ev C x ρ h) ⟨fun u h1 => @bnd _ _ (ev C i ρ h1) ⟨fun k h2 => index h2 u k⟩⟩ := by
  simp only [bnd_eq, cnd_eq, asI_eq, asBl_eq, asS_eq, seqF_eq]
  first | exact z_ev_ix _ _ _ | exact z_ev_ix _ _ _ _ | exact z_ev_ix _ _ _ _ _ | exact z_ev_ix _ _ _ _ _ _ | exact z_ev_ix _ _ _ _ _ _ _ | exact z_ev_ix _ _ _ _ _ _ _ _
@[simp] theorem ev_dix (g : Nat) (i : E) : ev C (.dix g i) ρ h = @asS _ (ev C i ρ h) ⟨fun k h1 => (C.T g k).map fun x => (.d x, h1)⟩ := by
  simp only [bnd_eq, cnd_eq, asI_eq, asBl_eq, asS_eq, seqF_eq]
  first | exact z_ev_dix _ _ _ | exact z_ev_dix _ _ _ _ | exact z_ev_dix _ _ _ _ _ | exact z_ev_dix _ _ _ _ _ _ | exact z_ev_dix _ _ _ _ _ _ _ | exact z_ev_dix _ _ _ _ _ _ _ _
@[simp] theorem ev_sl (x : E) (lo hi : Option E) : ev C (.sl x lo hi) ρ h = @bnd _ _ (ev C x ρ h) ⟨fun u h1 => @bnd _ _ (evo C lo ρ h1) ⟨fun a h2 => @bnd _ _ (evo C hi ρ h2) ⟨fun z h3 => slice h3 u a z⟩⟩⟩ := by
  simp only [bnd_eq, cnd_eq, asI_eq, asBl_eq, asS_eq, seqF_eq]
  first | exact z_ev_sl _ _ _ | exact z_ev_sl _ _ _ _ | exact z_ev_sl _ _ _ _ _ | exact z_ev_sl _ _ _ _ _ _ | exact z_ev_sl _ _ _ _ _ _ _ | exact z_ev_sl _ _ _ _ _ _ _ _
@[simp] theorem ev_rev (x : E) : ev C (.rev x) ρ h = @bnd _ _ (ev C x ρ h) ⟨fun u h1 => revW h1 u⟩ := by
  simp only [bnd_eq, cnd_eq, asI_eq, asBl_eq, asS_eq, seqF_eq]
  first | exact z_ev_rev _ _ _ | exact z_ev_rev _ _ _ _ | exact z_ev_rev _ _ _ _ _ | exact z_ev_rev _ _ _ _ _ _ | exact z_ev_rev _ _ _ _ _ _ _ | exact z_ev_rev _ _ _ _ _ _ _ _
@[simp] theorem ev_call (f : Nat) (es : List E) : ev C (.call f es) ρ h = @bnd _ _ (evs C es ρ h) ⟨fun ws h1 => C.cl f ws h1⟩ := by
  simp only [bnd_eq, cnd_eq, asI_eq, asBl_eq, asS_eq, seqF_eq]
  first | exact z_ev_call _ _ _ | exact z_ev_call _ _ _ _ | exact z_ev_call _ _ _ _ _ | exact z_ev_call _ _ _ _ _ _ | exact z_ev_call _ _ _ _ _ _ _ | exact z_ev_call _ _ _ _ _ _ _ _
@[simp] theorem ev_bi (f : Bi) (es : List E) : ev C (.bi f es) ρ h = @bnd _ _ (evs C es ρ h) ⟨fun ws h1 => builtin h1 f ws⟩ := by
  simp only [bnd_eq, cnd_eq, asI_eq, asBl_eq, asS_eq, seqF_eq]
  first | exact z_ev_bi _ _ _ | exact z_ev_bi _ _ _ _ | exact z_ev_bi _ _ _ _ _ | exact z_ev_bi _ _ _ _ _ _ | exact z_ev_bi _ _ _ _ _ _ _ | exact z_ev_bi _ _ _ _ _ _ _ _
@[simp] theorem ev_meth (m : Me) (x : E) (es : List E) : ev C (.meth m x es) ρ h = @bnd _ _ (ev C x ρ h) ⟨fun u h1 => @bnd _ _ (evs C es ρ h1) ⟨fun ws h2 => method h2 m u ws⟩⟩ := by
  simp only [bnd_eq, cnd_eq, asI_eq, asBl_eq, asS_eq, seqF_eq]
  first | exact z_ev_meth _ _ _ | exact z_ev_meth _ _ _ _ | exact z_ev_meth _ _ _ _ _ | exact z_ev_meth _ _ _ _ _ _ | exact z_ev_meth _ _ _ _ _ _ _ | exact z_ev_meth _ _ _ _ _ _ _ _
@[simp] theorem ev_comp (elt : E) (tg : Tg) (it : It) (c : Option E) : ev C (.comp elt tg it c) ρ h = @bnd _ _ (evi C it ρ h) ⟨fun src h1 => @bnd _ _ (compSrc (turn tg ρ (evc C c) (ev C elt)) src [] h1) ⟨fun acc h2 => some (.l h2.length, h2 ++ [acc])⟩⟩ := by
  simp only [bnd_eq, cnd_eq, asI_eq, asBl_eq, asS_eq, seqF_eq]
  first | exact z_ev_comp _ _ _ | exact z_ev_comp _ _ _ _ | exact z_ev_comp _ _ _ _ _ | exact z_ev_comp _ _ _ _ _ _ | exact z_ev_comp _ _ _ _ _ _ _ | exact z_ev_comp _ _ _ _ _ _ _ _
@[simp] theorem evs_cons' (e : E) (es : List E) : evs C (e :: es) ρ h = @bnd _ _ (ev C e ρ h) ⟨fun w h1 => @bnd _ _ (evs C es ρ h1) ⟨fun ws h2 => some (w :: ws, h2)⟩⟩ := by
  simp only [bnd_eq, cnd_eq, asI_eq, asBl_eq, asS_eq, seqF_eq]
  first | exact z_evs_cons' _ _ _ | exact z_evs_cons' _ _ _ _ | exact z_evs_cons' _ _ _ _ _ | exact z_evs_cons' _ _ _ _ _ _ | exact z_evs_cons' _ _ _ _ _ _ _ | exact z_evs_cons' _ _ _ _ _ _ _ _
@[simp] theorem evo_some (e : E) : evo C (some e) ρ h = @asI _ (ev C e ρ h) ⟨fun k h1 => some (some k, h1)⟩ := by
  simp only [bnd_eq, cnd_eq, asI_eq, asBl_eq, asS_eq, seqF_eq]
  first | exact z_evo_some _ _ _ | exact z_evo_some _ _ _ _ | exact z_evo_some _ _ _ _ _ | exact z_evo_some _ _ _ _ _ _ | exact z_evo_some _ _ _ _ _ _ _ | exact z_evo_some _ _ _ _ _ _ _ _
@[simp] theorem evc_some (e : E) : evc C (some e) ρ h = @asBl _ (ev C e ρ h) ⟨fun k h1 => some (k, h1)⟩ := by
  simp only [bnd_eq, cnd_eq, asI_eq, asBl_eq, asS_eq, seqF_eq]
  first | exact z_evc_some _ _ _ | exact z_evc_some _ _ _ _ | exact z_evc_some _ _ _ _ _ | exact z_evc_some _ _ _ _ _ _ | exact z_evc_some _ _ _ _ _ _ _ | exact z_evc_some _ _ _ _ _ _ _ _
@[simp] theorem evi_r1' (x : E) : evi C (.r1 x) ρ h = @asI _ (ev C x ρ h) ⟨fun n h1 => if inR n then some (.its (range 0 n), h1) else none⟩ := by
  simp only [bnd_eq, cnd_eq, asI_eq, asBl_eq, asS_eq, seqF_eq]
  first | exact z_evi_r1' _ _ _ | exact z_evi_r1' _ _ _ _ | exact z_evi_r1' _ _ _ _ _ | exact z_evi_r1' _ _ _ _ _ _ | exact z_evi_r1' _ _ _ _ _ _ _ | exact z_evi_r1' _ _ _ _ _ _ _ _
@[simp] theorem evi_r2' (x y : E) : evi C (.r2 x y) ρ h = @asI _ (ev C x ρ h) ⟨fun a h1 => @asI _ (ev C y ρ h1) ⟨fun n h2 => if inR a then (if inR n then some (.its (range a n), h2) else none) else none⟩⟩ := by
  simp only [bnd_eq, cnd_eq, asI_eq, asBl_eq, asS_eq, seqF_eq]
  first | exact z_evi_r2' _ _ _ | exact z_evi_r2' _ _ _ _ | exact z_evi_r2' _ _ _ _ _ | exact z_evi_r2' _ _ _ _ _ _ | exact z_evi_r2' _ _ _ _ _ _ _ | exact z_evi_r2' _ _ _ _ _ _ _ _
@[simp] theorem evi_sq' (x : E) : evi C (.sq x) ρ h = @bnd _ _ (ev C x ρ h) ⟨fun u h1 => (srcOf h1 u).map fun s => (s, h1)⟩ := by
  simp only [bnd_eq, cnd_eq, asI_eq, asBl_eq, asS_eq, seqF_eq]
  first | exact z_evi_sq' _ _ _ | exact z_evi_sq' _ _ _ _ | exact z_evi_sq' _ _ _ _ _ | exact z_evi_sq' _ _ _ _ _ _ | exact z_evi_sq' _ _ _ _ _ _ _ | exact z_evi_sq' _ _ _ _ _ _ _ _
@[simp] theorem ex_asg (tg : Tg) (e : E) : exec C (.asg tg e) ρ h = @bnd _ _ (ev C e ρ h) ⟨fun w h1 => (setT tg w ρ).map fun ρ' => (.nxt, ρ', h1)⟩ := by
  simp only [bnd_eq, cnd_eq, asI_eq, asBl_eq, asS_eq, seqF_eq]
  first | exact z_ex_asg _ _ _ | exact z_ex_asg _ _ _ _ | exact z_ex_asg _ _ _ _ _ | exact z_ex_asg _ _ _ _ _ _ | exact z_ex_asg _ _ _ _ _ _ _ | exact z_ex_asg _ _ _ _ _ _ _ _
@[simp] theorem ex_par (i j : Nat) (x y : E) : exec C (.par i j x y) ρ h = @bnd _ _ (ev C x ρ h) ⟨fun u h1 => @bnd _ _ (ev C y ρ h1) ⟨fun w h2 => some (.nxt, (ρ.set i (some u)).set j (some w), h2)⟩⟩ := by
  simp only [bnd_eq, cnd_eq, asI_eq, asBl_eq, asS_eq, seqF_eq]
  first | exact z_ex_par _ _ _ | exact z_ex_par _ _ _ _ | exact z_ex_par _ _ _ _ _ | exact z_ex_par _ _ _ _ _ _ | exact z_ex_par _ _ _ _ _ _ _ | exact z_ex_par _ _ _ _ _ _ _ _
@[simp] theorem ex_setix (o i e : E) : exec C (.setix o i e) ρ h = @bnd _ _ (ev C e ρ h) ⟨fun w h1 => @bnd _ _ (ev C o ρ h1) ⟨fun u h2 => @bnd _ _ (ev C i ρ h2) ⟨fun k h3 => (setAt h3 u k w).map fun h4 => (.nxt, ρ, h4)⟩⟩⟩ := by
  simp only [bnd_eq, cnd_eq, asI_eq, asBl_eq, asS_eq, seqF_eq]
  first | exact z_ex_setix _ _ _ | exact z_ex_setix _ _ _ _ | exact z_ex_setix _ _ _ _ _ | exact z_ex_setix _ _ _ _ _ _ | exact z_ex_setix _ _ _ _ _ _ _ | exact z_ex_setix _ _ _ _ _ _ _ _
@[simp] theorem ex_aug (op : BOp) (i : Nat) (e : E) : exec C (.aug op i e) ρ h = (match ρ[i]? with
    | some (some u) => @bnd _ _ (ev C e ρ h) ⟨fun w h1 => @bnd _ _ (augop h1 op u w) ⟨fun v h2 => some (.nxt, ρ.set i (some v), h2)⟩⟩
    | _ => none) := by
  simp only [bnd_eq, cnd_eq, asI_eq, asBl_eq, asS_eq, seqF_eq]
  first | exact z_ex_aug _ _ _ | exact z_ex_aug _ _ _ _ | exact z_ex_aug _ _ _ _ _ | exact z_ex_aug _ _ _ _ _ _ | exact z_ex_aug _ _ _ _ _ _ _ | exact z_ex_aug _ _ _ _ _ _ _ _
@[simp] theorem ex_ife (c : E) (x y : List S) : exec C (.ife c x y) ρ h = @cnd _ (ev C c ρ h) ⟨fun h1 => execs C x ρ h1⟩ ⟨fun h1 => execs C y ρ h1⟩ := by
  simp only [bnd_eq, cnd_eq, asI_eq, asBl_eq, asS_eq, seqF_eq]
  first | exact z_ex_ife _ _ _ | exact z_ex_ife _ _ _ _ | exact z_ex_ife _ _ _ _ _ | exact z_ex_ife _ _ _ _ _ _ | exact z_ex_ife _ _ _ _ _ _ _ | exact z_ex_ife _ _ _ _ _ _ _ _
@[simp] theorem ex_for (tg : Tg) (it : It) (body : List S) : exec C (.for tg it body) ρ h = @bnd _ _ (evi C it ρ h) ⟨fun src h1 => forSrc (fb C tg body) src ρ h1⟩ := by
  simp only [bnd_eq, cnd_eq, asI_eq, asBl_eq, asS_eq, seqF_eq]
  first | exact z_ex_for _ _ _ | exact z_ex_for _ _ _ _ | exact z_ex_for _ _ _ _ _ | exact z_ex_for _ _ _ _ _ _ | exact z_ex_for _ _ _ _ _ _ _ | exact z_ex_for _ _ _ _ _ _ _ _
@[simp] theorem ex_ret (e : E) : exec C (.ret e) ρ h = @bnd _ _ (ev C e ρ h) ⟨fun w h1 => some (.ret w, ρ, h1)⟩ := by
  simp only [bnd_eq, cnd_eq, asI_eq, asBl_eq, asS_eq, seqF_eq]
  first | exact z_ex_ret _ _ _ | exact z_ex_ret _ _ _ _ | exact z_ex_ret _ _ _ _ _ | exact z_ex_ret _ _ _ _ _ _ | exact z_ex_ret _ _ _ _ _ _ _ | exact z_ex_ret _ _ _ _ _ _ _ _
@[simp] theorem ex_ex (e : E) : exec C (.ex e) ρ h = @bnd _ _ (ev C e ρ h) ⟨fun _ h1 => some (.nxt, ρ, h1)⟩ := by
  simp only [bnd_eq, cnd_eq, asI_eq, asBl_eq, asS_eq, seqF_eq]
  first | exact z_ex_ex _ _ _ | exact z_ex_ex _ _ _ _ | exact z_ex_ex _ _ _ _ _ | exact z_ex_ex _ _ _ _ _ _ | exact z_ex_ex _ _ _ _ _ _ _ | exact z_ex_ex _ _ _ _ _ _ _ _
@[simp] theorem exs_cons (s : S) (r : List S) : execs C (s :: r) ρ h = @seqF (exec C s ρ h) ⟨fun ρ' h' => execs C r ρ' h'⟩ := by
  simp only [bnd_eq, cnd_eq, asI_eq, asBl_eq, asS_eq, seqF_eq]
  first | exact z_exs_cons _ _ _ | exact z_exs_cons _ _ _ _ | exact z_exs_cons _ _ _ _ _ | exact z_exs_cons _ _ _ _ _ _ | exact z_exs_cons _ _ _ _ _ _ _ | exact z_exs_cons _ _ _ _ _ _ _ _
@[simp] theorem turn_n (C : Ctx) (i : Nat) (ρ : Env) (e : E) (x : W) (acc : List W) (h : LH) : turn (.n i) ρ (evc C none) (ev C e) x acc h = @bnd _ _ (ev C e (ρ.set i (some x)) h) ⟨fun w h2 => if acc.length < SZ then some (acc ++ [w], h2) else none⟩ := by
  simp only [bnd_eq, cnd_eq, asI_eq, asBl_eq, asS_eq, seqF_eq]
  first | exact z_turn_n _ _ _ | exact z_turn_n _ _ _ _ | exact z_turn_n _ _ _ _ _ | exact z_turn_n _ _ _ _ _ _ | exact z_turn_n _ _ _ _ _ _ _ | exact z_turn_n _ _ _ _ _ _ _ _
end J
/-! Ends of runs: what is asked of the value. -/
namespace J
variable {α β γ : Type}
@[simp] theorem allD_take (xs : List D) (k : Nat) : allD ((xs.map .d).take k) = some (xs.take k) := by rw [← List.map_take]; exact allD_map' _
@[simp] theorem allD_drop (xs : List D) (k : Nat) : allD ((xs.map .d).drop k) = some (xs.drop k) := by rw [← List.map_drop]; exact allD_map' _
class Kt (γ : Type) where
  run : γ → Prop
@[simp] theorem kt_mk (f : γ → Prop) (a : γ) : @Kt.run γ ⟨f⟩ a = f a := (rfl)
def Wp (r : Option γ) [Q : Kt γ] : Prop := ∃ a, r = some a ∧ Q.run a
abbrev WP (r : Option γ) (Q : γ → Prop) : Prop := @Wp γ r ⟨Q⟩
theorem WP.mono {r : Option γ} {Q Q' : γ → Prop} (h : WP r Q) (hq : ∀ a, Q a → Q' a) : WP r Q' := by
  obtain ⟨a, e, q⟩ := h
  exact ⟨a, e, hq a q⟩
@[simp] theorem Wp_some (a : γ) (Q : Kt γ) : @Wp γ (some a) Q = Q.run a := by simp [Wp]
@[simp] theorem Wp_none (Q : Kt γ) : @Wp γ none Q = False := by simp [Wp]
@[simp] theorem Wp_bnd (r : Option (α × LH)) (f) (Q) : @Wp β (@bnd α β r f) Q = @Wp _ r ⟨fun p => @Wp β (f.run p.1 p.2) Q⟩ := by
  rcases r with _ | ⟨a, h⟩
  · simp
  · simp
def seqQ (f : Kn Env (LH → Option (Fl × Env × LH))) (Q : Kt (Fl × Env × LH)) : Fl × Env × LH → Prop
  | (.nxt, ρ, h) => @Wp _ (f.run ρ h) Q
  | p => Q.run p
@[simp] theorem Wp_seqF (r : Option (Fl × Env × LH)) (f) (Q) : @Wp _ (@seqF r f) Q = @Wp _ r ⟨seqQ f Q⟩ := by
  rcases r with _ | ⟨a, ρ, h⟩
  · simp
  · cases a <;> simp [seqQ]
@[simp] theorem seqQ_nxt (f) (Q) (ρ : Env) (h : LH) : seqQ f Q (.nxt, ρ, h) = @Wp _ (f.run ρ h) Q := (rfl)
@[simp] theorem seqQ_ret (f) (Q) (w : W) (ρ : Env) (h : LH) : seqQ f Q (.ret w, ρ, h) = Q.run (.ret w, ρ, h) := (rfl)
@[simp] theorem seqQ_brk (f) (Q) (ρ : Env) (h : LH) : seqQ f Q (.brk, ρ, h) = Q.run (.brk, ρ, h) := (rfl)
@[simp] theorem seqQ_cnt (f) (Q) (ρ : Env) (h : LH) : seqQ f Q (.cnt, ρ, h) = Q.run (.cnt, ρ, h) := (rfl)
def retQ (n : Nat) (Q : Kt (W × LH)) : Fl × Env × LH → Prop
  | (.ret w, _, h') => @Wp _ (fin n w h') Q
  | (.nxt, _, h') => @Wp _ (fin n (.d .none) h') Q
  | _ => False
@[simp] theorem retQ_ret (n : Nat) (Q) (w : W) (ρ : Env) (h : LH) : retQ n Q (.ret w, ρ, h) = @Wp _ (fin n w h) Q := (rfl)
@[simp] theorem retQ_nxt (n : Nat) (Q) (ρ : Env) (h : LH) : retQ n Q (.nxt, ρ, h) = @Wp _ (fin n (.d .none) h) Q := (rfl)
@[simp] theorem Wp_ret (n : Nat) (r : Option (Fl × Env × LH)) (Q) : @Wp _ (ret n r) Q = @Wp _ r ⟨retQ n Q⟩ := by
  rcases r with _ | ⟨a, ρ, h⟩
  · simp [ret]
  · cases a <;> simp [ret, retQ]
def cndQ (A B : Kn LH (Option γ)) (Q : Kt γ) : W × LH → Prop
  | (.d (.b true), h) => @Wp _ (A.run h) Q
  | (.d (.b false), h) => @Wp _ (B.run h) Q
  | _ => False
@[simp] theorem cndQ_b (b : Bool) (h : LH) (A B) (Q : Kt γ) : cndQ A B Q (.d (.b b), h) = if b = true then @Wp _ (A.run h) Q else @Wp _ (B.run h) Q := by cases b <;> rfl
@[simp] theorem Wp_cnd (r : Option (W × LH)) (A B) (Q : Kt γ) : @Wp _ (@cnd γ r A B) Q = @Wp _ r ⟨cndQ A B Q⟩ := by
  rcases r with _ | ⟨a, h⟩
  · simp
  · rcases a with d | a
    · cases d with
      | b k => cases k <;> simp [cndQ]
      | _ => simp [cnd, cndQ]
    · simp [cnd, cndQ]
def asIQ (f : Kn Int (LH → Option γ)) (Q : Kt γ) : W × LH → Prop
  | (.d (.i k), h) => @Wp _ (f.run k h) Q
  | _ => False
@[simp] theorem asIQ_i (k : Int) (h : LH) (f) (Q : Kt γ) : asIQ f Q (.d (.i k), h) = @Wp _ (f.run k h) Q := (rfl)
@[simp] theorem Wp_asI (r : Option (W × LH)) (f) (Q : Kt γ) : @Wp _ (@asI γ r f) Q = @Wp _ r ⟨asIQ f Q⟩ := by
  rcases r with _ | ⟨a, h⟩
  · simp [asI]
  · rcases a with d | a
    · cases d <;> simp [asI, asIQ]
    · simp [asI, asIQ]
def asBQ (f : Kn Bool (LH → Option γ)) (Q : Kt γ) : W × LH → Prop
  | (.d (.b k), h) => @Wp _ (f.run k h) Q
  | _ => False
@[simp] theorem asBQ_b (k : Bool) (h : LH) (f) (Q : Kt γ) : asBQ f Q (.d (.b k), h) = @Wp _ (f.run k h) Q := (rfl)
@[simp] theorem Wp_asBl (r : Option (W × LH)) (f) (Q : Kt γ) : @Wp _ (@asBl γ r f) Q = @Wp _ r ⟨asBQ f Q⟩ := by
  rcases r with _ | ⟨a, h⟩
  · simp [asBl]
  · rcases a with d | a
    · cases d <;> simp [asBl, asBQ]
    · simp [asBl, asBQ]
theorem Wp_ite (p : Prop) [Decidable p] (x y : Option γ) (Q) : @Wp γ (if p then x else y) Q = if p then @Wp γ x Q else @Wp γ y Q := by split <;> rfl
theorem Wp.if {p : Prop} [Decidable p] {x y : Option γ} {Q} (h1 : p → @Wp γ x Q) (h2 : ¬ p → @Wp γ y Q) : @Wp γ (if p then x else y) Q := by
  split
  · exact h1 (by assumption)
  · exact h2 (by assumption)
theorem ite_of {p : Prop} [Decidable p] {x y : Prop} (h1 : p → x) (h2 : ¬ p → y) : if p then x else y := by
  split
  · exact h1 (by assumption)
  · exact h2 (by assumption)
/-- what a loop's turn hands on -/
def turnQ (I : Env → LH → Prop) (Q : Kt (Fl × Env × LH)) : Fl × Env × LH → Prop
  | (.nxt, ρ, h) => I ρ h
  | (.cnt, ρ, h) => I ρ h
  | (.brk, ρ, h) => Q.run (.nxt, ρ, h)
  | (.ret w, ρ, h) => Q.run (.ret w, ρ, h)
@[simp] theorem turnQ_nxt (I Q) (ρ : Env) (h : LH) : turnQ I Q (.nxt, ρ, h) = I ρ h := (rfl)
@[simp] theorem turnQ_cnt (I Q) (ρ : Env) (h : LH) : turnQ I Q (.cnt, ρ, h) = I ρ h := (rfl)
@[simp] theorem turnQ_brk (I Q) (ρ : Env) (h : LH) : turnQ I Q (.brk, ρ, h) = Q.run (.nxt, ρ, h) := (rfl)
@[simp] theorem turnQ_ret (I Q) (w : W) (ρ : Env) (h : LH) : turnQ I Q (.ret w, ρ, h) = Q.run (.ret w, ρ, h) := (rfl)
/-- a for over items, by what holds behind those gone through -/
theorem wp_items {f : W → Env → LH → Option (Fl × Env × LH)} {Q : Kt (Fl × Env × LH)} {g : α → W} (I : List α → Env → LH → Prop) : ∀ {xs : List α} (done : List α) {ρ : Env} {h : LH}, I done ρ h →
    (∀ pre x post, done ++ xs = pre ++ x :: post → ∀ ρ h, I pre ρ h → WP (f (g x) ρ h) (turnQ (I (pre ++ [x])) Q)) →
    (∀ ρ h, I (done ++ xs) ρ h → Q.run (.nxt, ρ, h)) → @Wp _ (forItems f (xs.map g) ρ h) Q
  | [], done, ρ, h, hi, _, hq => by
    simp only [List.map_nil, forItems, Wp_some]
    exact hq ρ h (by simpa using hi)
  | x :: xs, done, ρ, h, hi, hs, hq => by
    obtain ⟨⟨fl, ρ', h'⟩, e, q⟩ := hs done x xs rfl ρ h hi
    simp only [List.map_cons, forItems, e]
    have go : I (done ++ [x]) ρ' h' → @Wp _ (forItems f (xs.map g) ρ' h') Q := fun hi' => by
      refine wp_items I (done ++ [x]) hi' (fun pre y post e => hs pre y post (by simpa using e)) (fun ρ h hh => hq ρ h (by simpa using hh))
    cases fl with
    | nxt => exact go q
    | cnt => exact go q
    | brk => exact ⟨_, rfl, q⟩
    | ret w => exact ⟨_, rfl, q⟩
/-- the same over a live list that the turns leave as it is -/
theorem wp_live {f : W → Env → LH → Option (Fl × Env × LH)} {Q : Kt (Fl × Env × LH)} {g : α → W} {a : Nat} {xs : List α} (I : List α → Env → LH → Prop) {ρ : Env} {h : LH} (h0 : I [] ρ h)
    (hl : ∀ pre ρ h, I pre ρ h → h[a]? = some (xs.map g))
    (hs : ∀ pre x post, xs = pre ++ x :: post → ∀ ρ h, I pre ρ h → WP (f (g x) ρ h) (turnQ (I (pre ++ [x])) Q))
    (hq : ∀ ρ h, I xs ρ h → Q.run (.nxt, ρ, h)) {n : Nat} (hn : xs.length < n) : @Wp _ (forLive f a n 0 ρ h) Q := by
  have key : ∀ (post pre : List α), xs = pre ++ post → ∀ n, post.length < n → ∀ ρ h, I pre ρ h → @Wp _ (forLive f a n pre.length ρ h) Q := by
    intro post
    induction post with
    | nil =>
      intro pre e n hn ρ h hi
      obtain ⟨n, rfl⟩ : ∃ m, n = m + 1 := ⟨n - 1, by simp at hn; omega⟩
      unfold forLive
      rw [hl pre ρ h hi]
      have : (xs.map g)[pre.length]? = none := by rw [e]; simp
      simp only [this]
      rw [Wp_some]
      exact hq ρ h (by rw [e]; simpa using hi)
    | cons x post ih =>
      intro pre e n hn ρ h hi
      obtain ⟨n, rfl⟩ : ∃ m, n = m + 1 := ⟨n - 1, by simp at hn; omega⟩
      unfold forLive
      rw [hl pre ρ h hi]
      have : (xs.map g)[pre.length]? = some (g x) := by rw [e]; simp
      simp only [this]
      obtain ⟨⟨fl, ρ', h'⟩, e1, q⟩ := hs pre x post e ρ h hi
      simp only [e1]
      have go : I (pre ++ [x]) ρ' h' → @Wp _ (forLive f a n (pre.length + 1) ρ' h') Q := fun hi' => by
        have := ih (pre ++ [x]) (by simpa using e) n (by simp at hn; omega) ρ' h' hi'
        simpa using this
      cases fl with
      | nxt => exact go q
      | cnt => exact go q
      | brk => exact ⟨_, rfl, q⟩
      | ret w => exact ⟨_, rfl, q⟩
  exact key xs [] rfl n hn ρ h h0
/-- a comprehension whose turns may change the heap: by what holds behind those gone through -/
theorem wp_comp {f : W → List W → LH → Option (List W × LH)} {Q : Kt (List W × LH)} {g : α → W} (I : List α → List W → LH → Prop) : ∀ {xs : List α} (done : List α) {acc : List W} {h : LH}, I done acc h →
    (∀ pre x post, done ++ xs = pre ++ x :: post → ∀ acc h, I pre acc h → WP (f (g x) acc h) (fun p => I (pre ++ [x]) p.1 p.2)) →
    (∀ acc h, I (done ++ xs) acc h → Q.run (acc, h)) → @Wp _ (compItems f (xs.map g) acc h) Q
  | [], done, acc, h, hi, _, hq => by
    simp only [List.map_nil, compItems, Wp_some]
    exact hq acc h (by simpa using hi)
  | x :: xs, done, acc, h, hi, hs, hq => by
    obtain ⟨⟨acc', h'⟩, e, q⟩ := hs done x xs rfl acc h hi
    simp only [List.map_cons, compItems, e]
    exact wp_comp I (done ++ [x]) q (fun pre y post e => hs pre y post (by simpa using e)) (fun acc h hh => hq acc h (by simpa using hh))
/-- a while, by a measure -/
theorem wp_while {c : Env → LH → Option (Bool × LH)} {f : Env → LH → Option (Fl × Env × LH)} {Q : Kt (Fl × Env × LH)} (I : Nat → Env → LH → Prop)
    (hs : ∀ m ρ h, I m ρ h → WP (c ρ h) (fun p => if p.1 = true then WP (f ρ p.2) (turnQ (fun ρ' h' => ∃ m', m' < m ∧ I m' ρ' h') Q) else Q.run (.nxt, ρ, p.2))) :
    ∀ (m n : Nat) (ρ : Env) (h : LH), m < n → I m ρ h → @Wp _ (whileF c f n ρ h) Q := by
  intro m
  induction m using Nat.strongRecOn with
  | _ m ih =>
    intro n ρ h hn hi
    obtain ⟨n, rfl⟩ : ∃ k, n = k + 1 := ⟨n - 1, by omega⟩
    obtain ⟨⟨b, h1⟩, e, q⟩ := hs m ρ h hi
    unfold whileF
    simp only [e]
    cases b with
    | false => exact ⟨_, rfl, by simpa using q⟩
    | true =>
      simp only [if_true] at q
      obtain ⟨⟨fl, ρ', h'⟩, e1, q⟩ := q
      simp only [e1]
      cases fl with
      | nxt => obtain ⟨m', hm, hi'⟩ := q; exact ih m' hm n ρ' h' (by omega) hi'
      | cnt => obtain ⟨m', hm, hi'⟩ := q; exact ih m' hm n ρ' h' (by omega) hi'
      | brk => exact ⟨_, rfl, q⟩
      | ret w => exact ⟨_, rfl, q⟩
/-- a heap: a live list of numbers at a, and lists made behind -/
def dl (ds : List Int) : List W := ds.map fun x => .d (.i x)
@[simp] theorem dl_len (ds : List Int) : (dl ds).length = ds.length := by simp [dl]
def hp (H : LH) (a : Nat) (ds : List Int) (K : LH) : LH := H.set a (dl ds) ++ K
variable {H : LH} {a : Nat} {ds : List Int} {K : LH}
@[simp high] theorem hp_len : (hp H a ds K).length = H.length + K.length := by simp [hp]
@[simp high] theorem hp_app (L : LH) : hp H a ds K ++ L = hp H a ds (K ++ L) := by simp [hp]
@[simp high] theorem hp_get (k : Nat) : (hp H a ds K)[H.length + k]? = K[k]? := by simp [hp]
@[simp high] theorem hp_get0 : (hp H a ds K)[H.length]? = K[0]? := by simp [hp]
@[simp high] theorem hp_set (k : Nat) (y : List W) : (hp H a ds K).set (H.length + k) y = hp H a ds (K.set k y) := by simp [hp]
@[simp high] theorem hp_set0 (y : List W) : (hp H a ds K).set H.length y = hp H a ds (K.set 0 y) := by simp [hp]
@[simp high] theorem hp_take : (hp H a ds K).take H.length = H.set a (dl ds) := by simp [hp]
theorem hp_a (ha : a < H.length) : (hp H a ds K)[a]? = some (dl ds) := by
  unfold hp; rw [List.getElem?_append_left (by simpa using ha)]; simp [ha]
theorem hp_sa (ha : a < H.length) (ds' : List Int) : (hp H a ds K).set a (dl ds') = hp H a ds' K := by
  unfold hp; rw [List.set_append_left _ _ (by simpa using ha), List.set_set]
theorem hp_self (e : H[a]? = some (dl ds)) : H = hp H a ds [] := by
  unfold hp; rw [set_self e, List.append_nil]
end J
/-! A call that is given data alone does the same over every heap. -/
namespace J
def sh (n : Nat) : W → W
  | .d x => .d x
  | .l a => .l (n + a)
def shs (n : Nat) (ws : List W) : List W := ws.map (sh n)
def shT (X h : LH) : LH := X ++ h.map (shs X.length)
def shE (n : Nat) (ρ : Env) : Env := ρ.map (Option.map (sh n))
def shR (X : LH) (p : W × LH) : W × LH := (sh X.length p.1, shT X p.2)
def shP (X : LH) (p : List W × LH) : List W × LH := (shs X.length p.1, shT X p.2)
def shF (n : Nat) : Fl → Fl
  | .ret w => .ret (sh n w)
  | f => f
def shS (X : LH) (p : Fl × Env × LH) : Fl × Env × LH := (shF X.length p.1, shE X.length p.2.1, shT X p.2.2)
def shC (n : Nat) : Src → Src
  | .its ws => .its (shs n ws)
  | .live a k => .live (n + a) k
section
variable {X : LH}
@[simp] theorem sh_d (n : Nat) (x : D) : sh n (.d x) = .d x := (rfl)
@[simp] theorem sh_l (n a : Nat) : sh n (.l a) = .l (n + a) := (rfl)
@[simp] theorem shs_nil (n : Nat) : shs n [] = [] := (rfl)
@[simp] theorem shs_cons (n : Nat) (w : W) (ws : List W) : shs n (w :: ws) = sh n w :: shs n ws := (rfl)
@[simp] theorem shs_len (n : Nat) (ws : List W) : (shs n ws).length = ws.length := by simp [shs]
@[simp] theorem shs_app (n : Nat) (ws us : List W) : shs n (ws ++ us) = shs n ws ++ shs n us := by simp [shs]
@[simp] theorem shs_d (n : Nat) (xs : List D) : shs n (xs.map .d) = xs.map .d := by simp [shs]
@[simp] theorem shs_get (n : Nat) (ws : List W) (i : Nat) : (shs n ws)[i]? = (ws[i]?).map (sh n) := by simp [shs]
@[simp] theorem shs_set (n : Nat) (ws : List W) (i : Nat) (w : W) : shs n (ws.set i w) = (shs n ws).set i (sh n w) := by simp [shs, List.map_set]
@[simp] theorem shs_rev (n : Nat) (ws : List W) : shs n ws.reverse = (shs n ws).reverse := by simp [shs]
@[simp] theorem shs_take (n : Nat) (ws : List W) (i : Nat) : shs n (ws.take i) = (shs n ws).take i := by simp [shs, List.map_take]
@[simp] theorem shs_drop (n : Nat) (ws : List W) (i : Nat) : shs n (ws.drop i) = (shs n ws).drop i := by simp [shs, List.map_drop]
@[simp] theorem shs_last (n : Nat) (ws : List W) : (shs n ws).getLast? = (ws.getLast?).map (sh n) := by simp [shs]
@[simp] theorem shs_dl (n : Nat) (ws : List W) : shs n ws.dropLast = (shs n ws).dropLast := by simp [shs, List.map_dropLast]
theorem shs_rep (n : Nat) (ws : List W) : ∀ k, rep (shs n ws) k = shs n (rep ws k)
  | 0 => rfl
  | k + 1 => by rw [rep, rep, shs_rep n ws k, shs_app]
theorem shs_cut (n : Nat) (ws : List W) (a z : Option Int) : cutL (shs n ws) a z = shs n (cutL ws a z) := by
  unfold cutL; simp
@[simp] theorem shT_len (h : LH) : (shT X h).length = X.length + h.length := by simp [shT]
@[simp] theorem shT_get (h : LH) (a : Nat) : (shT X h)[X.length + a]? = (h[a]?).map (shs X.length) := by simp [shT]
@[simp] theorem shT_app (h : LH) (ws : List W) : shT X (h ++ [ws]) = shT X h ++ [shs X.length ws] := by simp [shT]
@[simp] theorem shT_set (h : LH) (a : Nat) (ws : List W) : shT X (h.set a ws) = (shT X h).set (X.length + a) (shs X.length ws) := by simp [shT, List.map_set]
@[simp] theorem shT_take (h : LH) (n : Nat) : shT X (h.take n) = (shT X h).take (X.length + n) := by simp [shT, List.take_append, List.map_take, List.take_of_length_le]
@[simp] theorem shT_nil : shT X [] = X := by simp [shT]
@[simp] theorem shE_get (n : Nat) (ρ : Env) (i : Nat) : (shE n ρ)[i]? = (ρ[i]?).map (Option.map (sh n)) := by simp [shE]
@[simp] theorem shE_set (n : Nat) (ρ : Env) (i : Nat) (o : Option W) : shE n (ρ.set i o) = (shE n ρ).set i (o.map (sh n)) := by simp [shE, List.map_set]
@[simp] theorem sh_allD (n : Nat) : ∀ ws, allD (shs n ws) = allD ws
  | [] => rfl
  | .d x :: r => by simp [sh_allD n r]
  | .l a :: r => by simp [allD]
@[simp] theorem sh_bools (n : Nat) : ∀ ws, bools (shs n ws) = bools ws
  | [] => rfl
  | .d x :: r => by cases x <;> simp [bools, sh_bools n r]
  | .l a :: r => by simp [bools]
@[simp] theorem sh_ints (n : Nat) : ∀ ws, intsL (shs n ws) = intsL ws
  | [] => rfl
  | .d x :: r => by cases x <;> simp [intsL, sh_ints n r]
  | .l a :: r => by simp [intsL]
@[simp] theorem sh_okIn (n a : Nat) (w : W) : okIn (n + a) (sh n w) = okIn a w := by cases w <;> simp [okIn]
@[simp] theorem sh_okAll (n a : Nat) : ∀ ws, okAll (n + a) (shs n ws) = okAll a ws
  | [] => rfl
  | w :: r => by simp [okAll, sh_okAll n a r]
@[simp] theorem sh_items (h : LH) (w : W) : items (shT X h) (sh X.length w) = (items h w).map (shs X.length) := by
  rcases w with d | a
  · cases d <;> simp [items]
  · simp [items]
@[simp] theorem sh_isInt (n : Nat) (w : W) : isIntW (sh n w) = isIntW w := by cases w <;> rfl
@[simp] theorem sh_isBool (n : Nat) (w : W) : isBoolW (sh n w) = isBoolW w := by cases w <;> rfl
@[simp] theorem sh_isStr (n : Nat) (w : W) : isStrW (sh n w) = isStrW w := by cases w <;> rfl
@[simp] theorem sh_isTuple (n : Nat) (w : W) : isTupleW (sh n w) = isTupleW w := by cases w <;> rfl
@[simp] theorem sh_isList (n : Nat) (w : W) : isListW (sh n w) = isListW w := by cases w <;> rfl
@[simp] theorem sh_isN (n : Nat) (w : W) : isNW (sh n w) = isNW w := by cases w <;> rfl
@[simp] theorem shR_mk (w : W) (h : LH) : shR X (w, h) = (sh X.length w, shT X h) := (rfl)
@[simp] theorem shP_mk (w : List W) (h : LH) : shP X (w, h) = (shs X.length w, shT X h) := (rfl)
@[simp] theorem shS_mk (f : Fl) (ρ : Env) (h : LH) : shS X (f, ρ, h) = (shF X.length f, shE X.length ρ, shT X h) := (rfl)
@[simp] theorem shF_nxt (n : Nat) : shF n .nxt = .nxt := (rfl)
@[simp] theorem shF_brk (n : Nat) : shF n .brk = .brk := (rfl)
@[simp] theorem shF_cnt (n : Nat) : shF n .cnt = .cnt := (rfl)
@[simp] theorem shF_ret (n : Nat) (w : W) : shF n (.ret w) = .ret (sh n w) := (rfl)
theorem sh_binop (h : LH) (o : BOp) (u w : W) : binop (shT X h) o (sh X.length u) (sh X.length w) = (binop h o u w).map (shR X) := by
  rcases u with d | a <;> rcases w with e | c
  · cases o <;> cases d <;> cases e <;> simp [binop] <;> (try split) <;> simp
  · cases o <;> cases d <;> simp [binop]
  · cases o <;> cases e <;> simp [binop]
    cases h[a]? with
    | none => rfl
    | some ws => simp [shs_rep]; try (split <;> simp)
  · cases o <;> simp [binop]
    cases h[a]? <;> cases h[c]? <;> simp
    try (split <;> simp)
theorem sh_eqW (h : LH) (u w : W) : eqW (shT X h) (sh X.length u) (sh X.length w) = eqW h u w := by
  rcases u with d | a <;> rcases w with e | c <;> simp [eqW]
  cases h[a]? <;> cases h[c]? <;> simp
theorem sh_inW (h : LH) (u w : W) : inW (shT X h) (sh X.length u) (sh X.length w) = inW h u w := by
  unfold inW
  rcases u with d | a
  · simp; cases items h w <;> simp
  · simp
theorem sh_cmpop (h : LH) (o : COp) (u w : W) : cmpop (shT X h) o (sh X.length u) (sh X.length w) = cmpop h o u w := by
  cases o
  case eq => exact sh_eqW h u w
  case ne => show (eqW _ _ _).map _ = _; rw [sh_eqW]; rfl
  case isin => exact sh_inW h u w
  case nin => show (inW _ _ _).map _ = _; rw [sh_inW]; rfl
  all_goals rcases u with d | a <;> rcases w with e | c <;> first | rfl | (cases d <;> cases e <;> rfl) | (cases d <;> rfl) | (cases e <;> rfl)
theorem sh_index (h : LH) (u w : W) : index (shT X h) (sh X.length u) (sh X.length w) = (index h u w).map (shR X) := by
  unfold index
  rcases w with d | a
  · cases d <;> simp
    cases items h u with
    | none => rfl
    | some ws =>
      simp only [Option.map_some, shs_len, shs_get]
      split
      · rename_i i k hk
        cases ws[k]? <;> simp
      · rfl
  · simp
theorem sh_slice (h : LH) (u : W) (a z : Option Int) : slice (shT X h) (sh X.length u) a z = (slice h u a z).map (shR X) := by
  rcases u with d | b
  · cases d <;> simp [slice]
  · simp [slice]; cases h[b]? <;> simp [shs_cut]
theorem sh_revW (h : LH) (u : W) : revW (shT X h) (sh X.length u) = (revW h u).map (shR X) := by
  rcases u with d | b
  · cases d <;> simp [revW]
  · simp; cases h[b]? <;> simp
theorem sh_mkT (h : LH) (ws : List W) : mkT (shT X h) (shs X.length ws) = (mkT h ws).map (shR X) := by
  simp only [mkT_eq, sh_allD]; cases allD ws <;> simp; try (split <;> simp)
theorem sh_new (h : LH) (ws : List W) : new (shT X h) (shs X.length ws) = (new h ws).map (shR X) := by
  simp only [new_eq, shs_len]; split <;> simp
theorem sh_builtin (h : LH) (b : Bi) (ws : List W) : builtin (shT X h) b (shs X.length ws) = (builtin h b ws).map (shR X) := by
  rcases ws with _ | ⟨u, _ | ⟨w, _ | ⟨v, r⟩⟩⟩
  · cases b <;> rfl
  · cases b
    case len =>
      rcases u with d | a
      · cases d <;> simp [builtin, items]
      · simp; cases h[a]? <;> simp
    case tuple => simp [-mkT_eq]; cases items h u <;> simp [-mkT_eq, sh_mkT]
    case list => simp [-new_eq]; cases items h u <;> simp [-new_eq, sh_new]
    case maxL =>
      rcases u with d | a
      · cases d <;> rfl
      · simp [builtin]; cases h[a]? with
        | none => rfl
        | some ws => simp; cases intsL ws with
          | none => rfl
          | some xs => simp; cases maxI xs <;> simp
    case all =>
      rcases u with d | a
      · cases d <;> rfl
      · simp; cases h[a]? with
        | none => rfl
        | some ws => simp; cases bools ws <;> simp
    case any =>
      rcases u with d | a
      · cases d <;> rfl
      · simp; cases h[a]? with
        | none => rfl
        | some ws => simp; cases bools ws <;> simp
    case sorted =>
      simp [builtin]; cases items h u with
      | none => rfl
      | some ws => simp; cases intsL ws <;> simp [shs]
    case sortedSet =>
      simp [builtin]; cases items h u with
      | none => rfl
      | some ws => simp; cases intsL ws <;> simp [shs]
    all_goals first | (simp [builtin, bl]; done) | (rcases u with d | a <;> first | rfl | (cases d <;> rfl))
  · cases b <;> first | rfl | (rcases u with d | a <;> rcases w with e | c <;> first | rfl | (cases d <;> cases e <;> rfl) | (cases d <;> rfl) | (cases e <;> rfl))
  · cases b <;> first | rfl | (rcases u with d | a <;> rcases w with e | c <;> first | rfl | (cases d <;> first | rfl | (cases e <;> rfl)) | (cases e <;> rfl))
theorem sh_method (h : LH) (m : Me) (u : W) (ws : List W) : method (shT X h) m (sh X.length u) (shs X.length ws) = (method h m u ws).map (shR X) := by
  rcases u with d | a
  · cases m <;> rcases ws with _ | ⟨w, _ | ⟨v, r⟩⟩ <;> first | rfl | (cases w <;> rfl)
  · rcases ws with _ | ⟨w, _ | ⟨v, _ | ⟨v', r⟩⟩⟩
    · cases m <;> first | rfl | skip
      · simp; cases h[a]? with
        | none => rfl
        | some ws => simp; cases ws.getLast? <;> simp
      · simp; cases h[a]? <;> simp
    · cases m
      case append => simp; cases h[a]? with
        | none => rfl
        | some ws => simp; try (split <;> simp)
      case extend =>
        rcases w with d | c
        · cases d <;> rfl
        · simp; cases h[a]? <;> cases h[c]? <;> simp; try (split <;> simp)
      case index =>
        rcases w with d | c
        · simp [method]; cases h[a]? with
          | none => rfl
          | some ws => simp; cases allD ws with
            | none => rfl
            | some xs =>
              simp only
              by_cases q : depth d ≤ 64
              · rw [if_pos q, if_pos q]; cases xs.findIdx? _ <;> simp
              · rw [if_neg q, if_neg q]; rfl
        · rfl
      all_goals first | rfl | (rcases w with d | c <;> first | rfl | (cases d <;> rfl))
    · cases m
      case insert =>
        rcases w with d | c
        · cases d <;> first | rfl | skip
          simp [method]; cases h[a]? with
          | none => rfl
          | some ws => simp; try (split <;> simp)
        · rfl
      all_goals first | rfl | (rcases w with d | c <;> first | rfl | (cases d <;> rfl))
    · cases m <;> first | rfl | (rcases w with d | c <;> first | rfl | (cases d <;> rfl))
theorem sh_setAt (h : LH) (o i w : W) : setAt (shT X h) (sh X.length o) (sh X.length i) (sh X.length w) = (setAt h o i w).map (shT X) := by
  rcases o with d | a
  · cases d <;> rfl
  · rcases i with d | b
    · cases d <;> first | rfl | skip
      simp; cases h[a]? with
      | none => rfl
      | some ws => simp; cases ixN ws.length _ with
        | none => rfl
        | some k => simp; try (split <;> simp)
    · rfl
theorem sh_augop (h : LH) (o : BOp) (u w : W) : augop (shT X h) o (sh X.length u) (sh X.length w) = (augop h o u w).map (shR X) := by
  rcases u with d | a
  · cases o <;> first | rfl | exact sh_binop h _ (.d d) w
  · cases o <;> first | rfl | skip
    rcases w with d | c
    · rfl
    · simp [augop]; cases h[a]? <;> cases h[c]? <;> simp; try (split <;> simp)
theorem sh_setMany (n : Nat) : ∀ (is : List Nat) (xs : List D) (ρ : Env), setMany is xs (shE n ρ) = shE n (setMany is xs ρ)
  | [], xs, ρ => by simp
  | i :: is, [], ρ => rfl
  | i :: is, x :: xs, ρ => by
    have := sh_setMany n is xs (ρ.set i (some (.d x)))
    simpa using this
theorem sh_setT (n : Nat) (tg : Tg) (w : W) (ρ : Env) : setT tg (sh n w) (shE n ρ) = (setT tg w ρ).map (shE n) := by
  cases tg with
  | n i => simp
  | t is =>
    rcases w with d | a
    · cases d <;> first | rfl | skip
      simp; split <;> simp [sh_setMany]
    · rfl
theorem sh_wipe (n : Nat) (ρ : Env) : ∀ is, wipe (shE n ρ) is = shE n (wipe ρ is)
  | [] => rfl
  | i :: r => by simp [sh_wipe n ρ r]
theorem sh_forItems {f f' : W → Env → LH → Option (Fl × Env × LH)} (hf : ∀ x ρ h, f' (sh X.length x) (shE X.length ρ) (shT X h) = (f x ρ h).map (shS X)) : ∀ (ws : List W) (ρ : Env) (h : LH), forItems f' (shs X.length ws) (shE X.length ρ) (shT X h) = (forItems f ws ρ h).map (shS X)
  | [], ρ, h => rfl
  | w :: ws, ρ, h => by
    simp only [shs_cons, forItems, hf]
    rcases f w ρ h with _ | ⟨fl, ρ', h'⟩
    · rfl
    · cases fl <;> simp [sh_forItems hf ws]
theorem sh_forLive {f f' : W → Env → LH → Option (Fl × Env × LH)} (hf : ∀ x ρ h, f' (sh X.length x) (shE X.length ρ) (shT X h) = (f x ρ h).map (shS X)) (a : Nat) : ∀ (n i : Nat) (ρ : Env) (h : LH), forLive f' (X.length + a) n i (shE X.length ρ) (shT X h) = (forLive f a n i ρ h).map (shS X)
  | 0, i, ρ, h => rfl
  | n + 1, i, ρ, h => by
    unfold forLive
    rw [shT_get]
    cases h[a]? with
    | none => rfl
    | some ws =>
      simp only [Option.map_some, shs_get]
      cases ws[i]? with
      | none => rfl
      | some x =>
        simp only [Option.map_some, hf]
        rcases f x ρ h with _ | ⟨fl, ρ', h'⟩
        · rfl
        · cases fl <;> simp [sh_forLive hf a n]
theorem sh_compItems {f f' : W → List W → LH → Option (List W × LH)} (hf : ∀ x acc h, f' (sh X.length x) (shs X.length acc) (shT X h) = (f x acc h).map (shP X)) : ∀ (ws acc : List W) (h : LH), compItems f' (shs X.length ws) (shs X.length acc) (shT X h) = (compItems f ws acc h).map (shP X)
  | [], acc, h => rfl
  | w :: ws, acc, h => by
    simp only [shs_cons, compItems, hf]
    rcases f w acc h with _ | ⟨acc', h'⟩
    · rfl
    · simp [sh_compItems hf ws]
theorem sh_compLive {f f' : W → List W → LH → Option (List W × LH)} (hf : ∀ x acc h, f' (sh X.length x) (shs X.length acc) (shT X h) = (f x acc h).map (shP X)) (a : Nat) : ∀ (n i : Nat) (acc : List W) (h : LH), compLive f' (X.length + a) n i (shs X.length acc) (shT X h) = (compLive f a n i acc h).map (shP X)
  | 0, i, acc, h => rfl
  | n + 1, i, acc, h => by
    unfold compLive
    rw [shT_get]
    cases h[a]? with
    | none => rfl
    | some ws =>
      simp only [Option.map_some, shs_get]
      cases ws[i]? with
      | none => rfl
      | some x =>
        simp only [Option.map_some, hf]
        rcases f x acc h with _ | ⟨acc', h'⟩
        · rfl
        · simp [sh_compLive hf a n]
theorem sh_while {c c' : Env → LH → Option (Bool × LH)} {f f' : Env → LH → Option (Fl × Env × LH)} (hc : ∀ ρ h, c' (shE X.length ρ) (shT X h) = (c ρ h).map (fun p => (p.1, shT X p.2))) (hf : ∀ ρ h, f' (shE X.length ρ) (shT X h) = (f ρ h).map (shS X)) : ∀ (n : Nat) (ρ : Env) (h : LH), whileF c' f' n (shE X.length ρ) (shT X h) = (whileF c f n ρ h).map (shS X)
  | 0, ρ, h => rfl
  | n + 1, ρ, h => by
    unfold whileF
    rw [hc]
    rcases c ρ h with _ | ⟨b, h1⟩
    · rfl
    · cases b
      · simp
      · simp only [Option.map_some, hf]
        rcases f ρ h1 with _ | ⟨fl, ρ', h'⟩
        · rfl
        · cases fl <;> simp [sh_while hc hf n]
theorem sh_range (n : Nat) (lo hi : Int) : shs n (range lo hi) = range lo hi := by simp [shs, range]
theorem sh_srcOf (h : LH) (w : W) : srcOf (shT X h) (sh X.length w) = (srcOf h w).map (shC X.length) := by
  rcases w with d | a
  · cases d <;> simp [srcOf, shC]
  · simp; cases h[a]? <;> simp [shC]
theorem sh_forSrc {f f' : W → Env → LH → Option (Fl × Env × LH)} (hf : ∀ x ρ h, f' (sh X.length x) (shE X.length ρ) (shT X h) = (f x ρ h).map (shS X)) (s : Src) (ρ : Env) (h : LH) : forSrc f' (shC X.length s) (shE X.length ρ) (shT X h) = (forSrc f s ρ h).map (shS X) := by
  cases s with
  | its ws => exact sh_forItems hf ws ρ h
  | live a n => exact sh_forLive hf a _ _ ρ h
theorem sh_compSrc {f f' : W → List W → LH → Option (List W × LH)} (hf : ∀ x acc h, f' (sh X.length x) (shs X.length acc) (shT X h) = (f x acc h).map (shP X)) (s : Src) (acc : List W) (h : LH) : compSrc f' (shC X.length s) (shs X.length acc) (shT X h) = (compSrc f s acc h).map (shP X) := by
  cases s with
  | its ws => exact sh_compItems hf ws acc h
  | live a n => exact sh_compLive hf a _ _ acc h
theorem sh_turn {tg : Tg} {ρ : Env} {c c' : Env → LH → Option (Bool × LH)} {e e' : Env → LH → Option (W × LH)} (hc : ∀ ρ h, c' (shE X.length ρ) (shT X h) = (c ρ h).map (fun p => (p.1, shT X p.2))) (he : ∀ ρ h, e' (shE X.length ρ) (shT X h) = (e ρ h).map (shR X)) (x : W) (acc : List W) (h : LH) : turn tg (shE X.length ρ) c' e' (sh X.length x) (shs X.length acc) (shT X h) = (turn tg ρ c e x acc h).map (shP X) := by
  unfold turn
  rw [sh_wipe, sh_setT]
  cases setT tg x (wipe ρ tg.slots) with
  | none => rfl
  | some ρ' =>
    simp only [Option.map_some, hc]
    rcases c ρ' h with _ | ⟨b, h1⟩
    · rfl
    · cases b
      · simp
      · simp only [Option.map_some, he]
        rcases e ρ' h1 with _ | ⟨w, h2⟩
        · rfl
        · simp only [Option.map_some, shR_mk, shs_len]; split <;> simp
theorem sh_asB {r r' : Option (W × LH)} (e : r' = r.map (shR X)) : asB r' = (asB r).map (fun p => (p.1, shT X p.2)) := by
  subst e
  rcases r with _ | ⟨w, h⟩
  · rfl
  · rcases w with d | a
    · cases d <;> rfl
    · rfl
def mkC : Option (List W × LH) → Option (W × LH)
  | some (acc, h2) => some (.l h2.length, h2 ++ [acc])
  | none => none
theorem sh_mk (z z' : Option (List W × LH)) (q : z = z'.map (shP X)) : mkC z = Option.map (shR X) (mkC z') := by
  subst q
  rcases z' with _ | ⟨acc, h2⟩ <;> simp [mkC]
/-- contexts whose calls do the same -/
structure ShC (X : LH) (C : Ctx) : Prop where
  cl : ∀ f ws h, C.cl f (shs X.length ws) (shT X h) = (C.cl f ws h).map (shR X)
variable {C : Ctx}
mutual
theorem sh_ev (c : ShC X C) : ∀ (e : E) (ρ : Env) (h : LH), ev C e (shE X.length ρ) (shT X h) = (ev C e ρ h).map (shR X)
  | .var i, ρ, h => by simp only [ev_var, shE_get]; cases ρ[i]? with
    | none => rfl
    | some o => cases o <;> simp
  | .c x, ρ, h => by simp
  | .glob g, ρ, h => by simp only [ev_glob]; cases C.G g <;> simp
  | .tup es, ρ, h => by
    simp only [ev]; rw [sh_evs c es]; rcases evs C es ρ h with _ | ⟨ws, h1⟩
    · rfl
    · simpa using sh_mkT h1 ws
  | .lst es, ρ, h => by
    simp only [ev]; rw [sh_evs c es]; rcases evs C es ρ h with _ | ⟨ws, h1⟩
    · rfl
    · simpa using sh_new h1 ws
  | .bin op x y, ρ, h => by
    simp only [ev]; rw [sh_ev c x]; rcases ev C x ρ h with _ | ⟨u, h1⟩
    · rfl
    · simp only [Option.map_some, shR_mk]; rw [sh_ev c y]; rcases ev C y ρ h1 with _ | ⟨w, h2⟩
      · rfl
      · exact sh_binop h2 op u w
  | .neg x, ρ, h => by
    simp only [ev]; rw [sh_ev c x]; rcases ev C x ρ h with _ | ⟨u, h1⟩
    · rfl
    · rcases u with d | a
      · cases d <;> rfl
      · rfl
  | .not x, ρ, h => by
    simp only [ev]; rw [sh_ev c x]; rcases ev C x ρ h with _ | ⟨u, h1⟩
    · rfl
    · rcases u with d | a
      · cases d <;> rfl
      · rfl
  | .cmp op x y, ρ, h => by
    simp only [ev]; rw [sh_ev c x]; rcases ev C x ρ h with _ | ⟨u, h1⟩
    · rfl
    · simp only [Option.map_some, shR_mk]; rw [sh_ev c y]; rcases ev C y ρ h1 with _ | ⟨w, h2⟩
      · rfl
      · simp only [Option.map_some, shR_mk, sh_cmpop]; cases cmpop h2 op u w <;> rfl
  | .chain o1 o2 x y z, ρ, h => by
    simp only [ev]; rw [sh_ev c x]; rcases ev C x ρ h with _ | ⟨u, h1⟩
    · rfl
    · simp only [Option.map_some, shR_mk]; rw [sh_ev c y]; rcases ev C y ρ h1 with _ | ⟨w, h2⟩
      · rfl
      · simp only [Option.map_some, shR_mk, sh_cmpop]; cases cmpop h2 o1 u w with
        | none => rfl
        | some b => cases b with
          | false => rfl
          | true =>
            simp only
            rw [sh_ev c z]; rcases ev C z ρ h2 with _ | ⟨v, h3⟩
            · rfl
            · simp only [Option.map_some, shR_mk, sh_cmpop]; cases cmpop h3 o2 w v <;> rfl
  | .isN x, ρ, h => by simp only [z_ev_isN]; rw [sh_ev c x]; rcases ev C x ρ h with _ | ⟨u, h1⟩ <;> simp
  | .isNN x, ρ, h => by simp only [z_ev_isNN]; rw [sh_ev c x]; rcases ev C x ρ h with _ | ⟨u, h1⟩ <;> simp
  | .and x y, ρ, h => by
    simp only [ev]; rw [sh_ev c x]; rcases ev C x ρ h with _ | ⟨u, h1⟩
    · rfl
    · rcases u with d | a
      · cases d <;> first | rfl | (rename_i b; cases b <;> first | rfl | exact sh_ev c y ρ h1)
      · rfl
  | .or x y, ρ, h => by
    simp only [ev]; rw [sh_ev c x]; rcases ev C x ρ h with _ | ⟨u, h1⟩
    · rfl
    · rcases u with d | a
      · cases d <;> first | rfl | (rename_i b; cases b <;> first | rfl | exact sh_ev c y ρ h1)
      · rfl
  | .ite b x y, ρ, h => by
    simp only [ev]; rw [sh_ev c b]; rcases ev C b ρ h with _ | ⟨u, h1⟩
    · rfl
    · rcases u with d | a
      · cases d <;> first | rfl | (rename_i b; cases b <;> first | exact sh_ev c y ρ h1 | exact sh_ev c x ρ h1)
      · rfl
  | .ix x y, ρ, h => by
    simp only [ev]; rw [sh_ev c x]; rcases ev C x ρ h with _ | ⟨u, h1⟩
    · rfl
    · simp only [Option.map_some, shR_mk]; rw [sh_ev c y]; rcases ev C y ρ h1 with _ | ⟨w, h2⟩
      · rfl
      · exact sh_index h2 u w
  | .dix g y, ρ, h => by
    simp only [ev]; rw [sh_ev c y]; rcases ev C y ρ h with _ | ⟨u, h1⟩
    · rfl
    · rcases u with d | a
      · cases d <;> first | rfl | skip
        simp only [Option.map_some, shR_mk, sh_d]; cases C.T g _ <;> rfl
      · rfl
  | .sl x lo hi, ρ, h => by
    simp only [ev]; rw [sh_ev c x]; rcases ev C x ρ h with _ | ⟨u, h1⟩
    · rfl
    · simp only [Option.map_some, shR_mk]; rw [sh_evo c lo]; rcases evo C lo ρ h1 with _ | ⟨a, h2⟩
      · rfl
      · simp only [Option.map_some]; rw [sh_evo c hi]; rcases evo C hi ρ h2 with _ | ⟨z, h3⟩
        · rfl
        · exact sh_slice h3 u a z
  | .rev x, ρ, h => by
    simp only [ev]; rw [sh_ev c x]; rcases ev C x ρ h with _ | ⟨u, h1⟩
    · rfl
    · exact sh_revW h1 u
  | .call f es, ρ, h => by
    simp only [ev]; rw [sh_evs c es]; rcases evs C es ρ h with _ | ⟨ws, h1⟩
    · rfl
    · exact c.cl f ws h1
  | .bi f es, ρ, h => by
    simp only [ev]; rw [sh_evs c es]; rcases evs C es ρ h with _ | ⟨ws, h1⟩
    · rfl
    · exact sh_builtin h1 f ws
  | .meth m x es, ρ, h => by
    simp only [ev]; rw [sh_ev c x]; rcases ev C x ρ h with _ | ⟨u, h1⟩
    · rfl
    · simp only [Option.map_some, shR_mk]; rw [sh_evs c es]; rcases evs C es ρ h1 with _ | ⟨ws, h2⟩
      · rfl
      · exact sh_method h2 m u ws
  | .comp elt tg it b, ρ, h => by
    simp only [ev]; rw [sh_evi c it]; rcases evi C it ρ h with _ | ⟨s, h1⟩
    · rfl
    · simp only [Option.map_some]
      have q := sh_compSrc (f := turn tg ρ (evc C b) (ev C elt)) (sh_turn (sh_evc c b) (sh_ev c elt)) s [] h1
      rw [shs_nil] at q
      rw [q]
      rcases compSrc (turn tg ρ (evc C b) (ev C elt)) s [] h1 with _ | ⟨acc, h2⟩ <;> simp
  | .comp2 elt tg it tg1 it1 b, ρ, h => by
    simp only [ev]; rw [sh_evi c it]; rcases evi C it ρ h with _ | ⟨s, h1⟩
    · rfl
    · simp only [Option.map_some]
      have q := sh_compSrc (f := fun x acc h => match setT tg x (wipe ρ (tg.slots ++ tg1.slots)) with
        | none => none
        | some ρ' => match evi C it1 ρ' h with
          | some (src1, h1) => compSrc (turn tg1 ρ' (evc C b) (ev C elt)) src1 acc h1
          | none => none) (f' := fun x acc h => match setT tg x (wipe (shE X.length ρ) (tg.slots ++ tg1.slots)) with
        | none => none
        | some ρ' => match evi C it1 ρ' h with
          | some (src1, h1) => compSrc (turn tg1 ρ' (evc C b) (ev C elt)) src1 acc h1
          | none => none) (fun x acc h => by
        rw [sh_wipe, sh_setT]
        cases setT tg x (wipe ρ (tg.slots ++ tg1.slots)) with
        | none => rfl
        | some ρ' =>
          simp only [Option.map_some]
          rw [sh_evi c it1]; rcases evi C it1 ρ' h with _ | ⟨s1, h1⟩
          · rfl
          · exact sh_compSrc (sh_turn (sh_evc c b) (sh_ev c elt)) s1 acc h1) s [] h1
      exact sh_mk _ _ q
theorem sh_evs (c : ShC X C) : ∀ (es : List E) (ρ : Env) (h : LH), evs C es (shE X.length ρ) (shT X h) = (evs C es ρ h).map (shP X)
  | [], ρ, h => by simp
  | e :: es, ρ, h => by
    simp only [evs]; rw [sh_ev c e]; rcases ev C e ρ h with _ | ⟨w, h1⟩
    · rfl
    · simp only [Option.map_some, shR_mk]; rw [sh_evs c es]; rcases evs C es ρ h1 with _ | ⟨ws, h2⟩ <;> simp
theorem sh_evo (c : ShC X C) : ∀ (o : Option E) (ρ : Env) (h : LH), evo C o (shE X.length ρ) (shT X h) = (evo C o ρ h).map (fun p => (p.1, shT X p.2))
  | none, ρ, h => by simp
  | some e, ρ, h => by
    simp only [evo]; rw [sh_ev c e]; rcases ev C e ρ h with _ | ⟨w, h1⟩
    · rfl
    · rcases w with d | a
      · cases d <;> rfl
      · rfl
theorem sh_evc (c : ShC X C) : ∀ (o : Option E) (ρ : Env) (h : LH), evc C o (shE X.length ρ) (shT X h) = (evc C o ρ h).map (fun p => (p.1, shT X p.2))
  | none, ρ, h => by simp
  | some e, ρ, h => by simp only [evc]; exact sh_asB (sh_ev c e ρ h)
theorem sh_evi (c : ShC X C) : ∀ (it : It) (ρ : Env) (h : LH), evi C it (shE X.length ρ) (shT X h) = (evi C it ρ h).map (fun p => (shC X.length p.1, shT X p.2))
  | .r1 x, ρ, h => by
    simp only [evi]; rw [sh_ev c x]; rcases ev C x ρ h with _ | ⟨w, h1⟩
    · rfl
    · rcases w with d | a
      · cases d <;> first | rfl | skip
        simp only [Option.map_some, shR_mk, sh_d]; split <;> simp [shC, sh_range]
      · rfl
  | .r2 x y, ρ, h => by
    simp only [evi]; rw [sh_ev c x]; rcases ev C x ρ h with _ | ⟨w, h1⟩
    · rfl
    · rcases w with d | a
      · cases d <;> first | rfl | skip
        simp only [Option.map_some, shR_mk, sh_d]
        rw [sh_ev c y]; rcases ev C y ρ h1 with _ | ⟨w, h2⟩
        · rfl
        · rcases w with d | a
          · cases d <;> first | rfl | skip
            simp only [Option.map_some, shR_mk, sh_d]; split <;> simp [shC, sh_range]
          · rfl
      · rfl
  | .sq x, ρ, h => by
    simp only [evi]; rw [sh_ev c x]; rcases ev C x ρ h with _ | ⟨w, h1⟩
    · rfl
    · simp only [Option.map_some, shR_mk, sh_srcOf]; cases srcOf h1 w <;> rfl
end
mutual
theorem sh_exec (c : ShC X C) : ∀ (s : S) (ρ : Env) (h : LH), exec C s (shE X.length ρ) (shT X h) = (exec C s ρ h).map (shS X)
  | .asg tg e, ρ, h => by
    simp only [exec]; rw [sh_ev c e]; rcases ev C e ρ h with _ | ⟨w, h1⟩
    · rfl
    · simp only [Option.map_some, shR_mk, sh_setT]; cases setT tg w ρ <;> rfl
  | .par i j x y, ρ, h => by
    simp only [exec]; rw [sh_ev c x]; rcases ev C x ρ h with _ | ⟨u, h1⟩
    · rfl
    · simp only [Option.map_some, shR_mk]; rw [sh_ev c y]; rcases ev C y ρ h1 with _ | ⟨w, h2⟩ <;> simp
  | .setix o i e, ρ, h => by
    simp only [exec]; rw [sh_ev c e]; rcases ev C e ρ h with _ | ⟨w, h1⟩
    · rfl
    · simp only [Option.map_some, shR_mk]; rw [sh_ev c o]; rcases ev C o ρ h1 with _ | ⟨u, h2⟩
      · rfl
      · simp only [Option.map_some, shR_mk]; rw [sh_ev c i]; rcases ev C i ρ h2 with _ | ⟨k, h3⟩
        · rfl
        · simp only [Option.map_some, shR_mk, sh_setAt]; cases setAt h3 u k w <;> rfl
  | .aug op i e, ρ, h => by
    simp only [exec, shE_get]; cases ρ[i]? with
    | none => rfl
    | some o => cases o with
      | none => rfl
      | some u =>
        simp only [Option.map_some]
        rw [sh_ev c e]; rcases ev C e ρ h with _ | ⟨w, h1⟩
        · rfl
        · simp only [Option.map_some, shR_mk, sh_augop]; rcases augop h1 op u w with _ | ⟨v, h2⟩ <;> simp
  | .ife b x y, ρ, h => by
    simp only [exec]; rw [sh_ev c b]; rcases ev C b ρ h with _ | ⟨u, h1⟩
    · rfl
    · rcases u with d | a
      · cases d <;> first | rfl | (rename_i b; cases b <;> first | exact sh_execs c y ρ h1 | exact sh_execs c x ρ h1)
      · rfl
  | .for tg it body, ρ, h => by
    simp only [exec]; rw [sh_evi c it]; rcases evi C it ρ h with _ | ⟨s, h1⟩
    · rfl
    · simp only [Option.map_some]
      exact sh_forSrc (fun x ρ h => by rw [sh_setT]; cases setT tg x ρ <;> first | rfl | exact sh_execs c body _ h) s ρ h1
  | .whl b body, ρ, h => by
    simp only [exec]
    exact sh_while (fun ρ h => sh_asB (sh_ev c b ρ h)) (sh_execs c body) C.wf ρ h
  | .ret e, ρ, h => by simp only [exec]; rw [sh_ev c e]; rcases ev C e ρ h with _ | ⟨w, h1⟩ <;> simp
  | .retN, ρ, h => by simp [exec]
  | .ex e, ρ, h => by simp only [exec]; rw [sh_ev c e]; rcases ev C e ρ h with _ | ⟨w, h1⟩ <;> simp
  | .brk, ρ, h => by simp [exec]
  | .cnt, ρ, h => by simp [exec]
  | .pass, ρ, h => by simp [exec]
  | .doc, ρ, h => by simp [exec]
  | .never, ρ, h => by simp [exec]
theorem sh_execs (c : ShC X C) : ∀ (ss : List S) (ρ : Env) (h : LH), execs C ss (shE X.length ρ) (shT X h) = (execs C ss ρ h).map (shS X)
  | [], ρ, h => by simp
  | s :: r, ρ, h => by
    simp only [execs]; rw [sh_exec c s]; rcases exec C s ρ h with _ | ⟨fl, ρ', h'⟩
    · rfl
    · cases fl <;> simp [sh_execs c r]
end
theorem sh_fin (n : Nat) (w : W) (h : LH) : fin (X.length + n) (sh X.length w) (shT X h) = (fin n w h).map (shR X) := by
  rcases w with d | a
  · simp [fin]
  · simp only [fin, sh_l]
    by_cases hn : a < n
    · rw [if_pos hn, if_pos (by omega)]; simp
    · rw [if_neg hn, if_neg (by omega), shT_get]
      cases h[a]? with
      | none => rfl
      | some ws =>
        simp only [Option.map_some, sh_allD]
        cases allD ws <;> simp
theorem sh_call (P : Prog) : ∀ (k f : Nat) (ws : List W) (h : LH), call P k f (shs X.length ws) (shT X h) = (call P k f ws h).map (shR X)
  | 0, f, ws, h => rfl
  | k + 1, f, ws, h => by
    unfold call
    cases P.F f with
    | none => rfl
    | some d =>
      simp only [shs_len]
      split
      · have hρ : (shs X.length ws).map some ++ List.replicate (d.ns - d.np) none = shE X.length (ws.map some ++ List.replicate (d.ns - d.np) none) := by simp [shE, shs]
        rw [hρ, sh_execs ⟨fun f ws h => sh_call P k f ws h⟩]
        rcases execs ⟨P.G, P.T, call P k, P.wf⟩ d.body (ws.map some ++ List.replicate (d.ns - d.np) none) h with _ | ⟨fl, ρ', h'⟩
        · rfl
        · cases fl
          · simp only [Option.map_some, shS_mk, shF_nxt, shT_len]; exact sh_fin h.length (.d .none) h'
          · rfl
          · rfl
          · simp only [Option.map_some, shS_mk, shF_ret, shT_len]; exact sh_fin h.length _ h'
      · rfl
end
/-- a call given data, run over the empty heap, does the same over every heap -/
theorem closed {P : Prog} {k f : Nat} {xs : List D} {r : D} (e : call P k f (xs.map .d) [] = some (.d r, [])) (h : LH) : call P k f (xs.map .d) h = some (.d r, h) := by
  have := sh_call (X := h) P k f (xs.map .d) []
  rw [shs_d, shT_nil, e] at this
  simpa using this
end J
namespace J
mutual
def bqD : D → D → Bool
  | .none, .none => true
  | .b a, .b c => a == c
  | .i k, .i j => k == j
  | .s x, .s y => x == y
  | .t xs, .t ys => bqL xs ys
  | .fl xs, .fl ys => bqL xs ys
  | _, _ => false
def bqL : List D → List D → Bool
  | [], [] => true
  | x :: xs, y :: ys => bqD x y && bqL xs ys
  | _, _ => false
end
mutual
theorem bqD_eq : ∀ (x y : D), bqD x y = true → x = y
  | .none, .none, _ => rfl
  | .b a, .b c, h => by simp [bqD] at h; rw [h]
  | .i a, .i c, h => by simp [bqD] at h; rw [h]
  | .s a, .s c, h => by simp [bqD] at h; rw [h]
  | .t a, .t c, h => by simp [bqD] at h; rw [bqL_eq a c h]
  | .fl a, .fl c, h => by simp [bqD] at h; rw [bqL_eq a c h]
  | .none, .b _, h | .none, .i _, h | .none, .s _, h | .none, .t _, h | .none, .fl _, h => by simp [bqD] at h
  | .b _, .none, h | .b _, .i _, h | .b _, .s _, h | .b _, .t _, h | .b _, .fl _, h => by simp [bqD] at h
  | .i _, .none, h | .i _, .b _, h | .i _, .s _, h | .i _, .t _, h | .i _, .fl _, h => by simp [bqD] at h
  | .s _, .none, h | .s _, .b _, h | .s _, .i _, h | .s _, .t _, h | .s _, .fl _, h => by simp [bqD] at h
  | .t _, .none, h | .t _, .b _, h | .t _, .i _, h | .t _, .s _, h | .t _, .fl _, h => by simp [bqD] at h
  | .fl _, .none, h | .fl _, .b _, h | .fl _, .i _, h | .fl _, .s _, h | .fl _, .t _, h => by simp [bqD] at h
theorem bqL_eq : ∀ (x y : List D), bqL x y = true → x = y
  | [], [], _ => rfl
  | a :: x, c :: y, h => by
    simp [bqL] at h; rw [bqD_eq a c h.1, bqL_eq x y h.2]
  | [], _ :: _, h => by simp [bqL] at h
  | _ :: _, [], h => by simp [bqL] at h
end
/-- a call of data ends with r -/
def endsB (r : D) : Option (W × LH) → Bool
  | some (.d x, []) => bqD x r
  | _ => false
theorem endsB_eq {r : D} {z : Option (W × LH)} (h : endsB r z = true) : z = some (.d r, []) := by
  unfold endsB at h
  split at h
  · rw [bqD_eq _ _ h]
  · cases h
theorem closedB {P : Prog} {k f : Nat} {xs : List D} (r : D) (e : endsB r (call P k f (xs.map .d) []) = true) (h : LH) : call P k f (xs.map .d) h = some (.d r, h) := closed (endsB_eq e) h
end J
set_option maxRecDepth 100000
namespace J
abbrev f_all_within : Nat := 21
abbrev f_answer_of : Nat := 38
abbrev f_applied : Nat := 18
abbrev f_arguments_of : Nat := 20
abbrev f_arity : Nat := 1
abbrev f_asked_by : Nat := 26
abbrev f_asked_item : Nat := 265
abbrev f_block_behind : Nat := 39
abbrev f_can_be_split : Nat := 267
abbrev f_can_split : Nat := 268
abbrev f_check_program : Nat := 30
abbrev f_combine : Nat := 11
abbrev f_compare : Nat := 10
abbrev f_first_state : Nat := 214
abbrev f_goes_to : Nat := 25
abbrev f_is_block_for : Nat := 28
abbrev f_is_expression_code : Nat := 13
abbrev f_is_expression_for : Nat := 27
abbrev f_is_fixed : Nat := 14
abbrev f_is_number_below : Nat := 264
abbrev f_is_program : Nat := 29
abbrev f_item_of : Nat := 4
abbrev f_items_of : Nat := 2
abbrev f_law_can_split : Nat := 277
abbrev f_law_cell : Nat := 145
abbrev f_law_draws : Nat := 143
abbrev f_law_is_judged : Nat := 285
abbrev f_law_item_asked : Nat := 275
abbrev f_law_items_of : Nat := 276
abbrev f_law_list : Nat := 281
abbrev f_law_listing : Nat := 282
abbrev f_law_looks_v1 : Nat := 170
abbrev f_law_near : Nat := 280
abbrev f_law_same : Nat := 161
abbrev f_law_split : Nat := 279
abbrev f_law_split_part : Nat := 278
abbrev f_law_spoilt : Nat := 283
abbrev f_law_store : Nat := 226
abbrev f_law_take : Nat := 144
abbrev f_law_thing : Nat := 218
abbrev f_law_v3 : Nat := 179
abbrev f_law_with : Nat := 231
abbrev f_lessened_by : Nat := 16
abbrev f_listed_items : Nat := 263
abbrev f_look : Nat := 8
abbrev f_looks_at_items : Nat := 266
abbrev f_next_state : Nat := 216
abbrev f_number_of : Nat := 3
abbrev f_place_of : Nat := 6
abbrev f_reflect : Nat := 17
abbrev f_run : Nat := 217
abbrev f_split : Nat := 273
abbrev f_split_assign : Nat := 270
abbrev f_split_block : Nat := 272
abbrev f_split_jump : Nat := 271
abbrev f_split_store : Nat := 274
abbrev f_store_behind : Nat := 215
abbrev f_told_by : Nat := 15
abbrev f_with_item : Nat := 5
abbrev f_with_items : Nat := 269
abbrev f_with_thing : Nat := 37
abbrev f_worth : Nat := 19
def b_arity : Def := ⟨1, 1, [.ret (.dix 1 (.var 0))]⟩
def b_items_of : Def := ⟨1, 1, [.ret (.ite (.bi .isInt [.var 0]) (.tup []) (.var 0))]⟩
def b_number_of : Def := ⟨1, 1, [.ret (.ite (.bi .isInt [.var 0]) (.var 0) (.c (.i 0)))]⟩
def b_item_of : Def := ⟨2, 2, [.ife (.and (.bi .isInt [.var 0]) (.and (.not (.bi .isInt [.var 1])) (.chain .le .lt (.c (.i 0)) (.var 0) (.bi .len [.var 1])))) [.ret (.ix (.var 1) (.var 0))] [], .ret (.c (.i 0))]⟩
def b_with_item : Def := ⟨3, 3, [.ife (.and (.bi .isInt [.var 0]) (.and (.not (.bi .isInt [.var 1])) (.chain .le .lt (.c (.i 0)) (.var 0) (.bi .len [.var 1])))) [.ret (.bin .add (.bin .add (.sl (.var 1) .none (.some (.var 0))) (.tup [.var 2])) (.sl (.var 1) (.some (.bin .add (.var 0) (.c (.i 1)))) .none))] [], .ret (.var 1)]⟩
def l0_place_of : List S := [.ife (.cmp .eq (.ix (.var 1) (.var 2)) (.var 0)) [.ret (.var 2)] []]
def b_place_of : Def := ⟨2, 3, [.asg (.n 1) (.call f_items_of [.var 1]), .for (.n 2) (.r1 (.bi .len [.var 1])) l0_place_of, .ret (.neg (.c (.i 1)))]⟩
def b_look : Def := ⟨2, 3, [.asg (.n 2) (.call f_items_of [.var 1]), .ife (.cmp .eq (.var 0) (.c (.s "first"))) [.ret (.ite (.cmp .gt (.bi .len [.var 2]) (.c (.i 0))) (.ix (.var 2) (.c (.i 0))) (.c (.i 0)))] [], .ife (.cmp .eq (.var 0) (.c (.s "rest"))) [.ret (.sl (.var 2) (.some (.c (.i 1))) .none)] [], .ife (.cmp .eq (.var 0) (.c (.s "length"))) [.ret (.bi .len [.var 2])] [], .ife (.cmp .eq (.var 0) (.c (.s "some"))) [.ret (.ite (.cmp .gt (.bi .len [.var 2]) (.c (.i 0))) (.c (.i 1)) (.c (.i 0)))] [], .ret (.ite (.bi .isInt [.var 1]) (.c (.i 0)) (.c (.i 1)))]⟩
def b_compare : Def := ⟨3, 3, [.ife (.cmp .eq (.var 0) (.c (.s "same"))) [.ret (.ite (.cmp .eq (.var 1) (.var 2)) (.c (.i 1)) (.c (.i 0)))] [], .ret (.ite (.and (.bi .isInt [.var 1]) (.and (.bi .isInt [.var 2]) (.cmp .lt (.var 1) (.var 2)))) (.c (.i 1)) (.c (.i 0)))]⟩
def b_combine : Def := ⟨3, 3, [.ife (.cmp .eq (.var 0) (.c (.s "join"))) [.ret (.bin .add (.tup [.var 1]) (.call f_items_of [.var 2]))] [], .ife (.cmp .eq (.var 0) (.c (.s "more"))) [.ret (.bin .add (.call f_items_of [.var 2]) (.tup [.var 1]))] [], .ife (.cmp .eq (.var 0) (.c (.s "item"))) [.ret (.call f_item_of [.var 1, .var 2])] [], .ife (.cmp .eq (.var 0) (.c (.s "place"))) [.ret (.call f_place_of [.var 1, .var 2])] [], .ife (.cmp .eq (.var 0) (.c (.s "plus"))) [.ret (.bin .add (.call f_number_of [.var 1]) (.call f_number_of [.var 2]))] [], .ife (.cmp .eq (.var 0) (.c (.s "minus"))) [.ret (.bin .sub (.call f_number_of [.var 1]) (.call f_number_of [.var 2]))] [], .ret (.call f_compare [.var 0, .var 1, .var 2])]⟩
def l0_is_expression_code : List S := [.ife (.not (.call f_is_expression_code [.var 2])) [.ret (.c (.b false))] []]
def b_is_expression_code : Def := ⟨1, 3, [.ife (.or (.bi .isInt [.var 0]) (.or (.cmp .eq (.bi .len [.var 0]) (.c (.i 0))) (.not (.bi .isInt [.ix (.var 0) (.c (.i 0))])))) [.ret (.c (.b false))] [], .asg (.n 1) (.ix (.var 0) (.c (.i 0))), .ife (.cmp .eq (.var 1) (.c (.i 0))) [.ret (.cmp .eq (.bi .len [.var 0]) (.c (.i 2)))] [], .ife (.cmp .eq (.var 1) (.c (.i 1))) [.ret (.and (.cmp .eq (.bi .len [.var 0]) (.c (.i 2))) (.and (.bi .isInt [.ix (.var 0) (.c (.i 1))]) (.cmp .ge (.ix (.var 0) (.c (.i 1))) (.c (.i 0)))))] [], .ife (.or (.cmp .lt (.var 1) (.c (.i 2))) (.or (.cmp .ge (.var 1) (.bin .add (.c (.i 2)) (.bi .len [.glob 0]))) (.cmp .ne (.bi .len [.var 0]) (.bin .add (.c (.i 1)) (.dix 1 (.ix (.glob 0) (.bin .sub (.var 1) (.c (.i 2))))))))) [.ret (.c (.b false))] [], .for (.n 2) (.sq (.sl (.var 0) (.some (.c (.i 1))) .none)) l0_is_expression_code, .ret (.c (.b true))]⟩
def l0_is_fixed : List S := [.ife (.not (.call f_is_fixed [.var 2, .var 1])) [.ret (.c (.b false))] []]
def b_is_fixed : Def := ⟨2, 3, [.ife (.cmp .eq (.ix (.var 0) (.c (.i 0))) (.c (.i 0))) [.ret (.c (.b true))] [], .ife (.cmp .eq (.ix (.var 0) (.c (.i 0))) (.c (.i 1))) [.ret (.cmp .ne (.call f_item_of [.ix (.var 0) (.c (.i 1)), .var 1]) (.c (.i 0)))] [], .for (.n 2) (.sq (.sl (.var 0) (.some (.c (.i 1))) .none)) l0_is_fixed, .ret (.c (.b true))]⟩
def b_told_by : Def := ⟨2, 4, [.ife (.cmp .eq (.ix (.var 0) (.c (.i 0))) (.c (.i 0))) [.ret (.ix (.var 0) (.c (.i 1)))] [], .ife (.cmp .eq (.ix (.var 0) (.c (.i 0))) (.c (.i 1))) [.ret (.call f_item_of [.ix (.var 0) (.c (.i 1)), .var 1])] [], .asg (.n 2) (.ix (.glob 0) (.bin .sub (.ix (.var 0) (.c (.i 0))) (.c (.i 2)))), .ife (.or (.cmp .eq (.var 2) (.c (.s "told"))) (.cmp .eq (.var 2) (.c (.s "lessened")))) [.ret (.c (.i 0))] [], .ret (.call f_applied [.var 2, .bi .tuple [.comp (.call f_told_by [.var 3, .var 1]) (.n 3) (.sq (.sl (.var 0) (.some (.c (.i 1))) .none)) .none]])]⟩
def b_lessened_by : Def := ⟨3, 4, [.ife (.call f_is_fixed [.var 0, .var 1]) [.ret (.tup [.c (.i 0), .call f_told_by [.var 0, .var 2]])] [], .ife (.cmp .eq (.ix (.var 0) (.c (.i 0))) (.c (.i 1))) [.ret (.var 0)] [], .ret (.bin .add (.tup [.ix (.var 0) (.c (.i 0))]) (.bi .tuple [.comp (.call f_lessened_by [.var 3, .var 1, .var 2]) (.n 3) (.sq (.sl (.var 0) (.some (.c (.i 1))) .none)) .none]))]⟩
def b_reflect : Def := ⟨2, 2, [.ife (.not (.call f_is_expression_code [.ix (.var 1) (.c (.i 0))])) [.ret (.ite (.cmp .eq (.var 0) (.c (.s "lessened"))) (.tup [.c (.i 0), .c (.i 0)]) (.c (.i 0)))] [], .ife (.cmp .eq (.var 0) (.c (.s "fixed"))) [.ret (.ite (.call f_is_fixed [.ix (.var 1) (.c (.i 0)), .ix (.var 1) (.c (.i 1))]) (.c (.i 1)) (.c (.i 0)))] [], .ife (.cmp .eq (.var 0) (.c (.s "told"))) [.ret (.call f_told_by [.ix (.var 1) (.c (.i 0)), .ix (.var 1) (.c (.i 1))])] [], .ret (.call f_lessened_by [.ix (.var 1) (.c (.i 0)), .ix (.var 1) (.c (.i 1)), .ix (.var 1) (.c (.i 2))])]⟩
def b_applied : Def := ⟨2, 2, [.ife (.cmp .isin (.var 0) (.tup [.c (.s "fixed"), .c (.s "told"), .c (.s "lessened")])) [.ret (.call f_reflect [.var 0, .var 1])] [], .ife (.cmp .eq (.bi .len [.var 1]) (.c (.i 1))) [.ret (.call f_look [.var 0, .ix (.var 1) (.c (.i 0))])] [], .ife (.cmp .eq (.bi .len [.var 1]) (.c (.i 2))) [.ret (.call f_combine [.var 0, .ix (.var 1) (.c (.i 0)), .ix (.var 1) (.c (.i 1))])] [], .ife (.cmp .eq (.var 0) (.c (.s "choose"))) [.ret (.ite (.cmp .ne (.ix (.var 1) (.c (.i 0))) (.c (.i 0))) (.ix (.var 1) (.c (.i 1))) (.ix (.var 1) (.c (.i 2))))] [], .ret (.call f_with_item [.ix (.var 1) (.c (.i 0)), .ix (.var 1) (.c (.i 1)), .ix (.var 1) (.c (.i 2))])]⟩
def b_worth : Def := ⟨2, 4, [.asg (.n 2) (.ix (.var 0) (.c (.i 0))), .ife (.cmp .eq (.var 2) (.c (.s "know"))) [.ret (.ix (.var 0) (.c (.i 1)))] [], .ife (.cmp .eq (.var 2) (.c (.s "of"))) [.ret (.ix (.var 1) (.ix (.var 0) (.c (.i 1))))] [], .ret (.call f_applied [.var 2, .bi .tuple [.comp (.call f_worth [.var 3, .var 1]) (.n 3) (.sq (.sl (.var 0) (.some (.c (.i 1))) .none)) .none]])]⟩
def b_arguments_of : Def := ⟨1, 1, [.ife (.or (.cmp .eq (.ix (.var 0) (.c (.i 0))) (.c (.s "know"))) (.cmp .eq (.ix (.var 0) (.c (.i 0))) (.c (.s "of")))) [.ret (.tup [])] [], .ret (.sl (.var 0) (.some (.c (.i 1))) .none)]⟩
def l0_all_within : List S := [.ex (.meth .extend (.var 1) [.call f_all_within [.var 2]])]
def b_all_within : Def := ⟨1, 3, [.asg (.n 1) (.lst [.var 0]), .for (.n 2) (.sq (.call f_arguments_of [.var 0])) l0_all_within, .ret (.var 1)]⟩
def b_goes_to : Def := ⟨1, 1, [.ife (.cmp .eq (.ix (.var 0) (.c (.i 0))) (.c (.s "goto"))) [.ret (.tup [.ix (.var 0) (.c (.i 1))])] [], .ife (.cmp .eq (.ix (.var 0) (.c (.i 0))) (.c (.s "test"))) [.ret (.tup [.ix (.var 0) (.c (.i 2)), .ix (.var 0) (.c (.i 3))])] [], .ret (.tup [])]⟩
def b_asked_by : Def := ⟨1, 1, [.ret (.ite (.cmp .eq (.ix (.var 0) (.c (.i 0))) (.c (.s "goto"))) (.tup []) (.tup [.ix (.var 0) (.c (.i 1))]))]⟩
def l0_is_expression_for : List S := [.ife (.cmp .eq (.ix (.var 2) (.c (.i 0))) (.c (.s "of"))) [.ife (.not (.chain .le .lt (.c (.i 0)) (.ix (.var 2) (.c (.i 1))) (.var 0))) [.ret (.c (.b false))] []] [.ife (.and (.cmp .ne (.ix (.var 2) (.c (.i 0))) (.c (.s "know"))) (.cmp .ne (.bi .len [.var 2]) (.bin .add (.call f_arity [.ix (.var 2) (.c (.i 0))]) (.c (.i 1))))) [.ret (.c (.b false))] []]]
def b_is_expression_for : Def := ⟨2, 3, [.for (.n 2) (.sq (.call f_all_within [.var 1])) l0_is_expression_for, .ret (.c (.b true))]⟩
def l0_is_block_for : List S := [.ife (.or (.not (.chain .le .lt (.c (.i 0)) (.var 3) (.var 0))) (.not (.call f_is_expression_for [.var 0, .var 4]))) [.ret (.c (.b false))] []]
def l1_is_block_for : List S := [.ife (.not (.call f_is_expression_for [.var 0, .var 4])) [.ret (.c (.b false))] []]
def l2_is_block_for : List S := [.ife (.not (.chain .le .lt (.c (.i 0)) (.var 5) (.var 1))) [.ret (.c (.b false))] []]
def b_is_block_for : Def := ⟨3, 6, [.for (.t [3, 4]) (.sq (.ix (.var 2) (.c (.i 0)))) l0_is_block_for, .for (.n 4) (.sq (.call f_asked_by [.ix (.var 2) (.c (.i 1))])) l1_is_block_for, .for (.n 5) (.sq (.call f_goes_to [.ix (.var 2) (.c (.i 1))])) l2_is_block_for, .ret (.c (.b true))]⟩
def l0_is_program : List S := [.ife (.not (.call f_is_block_for [.var 1, .bi .len [.var 2], .var 3])) [.ret (.c (.b false))] []]
def b_is_program : Def := ⟨1, 4, [.asg (.t [1, 2]) (.var 0), .ife (.or (.cmp .lt (.var 1) (.c (.i 0))) (.cmp .eq (.bi .len [.var 2]) (.c (.i 0)))) [.ret (.c (.b false))] [], .for (.n 3) (.sq (.var 2)) l0_is_program, .ret (.c (.b true))]⟩
def b_check_program : Def := ⟨1, 1, [.ife (.not (.call f_is_program [.var 0])) [.never] []]⟩
def l0_listed_items : List S := [.ife (.cmp .ne (.ix (.var 0) (.c (.i 0))) (.c (.s "join"))) [.ret (.c .none)] [], .ex (.meth .append (.var 2) [.ix (.var 0) (.c (.i 1))]), .asg (.n 0) (.ix (.var 0) (.c (.i 2)))]
def b_listed_items : Def := ⟨2, 4, [.asg (.n 2) (.lst []), .for (.n 3) (.r1 (.var 1)) l0_listed_items, .ret (.ite (.cmp .eq (.var 0) (.tup [.c (.s "know"), .tup []])) (.bi .tuple [.var 2]) (.c .none))]⟩
def b_is_number_below : Def := ⟨2, 2, [.ret (.and (.bi .isInt [.var 0]) (.chain .le .lt (.c (.i 0)) (.var 0) (.var 1)))]⟩
def b_asked_item : Def := ⟨3, 3, [.ife (.cmp .eq (.var 0) (.tup [.c (.s "first"), .tup [.c (.s "of"), .var 1]])) [.ret (.c (.i 0))] [], .ife (.or (.cmp .ne (.ix (.var 0) (.c (.i 0))) (.c (.s "item"))) (.or (.cmp .ne (.ix (.var 0) (.c (.i 2))) (.tup [.c (.s "of"), .var 1])) (.cmp .ne (.ix (.ix (.var 0) (.c (.i 1))) (.c (.i 0))) (.c (.s "know"))))) [.ret (.c .none)] [], .ret (.ite (.call f_is_number_below [.ix (.ix (.var 0) (.c (.i 1))) (.c (.i 1)), .var 2]) (.ix (.ix (.var 0) (.c (.i 1))) (.c (.i 1))) (.c .none))]⟩
def b_looks_at_items : Def := ⟨3, 4, [.ife (.isNN (.call f_asked_item [.var 0, .var 1, .var 2])) [.ret (.c (.b true))] [], .ife (.cmp .eq (.var 0) (.tup [.c (.s "of"), .var 1])) [.ret (.c (.b false))] [], .ret (.bi .all [.comp (.call f_looks_at_items [.var 3, .var 1, .var 2]) (.n 3) (.sq (.call f_arguments_of [.var 0])) .none])]⟩
def b_can_be_split : Def := ⟨3, 5, [.ife (.cmp .ne (.ix (.var 0) (.c (.i 0))) (.var 1)) [.ret (.call f_looks_at_items [.ix (.var 0) (.c (.i 1)), .var 1, .var 2])] [], .asg (.n 3) (.call f_listed_items [.ix (.var 0) (.c (.i 1)), .var 2]), .ret (.and (.isNN (.var 3)) (.bi .all [.comp (.call f_looks_at_items [.var 4, .var 1, .var 2]) (.n 4) (.sq (.var 3)) .none]))]⟩
def l0_can_split : List S := [.ife (.not (.bi .all [.comp (.call f_can_be_split [.var 5, .var 1, .var 2]) (.n 5) (.sq (.var 3)) .none])) [.ret (.c (.b false))] [], .ife (.not (.bi .all [.comp (.call f_looks_at_items [.var 6, .var 1, .var 2]) (.n 6) (.sq (.call f_asked_by [.var 4])) .none])) [.ret (.c (.b false))] []]
def b_can_split : Def := ⟨3, 7, [.for (.t [3, 4]) (.sq (.ix (.var 0) (.c (.i 1)))) l0_can_split, .ret (.c (.b true))]⟩
def b_with_items : Def := ⟨4, 6, [.asg (.n 4) (.call f_asked_item [.var 0, .var 2, .var 3]), .ife (.isNN (.var 4)) [.ret (.tup [.c (.s "of"), .bin .add (.var 1) (.var 4)])] [], .ife (.or (.cmp .eq (.ix (.var 0) (.c (.i 0))) (.c (.s "know"))) (.cmp .eq (.ix (.var 0) (.c (.i 0))) (.c (.s "of")))) [.ret (.var 0)] [], .ret (.bin .add (.tup [.ix (.var 0) (.c (.i 0))]) (.bi .tuple [.comp (.call f_with_items [.var 5, .var 1, .var 2, .var 3]) (.n 5) (.sq (.sl (.var 0) (.some (.c (.i 1))) .none)) .none]))]⟩
def b_split_assign : Def := ⟨4, 7, [.ife (.cmp .ne (.ix (.var 0) (.c (.i 0))) (.var 2)) [.ret (.tup [.tup [.ix (.var 0) (.c (.i 0)), .call f_with_items [.ix (.var 0) (.c (.i 1)), .var 1, .var 2, .var 3]]])] [], .asg (.n 4) (.call f_listed_items [.ix (.var 0) (.c (.i 1)), .var 3]), .asg (.n 5) (.bi .tuple [.comp (.tup [.bin .add (.bin .add (.var 1) (.var 3)) (.var 6), .call f_with_items [.ix (.var 4) (.var 6), .var 1, .var 2, .var 3]]) (.n 6) (.r1 (.var 3)) .none]), .ret (.bin .add (.var 5) (.bi .tuple [.comp (.tup [.bin .add (.var 1) (.var 6), .tup [.c (.s "of"), .bin .add (.bin .add (.var 1) (.var 3)) (.var 6)]]) (.n 6) (.r1 (.var 3)) .none]))]⟩
def b_split_jump : Def := ⟨4, 4, [.ife (.cmp .eq (.ix (.var 0) (.c (.i 0))) (.c (.s "goto"))) [.ret (.var 0)] [], .ret (.bin .add (.tup [.ix (.var 0) (.c (.i 0)), .call f_with_items [.ix (.var 0) (.c (.i 1)), .var 1, .var 2, .var 3]]) (.sl (.var 0) (.some (.c (.i 2))) .none))]⟩
def l0_split_block : List S := [.aug .add 4 (.call f_split_assign [.var 5, .var 1, .var 2, .var 3])]
def b_split_block : Def := ⟨4, 6, [.asg (.n 4) (.tup []), .for (.n 5) (.sq (.ix (.var 0) (.c (.i 0)))) l0_split_block, .ret (.tup [.var 4, .call f_split_jump [.ix (.var 0) (.c (.i 1)), .var 1, .var 2, .var 3]])]⟩
def b_split : Def := ⟨3, 6, [.asg (.t [3, 4]) (.var 0), .ret (.tup [.bin .add (.var 3) (.bin .mul (.c (.i 2)) (.var 2)), .bi .tuple [.comp (.call f_split_block [.var 5, .var 3, .var 1, .var 2]) (.n 5) (.sq (.var 4)) .none]])]⟩
def b_split_store : Def := ⟨3, 3, [.ret (.bin .add (.bin .add (.var 2) (.ix (.var 2) (.var 0))) (.bin .mul (.tup [.c (.i 0)]) (.var 1)))]⟩
def b_first_state : Def := ⟨1, 1, [.ret (.tup [.c (.s "at"), .c (.i 0), .var 0])]⟩
def b_with_thing : Def := ⟨3, 3, [.ret (.bin .add (.bin .add (.sl (.var 0) .none (.some (.var 1))) (.tup [.var 2])) (.sl (.var 0) (.some (.bin .add (.var 1) (.c (.i 1)))) .none))]⟩
def l0_store_behind : List S := [.asg (.n 1) (.call f_with_thing [.var 1, .var 2, .call f_worth [.var 3, .var 1]])]
def b_store_behind : Def := ⟨2, 4, [.for (.t [2, 3]) (.sq (.var 0)) l0_store_behind, .ret (.var 1)]⟩
def b_answer_of : Def := ⟨2, 2, [.ret (.ite (.cmp .eq (.call f_worth [.ix (.var 0) (.c (.i 1)), .var 1]) (.c (.i 0))) (.c (.i 0)) (.c (.i 1)))]⟩
def b_block_behind : Def := ⟨2, 2, [.ife (.cmp .eq (.ix (.var 0) (.c (.i 0))) (.c (.s "test"))) [.ret (.ix (.call f_goes_to [.var 0]) (.bin .sub (.c (.i 1)) (.call f_answer_of [.var 0, .var 1])))] [], .ret (.ix (.var 0) (.c (.i 1)))]⟩
def b_next_state : Def := ⟨2, 5, [.ife (.cmp .eq (.ix (.var 1) (.c (.i 0))) (.c (.s "ended"))) [.ret (.var 1)] [], .asg (.t [2, 3]) (.ix (.ix (.var 0) (.c (.i 1))) (.ix (.var 1) (.c (.i 1)))), .asg (.n 4) (.call f_store_behind [.var 2, .ix (.var 1) (.c (.i 2))]), .ife (.cmp .eq (.ix (.var 3) (.c (.i 0))) (.c (.s "end"))) [.ret (.tup [.c (.s "ended"), .call f_worth [.ix (.var 3) (.c (.i 1)), .var 4]])] [], .ret (.tup [.c (.s "at"), .call f_block_behind [.var 3, .var 4], .var 4])]⟩
def l0_run : List S := [.asg (.n 3) (.call f_next_state [.var 0, .var 3]), .ife (.cmp .eq (.ix (.var 3) (.c (.i 0))) (.c (.s "ended"))) [.ret (.tup [.c (.s "ended"), .bin .add (.var 4) (.c (.i 1)), .ix (.var 3) (.c (.i 1))])] []]
def b_run : Def := ⟨3, 5, [.asg (.n 3) (.call f_first_state [.var 1]), .for (.n 4) (.r1 (.var 2)) l0_run, .ret (.tup [.c (.s "open"), .var 2])]⟩
def l0_law_draws : List S := [.asg (.n 6) (.bin .mod (.var 5) (.bi .len [.var 2])), .ife (.and (.cmp .ge (.ix (.var 2) (.var 6)) (.bin .pow (.c (.i 10)) (.c (.i 18)))) (.cmp .gt (.ix (.var 3) (.var 6)) (.c (.i 0)))) [.ex (.meth .append (.var 4) [.bin .mod (.bi .int [.ix (.var 3) (.var 6)]) (.c (.i 1000))]), .setix (.var 3) (.var 6) (.bin .fdiv (.ix (.var 3) (.var 6)) (.c (.i 1000)))] [.asg (.n 7) (.bin .mod (.bi .int [.bin .add (.bin .add (.bin .mul (.ix (.var 2) (.var 6)) (.c (.i 48271))) (.bin .mul (.var 5) (.c (.i 69621)))) (.c (.i 11))]) (.c (.i 2147483647))), .ex (.meth .append (.var 4) [.bin .mod (.bi .int [.bin .add (.bin .add (.bin .mul (.var 7) (.var 7)) (.bin .mul (.c (.i 3)) (.var 7))) (.var 5)]) (.c (.i 1000003))])]]
def b_law_draws : Def := ⟨2, 9, [.asg (.n 2) (.comp (.bi .int [.var 8]) (.n 8) (.sq (.var 0)) .none), .ife (.cmp .eq (.bi .len [.var 2]) (.c (.i 0))) [.ex (.meth .append (.var 2) [.c (.i 0)])] [], .asg (.n 3) (.bi .list [.var 2]), .asg (.n 4) (.lst []), .for (.n 5) (.r1 (.var 1)) l0_law_draws, .ex (.meth .reverse (.var 4) []), .ret (.var 4)]⟩
def b_law_take : Def := ⟨2, 2, [.ife (.cmp .eq (.bi .len [.var 0]) (.c (.i 0))) [.ret (.c (.i 0))] [], .ret (.bin .mod (.bi .int [.meth .pop (.var 0) []]) (.var 1))]⟩
def b_law_cell : Def := ⟨1, 2, [.ife (.cmp .eq (.bi .len [.var 0]) (.c (.i 0))) [.ret (.c (.i 0))] [], .asg (.n 1) (.bi .int [.ix (.var 0) (.bin .mod (.bin .mod (.bi .int [.bin .sub (.bi .len [.var 0]) (.c (.i 1))]) (.c (.i 7))) (.bi .len [.var 0]))]), .ife (.cmp .lt (.var 1) (.c (.i 0))) [.ret (.neg (.bin .mod (.bi .int [.neg (.var 1)]) (.bin .pow (.c (.i 10)) (.c (.i 60)))))] [], .ret (.bin .mod (.bi .int [.var 1]) (.bin .pow (.c (.i 10)) (.c (.i 60))))]⟩
def l0_law_thing : List S := [.ife (.cmp .eq (.call f_law_take [.var 0, .c (.i 4)]) (.c (.i 0))) [.ex (.meth .append (.var 3) [.bi .tuple [.comp (.call f_law_take [.var 0, .c (.i 3)]) (.n 5) (.r1 (.call f_law_take [.var 0, .c (.i 3)])) .none]])] [.ex (.meth .append (.var 3) [.bin .sub (.call f_law_take [.var 0, .c (.i 4)]) (.c (.i 1))])]]
def b_law_thing : Def := ⟨2, 6, [.asg (.n 2) (.call f_law_take [.var 0, .c (.i 12)]), .ife (.cmp .eq (.var 2) (.c (.i 11))) [.ret (.var 1)] [], .ife (.cmp .lt (.var 2) (.c (.i 6))) [.ret (.bin .sub (.call f_law_take [.var 0, .c (.i 4)]) (.c (.i 1)))] [], .asg (.n 3) (.lst []), .for (.n 4) (.r1 (.call f_law_take [.var 0, .c (.i 4)])) l0_law_thing, .ret (.bi .tuple [.var 3])]⟩
def b_law_store : Def := ⟨3, 4, [.ret (.bi .tuple [.comp (.call f_law_thing [.var 0, .var 2]) (.n 3) (.r1 (.var 1)) .none])]⟩
def l0_law_same : List S := [.ife (.not (.call f_law_same [.ix (.var 0) (.var 2), .ix (.var 1) (.var 2)])) [.ret (.c (.b false))] []]
def b_law_same : Def := ⟨2, 3, [.ife (.bi .isBool [.var 1]) [.ret (.and (.bi .isBool [.var 0]) (.cmp .eq (.var 0) (.var 1)))] [], .ife (.bi .isInt [.var 1]) [.ret (.and (.bi .isInt [.var 0]) (.and (.not (.bi .isBool [.var 0])) (.cmp .eq (.var 0) (.var 1))))] [], .ife (.bi .isStr [.var 1]) [.ret (.and (.bi .isStr [.var 0]) (.cmp .eq (.var 0) (.var 1)))] [], .ife (.isN (.var 1)) [.ret (.isN (.var 0))] [], .ife (.or (.not (.bi .isTuple [.var 0])) (.cmp .ne (.bi .len [.var 0]) (.bi .len [.var 1]))) [.ret (.c (.b false))] [], .for (.n 2) (.r1 (.bi .len [.var 1])) l0_law_same, .ret (.c (.b true))]⟩
def b_law_with : Def := ⟨3, 3, [.ret (.bin .add (.bin .add (.bi .tuple [.sl (.var 0) .none (.some (.var 1))]) (.tup [.var 2])) (.bi .tuple [.sl (.var 0) (.some (.bin .add (.var 1) (.c (.i 1)))) .none]))]⟩
def b_law_item_asked : Def := ⟨3, 3, [.ife (.cmp .eq (.var 0) (.tup [.c (.s "first"), .tup [.c (.s "of"), .var 1]])) [.ret (.c (.i 0))] [], .ife (.and (.cmp .eq (.ix (.var 0) (.c (.i 0))) (.c (.s "item"))) (.and (.cmp .eq (.ix (.var 0) (.c (.i 2))) (.tup [.c (.s "of"), .var 1])) (.cmp .eq (.ix (.ix (.var 0) (.c (.i 1))) (.c (.i 0))) (.c (.s "know"))))) [.ife (.and (.bi .isInt [.ix (.ix (.var 0) (.c (.i 1))) (.c (.i 1))]) (.and (.cmp .ge (.ix (.ix (.var 0) (.c (.i 1))) (.c (.i 1))) (.c (.i 0))) (.cmp .lt (.ix (.ix (.var 0) (.c (.i 1))) (.c (.i 1))) (.var 2)))) [.ret (.ix (.ix (.var 0) (.c (.i 1))) (.c (.i 1)))] []] [], .ret (.neg (.c (.i 1)))]⟩
def l0_law_looks_v1 : List S := [.ife (.not (.call f_law_looks_v1 [.var 3, .var 1, .var 2])) [.ret (.c (.b false))] []]
def b_law_looks_v1 : Def := ⟨3, 4, [.ife (.or (.cmp .ge (.call f_law_item_asked [.var 0, .var 1, .var 2]) (.c (.i 0))) (.cmp .eq (.ix (.var 0) (.c (.i 0))) (.c (.s "know")))) [.ret (.c (.b true))] [], .ife (.cmp .eq (.ix (.var 0) (.c (.i 0))) (.c (.s "of"))) [.ret (.cmp .ne (.ix (.var 0) (.c (.i 1))) (.var 1))] [], .for (.n 3) (.sq (.sl (.var 0) (.some (.c (.i 1))) .none)) l0_law_looks_v1, .ret (.c (.b true))]⟩
def l0_law_items_of : List S := [.ife (.cmp .ne (.ix (.var 0) (.c (.i 0))) (.c (.s "join"))) [.ret (.lst [])] [], .ex (.meth .append (.var 2) [.ix (.var 0) (.c (.i 1))]), .asg (.n 0) (.ix (.var 0) (.c (.i 2)))]
def b_law_items_of : Def := ⟨2, 4, [.asg (.n 2) (.lst []), .for (.n 3) (.r1 (.var 1)) l0_law_items_of, .ife (.cmp .ne (.var 0) (.tup [.c (.s "know"), .tup []])) [.ret (.lst [])] [], .ret (.var 2)]⟩
def l0_law_can_split : List S := [.ife (.not (.call f_law_looks_v1 [.var 8, .var 1, .var 2])) [.ret (.c (.b false))] []]
def l1_law_can_split : List S := [.asg (.n 7) (.call f_law_items_of [.var 6, .var 2]), .ife (.and (.cmp .eq (.var 5) (.var 1)) (.cmp .eq (.bi .len [.var 7]) (.c (.i 0)))) [.ret (.c (.b false))] [], .for (.n 8) (.sq (.ite (.cmp .eq (.var 5) (.var 1)) (.var 7) (.lst [.var 6]))) l0_law_can_split]
def l2_law_can_split : List S := [.for (.t [5, 6]) (.sq (.var 3)) l1_law_can_split, .ife (.and (.cmp .ne (.ix (.var 4) (.c (.i 0))) (.c (.s "goto"))) (.not (.call f_law_looks_v1 [.ix (.var 4) (.c (.i 1)), .var 1, .var 2]))) [.ret (.c (.b false))] []]
def b_law_can_split : Def := ⟨3, 9, [.for (.t [3, 4]) (.sq (.ix (.var 0) (.c (.i 1)))) l2_law_can_split, .ret (.c (.b true))]⟩
def b_law_split_part : Def := ⟨4, 6, [.asg (.n 4) (.call f_law_item_asked [.var 0, .var 2, .var 3]), .ife (.cmp .ge (.var 4) (.c (.i 0))) [.ret (.tup [.c (.s "of"), .bin .add (.var 1) (.var 4)])] [], .ife (.or (.cmp .eq (.ix (.var 0) (.c (.i 0))) (.c (.s "know"))) (.cmp .eq (.ix (.var 0) (.c (.i 0))) (.c (.s "of")))) [.ret (.var 0)] [], .ret (.bin .add (.tup [.ix (.var 0) (.c (.i 0))]) (.bi .tuple [.comp (.call f_law_split_part [.var 5, .var 1, .var 2, .var 3]) (.n 5) (.sq (.sl (.var 0) (.some (.c (.i 1))) .none)) .none]))]⟩
def l0_law_split : List S := [.ife (.cmp .eq (.var 9) (.var 1)) [.asg (.n 11) (.call f_law_items_of [.var 10, .var 2]), .asg (.n 8) (.bin .add (.var 8) (.comp (.tup [.bin .add (.bin .add (.var 3) (.var 2)) (.var 13), .call f_law_split_part [.ix (.var 11) (.var 13), .var 3, .var 1, .var 2]]) (.n 13) (.r1 (.var 2)) .none)), .asg (.n 8) (.bin .add (.var 8) (.comp (.tup [.bin .add (.var 3) (.var 13), .tup [.c (.s "of"), .bin .add (.bin .add (.var 3) (.var 2)) (.var 13)]]) (.n 13) (.r1 (.var 2)) .none))] [.ex (.meth .append (.var 8) [.tup [.var 9, .call f_law_split_part [.var 10, .var 3, .var 1, .var 2]]])]]
def l1_law_split : List S := [.asg (.n 8) (.lst []), .for (.t [9, 10]) (.sq (.var 6)) l0_law_split, .asg (.n 12) (.var 7), .ife (.cmp .ne (.ix (.var 7) (.c (.i 0))) (.c (.s "goto"))) [.asg (.n 12) (.bin .add (.tup [.ix (.var 7) (.c (.i 0)), .call f_law_split_part [.ix (.var 7) (.c (.i 1)), .var 3, .var 1, .var 2]]) (.sl (.var 7) (.some (.c (.i 2))) .none))] [], .ex (.meth .append (.var 5) [.tup [.bi .tuple [.var 8], .var 12]])]
def b_law_split : Def := ⟨3, 14, [.asg (.t [3, 4]) (.var 0), .asg (.n 5) (.lst []), .for (.t [6, 7]) (.sq (.var 4)) l1_law_split, .ret (.tup [.bin .add (.var 3) (.bin .mul (.c (.i 2)) (.var 2)), .bi .tuple [.var 5]])]⟩
def b_law_near : Def := ⟨6, 11, [.asg (.n 6) (.call f_law_take [.var 0, .c (.i 8)]), .ife (.and (.cmp .lt (.var 6) (.c (.i 2))) (.cmp .gt (.var 3) (.c (.i 0)))) [.ret (.tup [.c (.s "item"), .tup [.c (.s "know"), .call f_law_take [.var 0, .var 3]], .tup [.c (.s "of"), .var 2]])] [], .ife (.cmp .eq (.var 6) (.c (.i 2))) [.ret (.tup [.c (.s "first"), .tup [.c (.s "of"), .var 2]])] [], .ife (.or (.cmp .eq (.var 6) (.c (.i 3))) (.cmp .eq (.var 4) (.c (.i 0)))) [.ret (.tup [.c (.s "know"), .call f_law_thing [.var 0, .var 5]])] [], .ife (.cmp .lt (.var 6) (.c (.i 6))) [.asg (.n 7) (.call f_law_take [.var 0, .var 1]), .ife (.cmp .eq (.var 7) (.var 2)) [.ret (.tup [.c (.s "first"), .tup [.c (.s "of"), .var 2]])] [], .ret (.tup [.c (.s "of"), .var 7])] [], .asg (.n 8) (.ix (.lst [.c (.s "plus"), .c (.s "same"), .c (.s "less"), .c (.s "minus"), .c (.s "item"), .c (.s "choose"), .c (.s "length"), .c (.s "rest")]) (.call f_law_take [.var 0, .c (.i 8)])), .asg (.n 9) (.ix (.lst [.c (.i 1), .c (.i 2), .c (.i 3)]) (.bin .add (.bi .int [.cmp .eq (.var 8) (.c (.s "choose"))]) (.bi .int [.cmp .nin (.var 8) (.tup [.c (.s "length"), .c (.s "rest")])]))), .ret (.bin .add (.tup [.var 8]) (.bi .tuple [.comp (.call f_law_near [.var 0, .var 1, .var 2, .var 3, .bin .sub (.var 4) (.c (.i 1)), .var 5]) (.n 10) (.r1 (.var 9)) .none]))]⟩
def l0_law_list : List S := [.asg (.n 1) (.tup [.c (.s "join"), .var 2, .var 1])]
def b_law_list : Def := ⟨1, 3, [.asg (.n 1) (.tup [.c (.s "know"), .tup []]), .for (.n 2) (.sq (.rev (.var 0))) l0_law_list, .ret (.var 1)]⟩
def l0_law_listing : List S := [.asg (.n 10) (.call f_law_take [.var 0, .var 1]), .ife (.cmp .eq (.var 10) (.var 2)) [.ex (.meth .append (.var 8) [.tup [.var 2, .call f_law_list [.comp (.call f_law_near [.var 0, .var 1, .var 2, .var 3, .c (.i 1), .var 5]) (.n 13) (.r1 (.var 3)) .none]]])] [.ex (.meth .append (.var 8) [.tup [.var 10, .call f_law_near [.var 0, .var 1, .var 2, .var 3, .c (.i 2), .var 5]]])]]
def l1_law_listing : List S := [.asg (.n 8) (.lst []), .for (.n 9) (.r1 (.call f_law_take [.var 0, .c (.i 4)])) l0_law_listing, .asg (.n 11) (.call f_law_take [.var 0, .c (.i 5)]), .ife (.or (.cmp .eq (.var 11) (.c (.i 0))) (.cmp .eq (.var 4) (.c (.i 1)))) [.asg (.n 12) (.tup [.c (.s "end"), .call f_law_near [.var 0, .var 1, .var 2, .var 3, .c (.i 2), .var 5]])] [.ife (.cmp .eq (.var 11) (.c (.i 1))) [.asg (.n 12) (.tup [.c (.s "goto"), .call f_law_take [.var 0, .var 4]])] [.asg (.n 12) (.tup [.c (.s "test"), .call f_law_near [.var 0, .var 1, .var 2, .var 3, .c (.i 2), .var 5], .call f_law_take [.var 0, .var 4], .call f_law_take [.var 0, .var 4]])]], .ex (.meth .append (.var 6) [.tup [.bi .tuple [.var 8], .var 12]])]
def b_law_listing : Def := ⟨6, 14, [.asg (.n 6) (.lst []), .for (.n 7) (.r1 (.var 4)) l1_law_listing, .ret (.tup [.var 1, .bi .tuple [.var 6]])]⟩
def b_law_spoilt : Def := ⟨4, 12, [.asg (.n 4) (.tup [.c (.s "of"), .var 2]), .asg (.n 5) (.lst [.var 4, .tup [.c (.s "length"), .var 4], .tup [.c (.s "item"), .tup [.c (.s "know"), .var 3], .var 4], .tup [.c (.s "item"), .tup [.c (.s "know"), .neg (.c (.i 1))], .var 4], .tup [.c (.s "item"), .var 4, .var 4], .tup [.c (.s "rest"), .var 4], .tup [.c (.s "item"), .tup [.c (.s "know"), .tup [.c (.i 0)]], .var 4], .tup [.c (.s "first"), .var 4]]), .asg (.n 6) (.ix (.var 5) (.call f_law_take [.var 0, .c (.i 8)])), .asg (.n 7) (.call f_law_take [.var 0, .bi .len [.ix (.var 1) (.c (.i 1))]]), .asg (.t [8, 9]) (.ix (.ix (.var 1) (.c (.i 1))) (.var 7)), .asg (.n 10) (.call f_law_take [.var 0, .c (.i 4)]), .ife (.cmp .eq (.var 10) (.c (.i 0))) [.asg (.n 11) (.lst [.call f_law_list [.bin .mul (.lst [.tup [.c (.s "know"), .c (.i 0)]]) (.bin .add (.var 3) (.c (.i 1)))], .call f_law_list [.bin .mul (.lst [.tup [.c (.s "know"), .c (.i 0)]]) (.bin .sub (.var 3) (.c (.i 1)))], .call f_law_list [.bin .mul (.lst [.var 6]) (.var 3)], .tup [.c (.s "join"), .tup [.c (.s "know"), .c (.i 1)], .var 4], .tup [.c (.s "more"), .tup [.c (.s "know"), .c (.i 1)], .var 4], .tup [.c (.s "know"), .bin .mul (.tup [.c (.i 1)]) (.var 3)]]), .asg (.n 8) (.bin .add (.var 8) (.tup [.tup [.var 2, .ix (.var 11) (.call f_law_take [.var 0, .c (.i 6)])]]))] [.ife (.cmp .eq (.var 10) (.c (.i 1))) [.asg (.n 8) (.bin .add (.tup [.tup [.bin .mod (.bin .add (.var 2) (.c (.i 1))) (.ix (.var 1) (.c (.i 0))), .tup [.c (.s "plus"), .var 6, .tup [.c (.s "know"), .c (.i 1)]]]]) (.var 8))] [.ife (.cmp .eq (.ix (.var 9) (.c (.i 0))) (.c (.s "goto"))) [.asg (.n 9) (.tup [.c (.s "end"), .tup [.c (.s "same"), .tup [.c (.s "know"), .c (.i 1)], .var 6]])] [.asg (.n 9) (.bin .add (.tup [.ix (.var 9) (.c (.i 0)), .tup [.c (.s "plus"), .ix (.var 9) (.c (.i 1)), .var 6]]) (.sl (.var 9) (.some (.c (.i 2))) .none))]]], .ret (.tup [.ix (.var 1) (.c (.i 0)), .bin .add (.bin .add (.sl (.ix (.var 1) (.c (.i 1))) .none (.some (.var 7))) (.tup [.tup [.var 8, .var 9]])) (.sl (.ix (.var 1) (.c (.i 1))) (.some (.bin .add (.var 7) (.c (.i 1)))) .none)])]⟩
def b_law_is_judged : Def := ⟨3, 5, [.asg (.n 3) (.call f_law_can_split [.var 0, .var 1, .var 2]), .ife (.or (.not (.call f_law_same [.call f_can_split [.var 0, .var 1, .var 2], .var 3])) (.not (.call f_law_same [.call f_can_split [.var 0, .var 1, .var 2], .var 3]))) [.ret (.c (.b false))] [], .ife (.not (.var 3)) [.ret (.c (.b true))] [], .asg (.n 4) (.call f_law_split [.var 0, .var 1, .var 2]), .ret (.and (.call f_law_same [.call f_split [.var 0, .var 1, .var 2], .var 4]) (.isN (.call f_check_program [.var 4])))]⟩
def l0_law_v3 : List S := [.ife (.not (.call f_law_is_judged [.var 7, .var 4, .var 8])) [.ret (.c (.b false))] []]
def l1_law_v3 : List S := [.for (.n 8) (.r2 (.c (.i 1)) (.c (.i 4))) l0_law_v3]
def b_law_v3 : Def := ⟨1, 14, [.asg (.n 1) (.call f_law_draws [.var 0, .c (.i 320)]), .asg (.n 2) (.call f_law_cell [.var 0]), .asg (.n 3) (.bin .add (.c (.i 2)) (.call f_law_take [.var 1, .c (.i 2)])), .asg (.n 4) (.call f_law_take [.var 1, .var 3]), .asg (.n 5) (.bin .add (.c (.i 1)) (.call f_law_take [.var 1, .c (.i 3)])), .asg (.n 6) (.call f_law_listing [.var 1, .var 3, .var 4, .var 5, .bin .add (.c (.i 1)) (.call f_law_take [.var 1, .c (.i 4)]), .var 2]), .ife (.not (.call f_law_can_split [.var 6, .var 4, .var 5])) [.ret (.c (.b false))] [], .for (.n 7) (.sq (.lst [.var 6, .call f_law_spoilt [.var 1, .var 6, .var 4, .var 5], .call f_law_spoilt [.var 1, .var 6, .var 4, .var 5]])) l1_law_v3, .asg (.n 9) (.call f_law_store [.var 1, .var 5, .var 2]), .asg (.n 10) (.call f_law_with [.call f_law_store [.var 1, .var 3, .var 2], .var 4, .var 9]), .ife (.not (.call f_law_same [.call f_split_store [.var 4, .var 5, .var 10], .bin .add (.bin .add (.var 10) (.var 9)) (.bin .mul (.tup [.c (.i 0)]) (.var 5))])) [.ret (.c (.b false))] [], .asg (.n 11) (.tup [.c (.s "of"), .c (.i 0)]), .asg (.n 12) (.tup [.tup [.c (.i 0), .tup [.c (.s "join"), .tup [.c (.s "item"), .tup [.c (.s "know"), .c (.i 1)], .var 11], .tup [.c (.s "join"), .tup [.c (.s "first"), .var 11], .tup [.c (.s "know"), .tup []]]]]]), .asg (.n 6) (.tup [.c (.i 2), .tup [.tup [.var 12, .tup [.c (.s "test"), .tup [.c (.s "of"), .c (.i 1)], .c (.i 1), .c (.i 0)]], .tup [.tup [], .tup [.c (.s "end"), .tup [.c (.s "item"), .tup [.c (.s "know"), .c (.i 1)], .var 11]]]]]), .asg (.n 13) (.tup [.c (.i 6), .tup [.tup [.tup [.tup [.c (.i 4), .tup [.c (.s "of"), .c (.i 3)]], .tup [.c (.i 5), .tup [.c (.s "of"), .c (.i 2)]], .tup [.c (.i 2), .tup [.c (.s "of"), .c (.i 4)]], .tup [.c (.i 3), .tup [.c (.s "of"), .c (.i 5)]]], .tup [.c (.s "test"), .tup [.c (.s "of"), .c (.i 1)], .c (.i 1), .c (.i 0)]], .tup [.tup [], .tup [.c (.s "end"), .tup [.c (.s "of"), .c (.i 3)]]]]]), .ife (.or (.not (.call f_law_same [.call f_split [.var 6, .c (.i 0), .c (.i 2)], .var 13])) (.or (.not (.call f_law_same [.call f_can_split [.var 6, .c (.i 0), .c (.i 1)], .c (.b false)])) (.not (.call f_law_same [.call f_can_split [.var 6, .c (.i 1), .c (.i 1)], .c (.b false)])))) [.ret (.c (.b false))] [], .ret (.and (.call f_law_same [.call f_run [.call f_split [.var 6, .c (.i 0), .c (.i 2)], .call f_split_store [.c (.i 0), .c (.i 2), .tup [.tup [.c (.i 7), .c (.i 8)], .c (.i 1)]], .c (.i 9)], .tup [.c (.s "ended"), .c (.i 2), .c (.i 7)]]) (.call f_law_same [.call f_can_split [.tup [.c (.i 1), .tup [.tup [.tup [], .tup [.c (.s "end"), .var 11]]]], .c (.i 0), .c (.i 1)], .c (.b false)]))]⟩
def F (n : Nat) : Option Def := (bif Nat.blt n 170 then (bif Nat.blt n 19 then (bif Nat.blt n 10 then (bif Nat.blt n 4 then (bif Nat.blt n 2 then (bif Nat.beq n 1 then some b_arity else none) else (bif Nat.blt n 3 then (bif Nat.beq n 2 then some b_items_of else none) else (bif Nat.beq n 3 then some b_number_of else none))) else (bif Nat.blt n 6 then (bif Nat.blt n 5 then (bif Nat.beq n 4 then some b_item_of else none) else (bif Nat.beq n 5 then some b_with_item else none)) else (bif Nat.blt n 8 then (bif Nat.beq n 6 then some b_place_of else none) else (bif Nat.beq n 8 then some b_look else none)))) else (bif Nat.blt n 15 then (bif Nat.blt n 13 then (bif Nat.blt n 11 then (bif Nat.beq n 10 then some b_compare else none) else (bif Nat.beq n 11 then some b_combine else none)) else (bif Nat.blt n 14 then (bif Nat.beq n 13 then some b_is_expression_code else none) else (bif Nat.beq n 14 then some b_is_fixed else none))) else (bif Nat.blt n 17 then (bif Nat.blt n 16 then (bif Nat.beq n 15 then some b_told_by else none) else (bif Nat.beq n 16 then some b_lessened_by else none)) else (bif Nat.blt n 18 then (bif Nat.beq n 17 then some b_reflect else none) else (bif Nat.beq n 18 then some b_applied else none))))) else (bif Nat.blt n 30 then (bif Nat.blt n 26 then (bif Nat.blt n 21 then (bif Nat.blt n 20 then (bif Nat.beq n 19 then some b_worth else none) else (bif Nat.beq n 20 then some b_arguments_of else none)) else (bif Nat.blt n 25 then (bif Nat.beq n 21 then some b_all_within else none) else (bif Nat.beq n 25 then some b_goes_to else none))) else (bif Nat.blt n 28 then (bif Nat.blt n 27 then (bif Nat.beq n 26 then some b_asked_by else none) else (bif Nat.beq n 27 then some b_is_expression_for else none)) else (bif Nat.blt n 29 then (bif Nat.beq n 28 then some b_is_block_for else none) else (bif Nat.beq n 29 then some b_is_program else none)))) else (bif Nat.blt n 143 then (bif Nat.blt n 38 then (bif Nat.blt n 37 then (bif Nat.beq n 30 then some b_check_program else none) else (bif Nat.beq n 37 then some b_with_thing else none)) else (bif Nat.blt n 39 then (bif Nat.beq n 38 then some b_answer_of else none) else (bif Nat.beq n 39 then some b_block_behind else none))) else (bif Nat.blt n 145 then (bif Nat.blt n 144 then (bif Nat.beq n 143 then some b_law_draws else none) else (bif Nat.beq n 144 then some b_law_take else none)) else (bif Nat.blt n 161 then (bif Nat.beq n 145 then some b_law_cell else none) else (bif Nat.beq n 161 then some b_law_same else none)))))) else (bif Nat.blt n 269 then (bif Nat.blt n 226 then (bif Nat.blt n 215 then (bif Nat.blt n 179 then (bif Nat.beq n 170 then some b_law_looks_v1 else none) else (bif Nat.blt n 214 then (bif Nat.beq n 179 then some b_law_v3 else none) else (bif Nat.beq n 214 then some b_first_state else none))) else (bif Nat.blt n 217 then (bif Nat.blt n 216 then (bif Nat.beq n 215 then some b_store_behind else none) else (bif Nat.beq n 216 then some b_next_state else none)) else (bif Nat.blt n 218 then (bif Nat.beq n 217 then some b_run else none) else (bif Nat.beq n 218 then some b_law_thing else none)))) else (bif Nat.blt n 265 then (bif Nat.blt n 263 then (bif Nat.blt n 231 then (bif Nat.beq n 226 then some b_law_store else none) else (bif Nat.beq n 231 then some b_law_with else none)) else (bif Nat.blt n 264 then (bif Nat.beq n 263 then some b_listed_items else none) else (bif Nat.beq n 264 then some b_is_number_below else none))) else (bif Nat.blt n 267 then (bif Nat.blt n 266 then (bif Nat.beq n 265 then some b_asked_item else none) else (bif Nat.beq n 266 then some b_looks_at_items else none)) else (bif Nat.blt n 268 then (bif Nat.beq n 267 then some b_can_be_split else none) else (bif Nat.beq n 268 then some b_can_split else none))))) else (bif Nat.blt n 277 then (bif Nat.blt n 273 then (bif Nat.blt n 271 then (bif Nat.blt n 270 then (bif Nat.beq n 269 then some b_with_items else none) else (bif Nat.beq n 270 then some b_split_assign else none)) else (bif Nat.blt n 272 then (bif Nat.beq n 271 then some b_split_jump else none) else (bif Nat.beq n 272 then some b_split_block else none))) else (bif Nat.blt n 275 then (bif Nat.blt n 274 then (bif Nat.beq n 273 then some b_split else none) else (bif Nat.beq n 274 then some b_split_store else none)) else (bif Nat.blt n 276 then (bif Nat.beq n 275 then some b_law_item_asked else none) else (bif Nat.beq n 276 then some b_law_items_of else none)))) else (bif Nat.blt n 281 then (bif Nat.blt n 279 then (bif Nat.blt n 278 then (bif Nat.beq n 277 then some b_law_can_split else none) else (bif Nat.beq n 278 then some b_law_split_part else none)) else (bif Nat.blt n 280 then (bif Nat.beq n 279 then some b_law_split else none) else (bif Nat.beq n 280 then some b_law_near else none))) else (bif Nat.blt n 283 then (bif Nat.blt n 282 then (bif Nat.beq n 281 then some b_law_list else none) else (bif Nat.beq n 282 then some b_law_listing else none)) else (bif Nat.blt n 285 then (bif Nat.beq n 283 then some b_law_spoilt else none) else (bif Nat.beq n 285 then some b_law_is_judged else none)))))))
def c_NAMES : D := .t [.s "first", .s "rest", .s "join", .s "more", .s "item", .s "put", .s "length", .s "place", .s "same", .s "less", .s "some", .s "listed", .s "plus", .s "minus", .s "choose", .s "fixed", .s "told", .s "lessened"]
def G : Nat → Option D
  | 0 => some c_NAMES
  | _ => none
def Tb : Nat → String → Option D
  | 1, "first" => some (.i 1)
  | 1, "rest" => some (.i 1)
  | 1, "join" => some (.i 2)
  | 1, "more" => some (.i 2)
  | 1, "item" => some (.i 2)
  | 1, "put" => some (.i 3)
  | 1, "length" => some (.i 1)
  | 1, "place" => some (.i 2)
  | 1, "same" => some (.i 2)
  | 1, "less" => some (.i 2)
  | 1, "some" => some (.i 1)
  | 1, "listed" => some (.i 1)
  | 1, "plus" => some (.i 2)
  | 1, "minus" => some (.i 2)
  | 1, "choose" => some (.i 3)
  | 1, "fixed" => some (.i 2)
  | 1, "told" => some (.i 2)
  | 1, "lessened" => some (.i 3)
  | _, _ => none
def JP : Prog := ⟨G, Tb, F, 100000⟩
end J
set_option maxRecDepth 10000
namespace J
def Pu (k f : Nat) (ws : List W) (r : D) : Prop := ∀ j, k ≤ j → ∀ h, call JP j f ws h = some (.d r, h)
abbrev cx (j : Nat) : Ctx := ⟨G, Tb, call JP j, JP.wf⟩
theorem pu {k f : Nat} {d : Def} {ws : List W} {r : D} (hF : JP.F f = some d) (hl : ws.length = d.np) (H : ∀ j, k ≤ j → ∀ h, ret h.length (execs (cx j) d.body (ws.map some ++ List.replicate (d.ns - d.np) none) h) = some (.d r, h)) : Pu (k + 1) f ws r := by
  intro j hj h
  obtain ⟨i, rfl⟩ : ∃ i, j = i + 1 := ⟨j - 1, by omega⟩
  rw [call_def hF hl]
  exact H i (by omega) h
theorem pl {k f : Nat} {d : Def} {ws : List W} {h : LH} {R : Option (W × LH)} (hF : JP.F f = some d) (hl : ws.length = d.np) (H : ret h.length (execs (cx k) d.body (ws.map some ++ List.replicate (d.ns - d.np) none) h) = R) : call JP (k + 1) f ws h = R := by
  rw [call_def hF hl]
  exact H
theorem Pu.go {k f ws r} (p : Pu k f ws r) {j : Nat} (hj : k ≤ j) (h : LH) : call JP j f ws h = some (.d r, h) := p j hj h
theorem Pu.mono {k m f ws r} (p : Pu k f ws r) (hm : k ≤ m) : Pu m f ws r := fun j hj h => p j (by omega) h
theorem Pu.inj {k k' f : Nat} {ws : List W} {r r' : D} (h : Pu k f ws r) (h' : Pu k' f ws r') : r = r' := by
  have h1 := h (max k k') (by omega) []
  have h2 := h' (max k k') (by omega) []
  rw [h1] at h2
  simpa using h2
def ars : List (String × Nat) := [("first", 1), ("rest", 1), ("join", 2), ("more", 2), ("item", 2), ("put", 3), ("length", 1), ("place", 2), ("same", 2), ("less", 2), ("some", 1), ("listed", 1), ("plus", 2), ("minus", 2), ("choose", 3), ("fixed", 2), ("told", 2), ("lessened", 3)]
inductive Pl : Nat → D → Prop where
  | none (n : Nat) : Pl n .none
  | i (n : Nat) (x : Int) : Pl n (.i x)
  | s (n : Nat) (x : String) : Pl n (.s x)
  | t (n : Nat) (xs : List D) : xs.length ≤ 1000 → (∀ x ∈ xs, Pl n x) → Pl (n + 1) (.t xs)
inductive Ex (M : Int) : Nat → D → Prop where
  | know (n : Nat) (x : D) : Pl 2 x → Ex M n (.t [.s "know", x])
  | of (n : Nat) (v : Int) : 0 ≤ v → v < M → Ex M n (.t [.s "of", .i v])
  | op (n : Nat) (s : String) (as : List D) : (s, as.length) ∈ ars → (∀ a ∈ as, Ex M n a) → Ex M (n + 1) (.t (.s s :: as))
theorem Ex.up {M : Int} {n : Nat} {e : D} (h : Ex M n e) : Ex M (n + 1) e := by
  induction h with
  | know n x h => exact .know _ x h
  | of n v h1 h2 => exact .of _ v h1 h2
  | op n s as hs ha ih => exact .op _ s as hs ih
theorem Ex.le {M : Int} {n m : Nat} {e : D} (h : Ex M n e) (hm : n ≤ m) : Ex M m e := by
  induction hm with
  | refl => exact h
  | step _ ih => exact ih.up
theorem ars_ne {s : String} {n : Nat} (h : (s, n) ∈ ars) : s ≠ "know" ∧ s ≠ "of" ∧ 1 ≤ n ∧ n ≤ 3 ∧ (s = "item" → n = 2) ∧ (s = "join" → n = 2) ∧ (s = "first" → n = 1) := by
  have : ∀ p ∈ ars, p.1 ≠ "know" ∧ p.1 ≠ "of" ∧ 1 ≤ p.2 ∧ p.2 ≤ 3 ∧ (p.1 = "item" → p.2 = 2) ∧ (p.1 = "join" → p.2 = 2) ∧ (p.1 = "first" → p.2 = 1) := by decide
  exact this _ h
def oD : Option Int → D
  | some i => .i i
  | none => .none
@[simp] theorem oD_some (i : Int) : oD (some i) = .i i := rfl
@[simp] theorem oD_none : oD none = .none := rfl
theorem Ex.len {M : Int} {n : Nat} {e : D} (he : Ex M n e) : ∃ (s : String) (a : D) (r : List D), e = .t (.s s :: a :: r) := by
  cases he with
  | know n x => exact ⟨_, _, _, rfl⟩
  | of n x => exact ⟨_, _, _, rfl⟩
  | op n s as hs ha =>
    have := (ars_ne hs).2.2.1
    rcases as with _ | ⟨a, r⟩
    · simp at this
    · exact ⟨_, _, _, rfl⟩
theorem Pl.nb {n : Nat} {x : D} (h : Pl n x) : ∀ k, x ≠ .b k := by cases h <;> simp
def ib (x : D) (m : Int) : Bool := match x with
  | .i k => decide (0 ≤ k) && decide (k < m)
  | _ => false
@[simp] theorem ib_i (k m : Int) : ib (.i k) m = (decide (0 ≤ k) && decide (k < m)) := rfl
@[simp] theorem ib_n (m : Int) : ib .none m = false := rfl
@[simp] theorem ib_s (s : String) (m : Int) : ib (.s s) m = false := rfl
@[simp] theorem ib_t (s : List D) (m : Int) : ib (.t s) m = false := rfl
theorem below (n : Nat) (x : D) (hx : Pl n x) (m : Int) : Pu 1 f_is_number_below [.d x, .d (.i m)] (.b (ib x m)) := by
  refine pu (d := b_is_number_below) rfl rfl ?_
  intro j hj h
  cases hx <;> simp [b_is_number_below, isIntW]
  split <;> simp_all
  omega
theorem asked (M v m : Int) (hm : 1 ≤ m) (d : Nat) (e : D) (he : Ex M d e) : ∃ o : Option Int, (∀ i, o = some i → 0 ≤ i ∧ i < m) ∧ Pu 3 f_asked_item [.d e, .d (.i v), .d (.i m)] (oD o) ∧ Pu 3 f_law_item_asked [.d e, .d (.i v), .d (.i m)] (.i (o.getD (-1))) := by
  by_cases h1 : eqv e (.t [.s "first", .t [.s "of", .i v]]) = true
  · refine ⟨some 0, by simp; omega, ?_, ?_⟩
    · refine pu (d := b_asked_item) rfl rfl fun j hj h => ?_
      simp [b_asked_item, h1]
    · refine pu (d := b_law_item_asked) rfl rfl fun j hj h => ?_
      simp [b_law_item_asked, h1]
  simp only [Bool.not_eq_true] at h1
  by_cases h2 : ∃ x b y, e = .t [.s "item", .t [.s "know", x], b] ∧ eqv b (.t [.s "of", .i v]) = true ∧ Pl 2 x ∧ x = .i y ∧ 0 ≤ y ∧ y < m
  · obtain ⟨x, b, y, rfl, hb, hp, rfl, hy, hz⟩ := h2
    refine ⟨some y, by simp; omega, ?_, ?_⟩
    · refine pu (d := b_asked_item) rfl rfl fun j hj h => ?_
      simp [b_asked_item, h1, hb, (below 2 (.i y) hp m).go (j := j) (by omega), hy, hz]
    · refine pu (d := b_law_item_asked) rfl rfl fun j hj h => ?_
      simp [b_law_item_asked, h1, hb, hy, hz]
  · refine ⟨none, by simp, ?_, ?_⟩
    · refine pu (d := b_asked_item) rfl rfl fun j hj h => ?_
      cases he with
      | know n x => simp [b_asked_item, h1]
      | of n x => simp [b_asked_item, h1]
      | op n s as hs ha =>
        by_cases hi : s = "item"
        · subst hi
          have hl := (ars_ne hs).2.2.2.2.1 rfl
          obtain ⟨a, b, rfl⟩ : ∃ a b, as = [a, b] := by
            rcases as with _ | ⟨a, _ | ⟨b, _ | ⟨c, r⟩⟩⟩ <;> simp at hl
            exact ⟨a, b, rfl⟩
          cases hb : eqv b (.t [.s "of", .i v])
          · simp [b_asked_item, h1, hb]
          · have ea := ha a (by simp)
            cases ea with
            | know n x hp =>
              have : ib x m = false := by
                cases hp <;> simp
                intro h0
                apply Classical.byContradiction
                intro h3
                exact h2 ⟨_, _, _, rfl, hb, .i _ _, rfl, h0, by omega⟩
              simp [b_asked_item, h1, hb, (below 2 x hp m).go (j := j) (by omega), this]
            | of n x => simp [b_asked_item, h1, hb]
            | op n s as hs' ha =>
              have := (ars_ne hs').1
              simp [b_asked_item, h1, hb, this]
        · simp [b_asked_item, h1, hi]
    · refine pu (d := b_law_item_asked) rfl rfl fun j hj h => ?_
      cases he with
      | know n x => simp [b_law_item_asked, h1]
      | of n x => simp [b_law_item_asked, h1]
      | op n s as hs ha =>
        by_cases hi : s = "item"
        · subst hi
          have hl := (ars_ne hs).2.2.2.2.1 rfl
          obtain ⟨a, b, rfl⟩ : ∃ a b, as = [a, b] := by
            rcases as with _ | ⟨a, _ | ⟨b, _ | ⟨c, r⟩⟩⟩ <;> simp at hl
            exact ⟨a, b, rfl⟩
          cases hb : eqv b (.t [.s "of", .i v])
          · simp [b_law_item_asked, h1, hb]
          · have ea := ha a (by simp)
            cases ea with
            | know n x hp =>
              have : ib x m = false := by
                cases hp <;> simp
                intro h0
                apply Classical.byContradiction
                intro h3
                exact h2 ⟨_, _, _, rfl, hb, .i _ _, rfl, h0, by omega⟩
              cases hp <;> simp [b_law_item_asked, h1, hb]
              simp at this
              omega
            | of n x => simp [b_law_item_asked, h1, hb]
            | op n s as hs' ha =>
              have := (ars_ne hs').1
              simp [b_law_item_asked, h1, hb, this]
        · simp [b_law_item_asked, h1, hi]
@[simp] theorem isNW_oD (o : Option Int) : isNW (.d (oD o)) = o.isNone := by cases o <;> rfl
theorem args_op {s : String} (a : List D) (h1 : s ≠ "know") (h2 : s ≠ "of") : Pu 1 f_arguments_of [.d (.t (.s s :: a))] (.t a) := by
  refine pu (d := b_arguments_of) rfl rfl fun j hj h => ?_
  simp [b_arguments_of, h1, h2]
theorem args_know (x : D) : Pu 1 f_arguments_of [.d (.t [.s "know", x])] (.t []) := by
  refine pu (d := b_arguments_of) rfl rfl fun j hj h => ?_
  simp [b_arguments_of]
theorem args_of (x : D) : Pu 1 f_arguments_of [.d (.t [.s "of", x])] (.t []) := by
  refine pu (d := b_arguments_of) rfl rfl fun j hj h => ?_
  simp [b_arguments_of]
theorem looks (M v m : Int) (hm : 1 ≤ m) : ∀ (d : Nat) (e : D), Ex M d e → ∃ b, Pu (d + 5) f_looks_at_items [.d e, .d (.i v), .d (.i m)] (.b b) ∧ Pu (d + 5) f_law_looks_v1 [.d e, .d (.i v), .d (.i m)] (.b b) := by
  intro d e he
  induction he with
  | know n x hx =>
    obtain ⟨o, ho, h1, h2⟩ := asked M v m hm n _ (.know n x hx)
    refine ⟨true, ?_, ?_⟩
    · refine pu (d := b_looks_at_items) rfl rfl fun j hj h => ?_
      rcases o with _ | o <;> simp [b_looks_at_items, h1.go (j := j) (by omega), (args_know x).go (j := j) (by omega), compItems, bools]
    · refine pu (d := b_law_looks_v1) rfl rfl fun j hj h => ?_
      simp [b_law_looks_v1, h2.go (j := j) (by omega)]
  | of n u h0 hu =>
    obtain ⟨o, ho, h1, h2⟩ := asked M v m hm n _ (.of n u h0 hu)
    refine ⟨decide (u ≠ v) || o.isSome, ?_, ?_⟩
    · refine pu (d := b_looks_at_items) rfl rfl fun j hj h => ?_
      rcases o with _ | o <;> simp [b_looks_at_items, h1.go (j := j) (by omega), (args_of (.i u)).go (j := j) (by omega), compItems, bools]
      by_cases h : u = v <;> simp [h]
    · refine pu (d := b_law_looks_v1) rfl rfl fun j hj h => ?_
      rcases o with _ | o
      · simp [b_law_looks_v1, h2.go (j := j) (by omega)]
        rfl
      · have := ho o rfl
        simp [b_law_looks_v1, h2.go (j := j) (by omega), this.1]
  | op n s as hs ha ih =>
    obtain ⟨o, ho, h1, h2⟩ := asked M v m hm _ _ (.op n s as hs ha)
    obtain ⟨β, hβ⟩ := sk ih
    obtain ⟨hk, hof, _, hl3, _⟩ := ars_ne hs
    refine ⟨as.all β || o.isSome, ?_, ?_⟩
    · refine pu (d := b_looks_at_items) rfl rfl fun j hj h => ?_
      rcases o with _ | o
      · simp [b_looks_at_items, h1.go (j := j) (by omega), hof, (args_op as hk hof).go (j := j) (by omega)]
        rw [comp_n (g := fun a => .d (.b (β a))) (fun x hx => by simp [(hβ x hx).1.go (j := j) (by omega)]) (by simp [SZ]; omega)]
        simp
      · simp [b_looks_at_items, h1.go (j := j) (by omega), hof, (args_op as hk hof).go (j := j) (by omega)]
    · refine pu (d := b_law_looks_v1) rfl rfl fun j hj h => ?_
      rcases o with _ | o
      · obtain ⟨ρ', ⟨x, hI⟩, e⟩ := forItems_all (f := fb (cx j) (.n 3) l0_law_looks_v1) (w := .d (.b false)) (h := h) (fun ρ => ∃ x, ρ = [some (.d (.t (.s s :: as))), some (.d (.i v)), some (.d (.i m)), x]) β (xs := as) (fun a ha ρ ⟨x, hρ⟩ => by
          subst hρ
          refine ⟨_, ⟨some (.d a), rfl⟩, ?_⟩
          simp [fb, l0_law_looks_v1, (hβ a ha).2.go (j := j) (by omega)]
          cases β a <;> simp) [some (.d (.t (.s s :: as))), some (.d (.i v)), some (.d (.i m)), none] ⟨_, rfl⟩
        generalize as.all β = bb at e ⊢
        cases bb <;> simp [b_law_looks_v1, h2.go (j := j) (by omega), hk, hof, e]
      · have := ho o rfl
        simp [b_law_looks_v1, h2.go (j := j) (by omega), hk, hof, this.1]
end J
set_option maxRecDepth 10000
namespace J
def joins : Nat → D → Option (List D × D)
  | 0, e => some ([], e)
  | n + 1, .t [.s s, a, b] => if s = "join" then (joins n b).map (fun p => (a :: p.1, p.2)) else none
  | _ + 1, _ => none
theorem joins_len : ∀ (n : Nat) (e : D) (its : List D) (e' : D), joins n e = some (its, e') → its.length = n
  | 0, e, its, e', h => by simp [joins] at h; obtain ⟨rfl, rfl⟩ := h; rfl
  | n + 1, e, its, e', h => by
    unfold joins at h
    split at h
    · simp at *
    · rename_i m s a b heq
      obtain rfl : n = m := by omega
      split at h
      · cases hb : joins n b with
        | none => rw [hb] at h; simp at h
        | some p =>
          rw [hb] at h; simp at h
          obtain ⟨rfl, rfl⟩ := h
          simp [joins_len n b p.1 p.2 hb]
      · simp at h
    · simp at h
theorem joins_not {M : Int} {d : Nat} {e : D} (he : Ex M d e) (n : Nat) : (∃ d' a b, d = d' + 1 ∧ e = .t [.s "join", a, b] ∧ Ex M d' a ∧ Ex M d' b) ∨ (joins (n + 1) e = none ∧ ∃ s r, e = .t (.s s :: r) ∧ s ≠ "join") := by
  cases he with
  | know n x hx => exact .inr ⟨rfl, _, _, rfl, by decide⟩
  | of n v h1 h2 => exact .inr ⟨rfl, _, _, rfl, by decide⟩
  | op n s as hs ha =>
    by_cases h : s = "join"
    · subst h
      have hl := (ars_ne hs).2.2.2.2.2.1 rfl
      obtain ⟨a, b, rfl⟩ : ∃ a b, as = [a, b] := by
        rcases as with _ | ⟨a, _ | ⟨b, _ | ⟨c, r⟩⟩⟩ <;> simp at hl
        exact ⟨a, b, rfl⟩
      exact .inl ⟨_, _, _, rfl, rfl, ha a (by simp), ha b (by simp)⟩
    · refine .inr ⟨?_, _, _, rfl, h⟩
      unfold joins
      split
      · simp at *
      · rename_i heq
        simp at heq
        obtain ⟨rfl, _⟩ := heq
        rw [if_neg h]
      · rfl
theorem joins_ex {M : Int} : ∀ (n d : Nat) (e : D) (its : List D) (e' : D), Ex M d e → joins n e = some (its, e') → (∀ x ∈ its, Ex M d x) ∧ Ex M d e'
  | 0, d, e, its, e', he, h => by simp [joins] at h; obtain ⟨rfl, rfl⟩ := h; exact ⟨by simp, he⟩
  | n + 1, d, e, its, e', he, h => by
    rcases joins_not he n with ⟨d', a, b, rfl, rfl, ha, hb⟩ | ⟨h1, _⟩
    · simp only [joins, if_true] at h
      cases hj : joins n b with
      | none => rw [hj] at h; simp at h
      | some p =>
        rw [hj] at h; simp at h
        obtain ⟨rfl, rfl⟩ := h
        obtain ⟨h2, h3⟩ := joins_ex n d' b p.1 p.2 hb hj
        exact ⟨by simp; exact ⟨ha.up, fun x hx => (h2 x hx).up⟩, h3.up⟩
    · rw [h1] at h; simp at h
def lst (m : Nat) (e : D) : Option (List D) := match joins m e with
  | some (its, e') => if eqv e' (.t [.s "know", .t []]) = true then some its else none
  | none => none
def oT : Option (List D) → D
  | some l => .t l
  | none => .none
@[simp] theorem oT_some (i : List D) : oT (some i) = .t i := rfl
@[simp] theorem oT_none : oT none = .none := rfl
theorem peel {f : W → Env → LH → Option (Fl × Env × LH)} {M : Int} {h : LH} {n : W} {R : Option (W × LH)}
    (hj : ∀ x a b acc z, acc.length < 16777216 → f x [some (.d (.t [.s "join", a, b])), some n, some (.l h.length), z] (h ++ [acc]) = some (.nxt, [some (.d b), some n, some (.l h.length), some x], h ++ [acc ++ [.d a]]))
    (hn : ∀ x s r acc z, s ≠ "join" → ∃ w ρ' h', f x [some (.d (.t (.s s :: r))), some n, some (.l h.length), z] (h ++ [acc]) = some (.ret w, ρ', h') ∧ fin h.length w h' = R) :
    ∀ (ks : List W) (d : Nat) (e : D) (acc : List W) (z : Option W), Ex M d e → acc.length + ks.length ≤ 16777216 →
      (joins ks.length e = none → ∃ w ρ' h', forItems f ks [some (.d e), some n, some (.l h.length), z] (h ++ [acc]) = some (.ret w, ρ', h') ∧ fin h.length w h' = R) ∧
      (∀ its e', joins ks.length e = some (its, e') → ∃ z', forItems f ks [some (.d e), some n, some (.l h.length), z] (h ++ [acc]) = some (.nxt, [some (.d e'), some n, some (.l h.length), z'], h ++ [acc ++ its.map .d]))
  | [], d, e, acc, z, he, _ => ⟨by simp [joins], by
      intro its e' h1
      simp [joins] at h1
      obtain ⟨rfl, rfl⟩ := h1
      exact ⟨z, by simp [forItems]⟩⟩
  | k :: ks, d, e, acc, z, he, hl => by
    simp only [List.length_cons] at hl ⊢
    rcases joins_not he ks.length with ⟨d', a, b, rfl, rfl, ha, hb⟩ | ⟨h1, s, r, rfl, h2⟩
    · obtain ⟨h3, h4⟩ := peel hj hn ks d' b (acc ++ [.d a]) (some k) hb (by simp; omega)
      unfold forItems
      rw [hj k a b acc z (by omega)]
      simp only [joins, if_true]
      refine ⟨fun h5 => h3 (by simpa using h5), ?_⟩
      intro its e' h5
      cases hjj : joins ks.length b with
      | none => rw [hjj] at h5; simp at h5
      | some p =>
        rw [hjj] at h5; simp at h5
        obtain ⟨rfl, rfl⟩ := h5
        obtain ⟨z', e⟩ := h4 p.1 p.2 hjj
        exact ⟨z', by rw [e]; simp⟩
    · unfold forItems
      obtain ⟨w, ρ', h', e, hR⟩ := hn k s r acc z h2
      rw [e, h1]
      exact ⟨fun _ => ⟨w, ρ', h', rfl, hR⟩, by simp⟩
theorem range_len (m : Nat) : (range 0 (m : Int)).length = m := by simp [range]
theorem listed (M : Int) (d m : Nat) (e : D) (he : Ex M d e) (hm : m ≤ 100) : Pu 1 f_listed_items [.d e, .d (.i m)] (oT (lst m e)) := by
  refine pu (d := b_listed_items) rfl rfl fun j hj h => ?_
  have hp := peel (f := fb (cx j) (.n 3) l0_listed_items) (h := h) (n := .d (.i m)) (M := M) (R := some (.d .none, h)) (by
    intro x a b acc z hacc
    simp [fb, l0_listed_items, hacc]) (by
    intro x s r acc z hs
    refine ⟨.d .none, _, _, by simp [fb, l0_listed_items, hs]; exact ⟨rfl, rfl⟩, by simp⟩) (range 0 m) d e [] none he (by rw [range_len]; simp; omega)
  rw [range_len] at hp
  have h62 : inR (m : Int) := inR_of (by omega) (by omega)
  unfold lst
  cases hj' : joins m e with
  | none =>
    obtain ⟨w, ρ', h', e1, e2⟩ := hp.1 hj'
    simp [b_listed_items, h62, e1, e2]
  | some p =>
    obtain ⟨z', e1⟩ := hp.2 p.1 p.2 hj'
    have hl := joins_len _ _ _ _ hj'
    have : p.1.length ≤ 16777216 := by omega
    simp [b_listed_items, h62, e1]
    cases eqv p.2 (.t [.s "know", .t []]) <;> simp [this]
theorem listed_law (M : Int) (d m : Nat) (e : D) (he : Ex M d e) (hm : m ≤ 100) (j : Nat) (hj : 1 ≤ j) (h : LH) : call JP j f_law_items_of [.d e, .d (.i m)] h = some (.l h.length, h ++ [((lst m e).getD []).map .d]) := by
  obtain ⟨j, rfl⟩ : ∃ i, j = i + 1 := ⟨j - 1, by omega⟩
  refine pl (d := b_law_items_of) rfl rfl ?_
  have hp := peel (f := fb (cx j) (.n 3) l0_law_items_of) (h := h) (n := .d (.i m)) (M := M) (R := some (.l h.length, h ++ [[]])) (by
    intro x a b acc z hacc
    simp [fb, l0_law_items_of, hacc]) (by
    intro x s r acc z hs
    refine ⟨.l (h.length + 1), _, _, by simp [fb, l0_law_items_of, hs]; exact ⟨rfl, rfl⟩, by simp [fin]⟩) (range 0 m) d e [] none he (by rw [range_len]; simp; omega)
  rw [range_len] at hp
  have h62 : inR (m : Int) := inR_of (by omega) (by omega)
  unfold lst
  cases hj' : joins m e with
  | none =>
    obtain ⟨w, ρ', h', e1, e2⟩ := hp.1 hj'
    simp [b_law_items_of, h62, e1, e2]
  | some p =>
    obtain ⟨z', e1⟩ := hp.2 p.1 p.2 hj'
    have hl := joins_len _ _ _ _ hj'
    have : p.1.length ≤ 16777216 := by omega
    simp [b_law_items_of, h62, e1]
    cases eqv p.2 (.t [.s "know", .t []]) <;> simp [fin]
end J
set_option maxRecDepth 10000
namespace J
theorem forItems_allH {f : W → Env → LH → Option (Fl × Env × LH)} {w : W} (I : Env → LH → Prop) (b : D → Bool) : ∀ {xs : List D}, (∀ x ∈ xs, ∀ ρ h, I ρ h → ∃ ρ' h', I ρ' h' ∧ f (.d x) ρ h = if b x then some (.nxt, ρ', h') else some (.ret w, ρ', h')) → ∀ ρ h, I ρ h → ∃ ρ' h', I ρ' h' ∧ forItems f (xs.map .d) ρ h = if xs.all b then some (.nxt, ρ', h') else some (.ret w, ρ', h')
  | [], _, ρ, h, hi => ⟨ρ, h, hi, rfl⟩
  | x :: xs, hf, ρ, h, hi => by
    obtain ⟨ρ1, g1, h1, e1⟩ := hf x List.mem_cons_self ρ h hi
    simp only [List.map_cons, forItems, e1]
    cases hb : b x with
    | false => exact ⟨ρ1, g1, h1, by simp [hb]⟩
    | true =>
      obtain ⟨ρ2, g2, h2, e2⟩ := forItems_allH I b (fun y hy => hf y (List.mem_cons_of_mem _ hy)) ρ1 g1 h1
      exact ⟨ρ2, g2, h2, by simp [hb, e2]⟩
theorem forLive_all {f : W → Env → LH → Option (Fl × Env × LH)} {w : W} {H : LH} {a : Nat} {xs : List D} (I : Env → Prop) (b : D → Bool) (hH : H[a]? = some (xs.map .d)) (hf : ∀ x ∈ xs, ∀ ρ, I ρ → ∃ ρ', I ρ' ∧ f (.d x) ρ H = if b x then some (.nxt, ρ', H) else some (.ret w, ρ', H)) : ∀ (n i : Nat) (ρ : Env), xs.length - i < n → I ρ → ∃ ρ', I ρ' ∧ forLive f a n i ρ H = if (xs.drop i).all b then some (.nxt, ρ', H) else some (.ret w, ρ', H)
  | 0, i, ρ, hn, _ => by omega
  | n + 1, i, ρ, hn, hi => by
    unfold forLive
    rw [hH]
    dsimp only
    by_cases hlt : i < xs.length
    · have e0 : (xs.map W.d)[i]? = some (.d xs[i]) := by simp [hlt]
      rw [e0]
      obtain ⟨ρ1, h1, e1⟩ := hf xs[i] (List.getElem_mem hlt) ρ hi
      dsimp only
      rw [e1, List.drop_eq_getElem_cons hlt]
      cases hb : b xs[i] with
      | false =>
        refine ⟨ρ1, h1, ?_⟩
        rw [List.all_cons, hb]; rfl
      | true =>
        obtain ⟨ρ2, h2, e2⟩ := forLive_all I b hH hf n (i + 1) ρ1 (by omega) h1
        refine ⟨ρ2, h2, ?_⟩
        rw [List.all_cons, hb, Bool.true_and]; exact e2
    · have e0 : (xs.map W.d)[i]? = none := by simp; omega
      rw [e0, List.drop_of_length_le (by omega)]
      exact ⟨ρ, hi, rfl⟩
theorem skP {α β : Type} [Inhabited β] {Q : α → Prop} {P : α → β → Prop} (h : ∀ a, Q a → ∃ b, P a b) : ∃ f : α → β, ∀ a, Q a → P a (f a) := by
  classical
  refine ⟨fun a => if ha : Q a then Classical.choose (h a ha) else default, fun a ha => ?_⟩
  simp only [ha, dif_pos]
  exact Classical.choose_spec (h a ha)
theorem with_items (M v : Int) (hM : 0 ≤ M) (m : Nat) (hm : 1 ≤ m) : ∀ (d : Nat) (e : D), Ex M d e → ∃ e', Ex (M + 2 * m) d e' ∧ Pu (d + 5) f_with_items [.d e, .d (.i M), .d (.i v), .d (.i m)] e' ∧ Pu (d + 5) f_law_split_part [.d e, .d (.i M), .d (.i v), .d (.i m)] e' := by
  intro d e he
  have hsome : ∀ (d : Nat) (e : D) (he : Ex M d e) (i : Int), (0 ≤ i ∧ i < m) → Pu 3 f_asked_item [.d e, .d (.i v), .d (.i m)] (oD (some i)) → Pu 3 f_law_item_asked [.d e, .d (.i v), .d (.i m)] (.i ((some i).getD (-1))) → ∃ e', Ex (M + 2 * m) d e' ∧ Pu (d + 5) f_with_items [.d e, .d (.i M), .d (.i v), .d (.i m)] e' ∧ Pu (d + 5) f_law_split_part [.d e, .d (.i M), .d (.i v), .d (.i m)] e' := by
    intro d e he i hi h1 h2
    refine ⟨.t [.s "of", .i (M + i)], .of _ _ (by omega) (by omega), ?_, ?_⟩
    · refine pu (d := b_with_items) rfl rfl fun j hj h => ?_
      simp [b_with_items, h1.go (j := j) (by omega)]
    · refine pu (d := b_law_split_part) rfl rfl fun j hj h => ?_
      simp [b_law_split_part, h2.go (j := j) (by omega), hi.1]
  induction he with
  | know n x hx =>
    obtain ⟨o, ho, h1, h2⟩ := asked M v m (by omega) n _ (.know n x hx)
    rcases o with _ | i
    · refine ⟨.t [.s "know", x], .know _ _ hx, ?_, ?_⟩
      · refine pu (d := b_with_items) rfl rfl fun j hj h => ?_
        simp [b_with_items, h1.go (j := j) (by omega)]
      · refine pu (d := b_law_split_part) rfl rfl fun j hj h => ?_
        simp [b_law_split_part, h2.go (j := j) (by omega)]
    · exact hsome n _ (.know n x hx) i (ho i rfl) h1 h2
  | of n u h0 hu =>
    obtain ⟨o, ho, h1, h2⟩ := asked M v m (by omega) n _ (.of n u h0 hu)
    rcases o with _ | i
    · refine ⟨.t [.s "of", .i u], .of _ _ h0 (by omega), ?_, ?_⟩
      · refine pu (d := b_with_items) rfl rfl fun j hj h => ?_
        simp [b_with_items, h1.go (j := j) (by omega)]
      · refine pu (d := b_law_split_part) rfl rfl fun j hj h => ?_
        simp [b_law_split_part, h2.go (j := j) (by omega)]
    · exact hsome n _ (.of n u h0 hu) i (ho i rfl) h1 h2
  | op n s as hs ha ih =>
    obtain ⟨o, ho, h1, h2⟩ := asked M v m (by omega) _ _ (.op n s as hs ha)
    rcases o with _ | i
    · haveI : Inhabited D := ⟨.none⟩
      obtain ⟨β, hβ⟩ := sk ih
      obtain ⟨hk, hof, _, hl3, _⟩ := ars_ne hs
      refine ⟨.t (.s s :: as.map β), .op _ _ _ (by simpa using hs) (by
        intro a ha'
        obtain ⟨x, hx, rfl⟩ := List.mem_map.1 ha'
        exact (hβ x hx).1), ?_, ?_⟩
      · refine pu (d := b_with_items) rfl rfl fun j hj h => ?_
        simp [b_with_items, h1.go (j := j) (by omega), hk, hof]
        rw [comp_n (g := fun a => .d (β a)) (fun x hx => by simp [(hβ x hx).2.1.go (j := j) (by omega)]) (by simp; omega)]
        have h4 : as.length ≤ 16777216 := by omega
        have h5 : 1 + as.length ≤ 16777216 := by omega
        simp [h4, h5]
      · refine pu (d := b_law_split_part) rfl rfl fun j hj h => ?_
        simp [b_law_split_part, h2.go (j := j) (by omega), hk, hof]
        rw [comp_n (g := fun a => .d (β a)) (fun x hx => by simp [(hβ x hx).2.2.go (j := j) (by omega)]) (by simp; omega)]
        have h4 : as.length ≤ 16777216 := by omega
        have h5 : 1 + as.length ≤ 16777216 := by omega
        simp [h4, h5]
    · exact hsome _ _ (.op n s as hs ha) i (ho i rfl) h1 h2
def IsAs (M : Int) (d : Nat) (a : D) : Prop := ∃ u e, a = .t [.i u, e] ∧ 0 ≤ u ∧ u < M ∧ Ex M d e
def IsJ (M : Int) (d size : Nat) (j : D) : Prop := (∃ t : Int, j = .t [.s "goto", .i t] ∧ 0 ≤ t ∧ t < size) ∨ (∃ (e : D) (t u : Int), j = .t [.s "test", e, .i t, .i u] ∧ Ex M d e ∧ 0 ≤ t ∧ t < size ∧ 0 ≤ u ∧ u < size) ∨ ∃ e, j = .t [.s "end", e] ∧ Ex M d e
def IsBl (M : Int) (d size : Nat) (b : D) : Prop := ∃ as j, b = .t [.t as, j] ∧ as.length ≤ 100 ∧ (∀ a ∈ as, IsAs M d a) ∧ IsJ M d size j
def IsPr (M : Int) (d : Nat) (p : D) : Prop := 0 ≤ M ∧ ∃ bs, p = .t [.i M, .t bs] ∧ 1 ≤ bs.length ∧ bs.length ≤ 4 ∧ ∀ b ∈ bs, IsBl M d bs.length b
theorem lst_ex {M : Int} {d m : Nat} {e : D} (he : Ex M d e) {its : List D} (h : lst m e = some its) : its.length = m ∧ ∀ x ∈ its, Ex M d x := by
  unfold lst at h
  cases hj : joins m e with
  | none => rw [hj] at h; simp at h
  | some p =>
    rw [hj] at h
    simp only at h
    split at h
    · simp at h; subst h
      exact ⟨joins_len _ _ _ _ hj, (joins_ex _ _ _ _ _ he hj).1⟩
    · simp at h
def Spl (v : Int) (m : Nat) (a : D) : Prop := ∀ u e, a = .t [.i u, e] → u = v → ∃ its, lst m e = some its
def LkT (v : Int) (m d : Nat) (x : D) : Prop := Pu (d + 5) f_law_looks_v1 [.d x, .d (.i v), .d (.i m)] (.b true)
def GoodAs (v : Int) (m d : Nat) (a : D) : Prop := ∀ u e, a = .t [.i u, e] → (u = v → ∃ its, lst m e = some its ∧ ∀ x ∈ its, LkT v m d x) ∧ (u ≠ v → LkT v m d e)
/-- an assignment: can it be split -/
theorem can_be (M v : Int) (m : Nat) (hm : 1 ≤ m) (hm3 : m ≤ 100) (d : Nat) (a : D) (ha : IsAs M d a) : ∃ b, ((b = true → Spl v m a) ∧ (GoodAs v m d a → b = true)) ∧ Pu (d + 6) f_can_be_split [.d a, .d (.i v), .d (.i m)] (.b b) ∧
    ∀ j, d + 5 ≤ j → ∀ P A B x5 x6 x7 x8 H, ∃ ρ' H', ((∃ y5 y6 y7 y8, ρ' = [some P, some (.d (.i v)), some (.d (.i m)), some A, some B, y5, y6, y7, y8]) ∧ ∃ K, H' = H ++ K) ∧ fb (cx j) (.t [5, 6]) l1_law_can_split (.d a) [some P, some (.d (.i v)), some (.d (.i m)), some A, some B, x5, x6, x7, x8] H = if b = true then some (.nxt, ρ', H') else some (.ret (.d (.b false)), ρ', H') := by
  obtain ⟨u, e, rfl, hu0, huM, he⟩ := ha
  haveI : Inhabited Bool := ⟨true⟩
  obtain ⟨β, hβ⟩ := skP (fun x (hx : Ex M d x) => looks M v m (by omega) d x hx)
  by_cases huv : u = v
  · subst huv
    cases hl : lst m e with
    | none =>
      refine ⟨false, ⟨by simp, fun hg => by obtain ⟨its, h1, _⟩ := (hg _ _ rfl).1 rfl; rw [hl] at h1; simp at h1⟩, ?_, ?_⟩
      · refine pu (d := b_can_be_split) rfl rfl fun j hj h => ?_
        simp [b_can_be_split, (listed M d m e he hm3).go (j := j) (by omega), hl]
      · intro j hj P A B x5 x6 x7 x8 H
        refine ⟨[some P, some (.d (.i u)), some (.d (.i m)), some A, some B, some (.d (.i u)), some (.d e), some (.l H.length), x8], H ++ [[]], ⟨⟨_, _, _, _, rfl⟩, ⟨_, rfl⟩⟩, ?_⟩
        simp [fb, l1_law_can_split, listed_law M d m e he hm3 j (by omega), hl]
    | some its =>
      obtain ⟨hlen, hits⟩ := lst_ex he hl
      refine ⟨its.all β, ⟨(fun _ u' e' h1 h2 => by simp at h1; obtain ⟨rfl, rfl⟩ := h1; exact ⟨its, hl⟩), fun hg => by
        obtain ⟨its', h1, h2⟩ := (hg _ _ rfl).1 rfl
        rw [hl] at h1
        simp at h1
        subst h1
        rw [List.all_eq_true]
        intro x hx
        have := Pu.inj (hβ x (hits x hx)).2 (h2 x hx)
        simpa using this⟩, ?_, ?_⟩
      · refine pu (d := b_can_be_split) rfl rfl fun j hj h => ?_
        simp [b_can_be_split, (listed M d m e he hm3).go (j := j) (by omega), hl]
        rw [comp_n (g := fun a => .d (.b (β a))) (fun x hx => by simp [(hβ x (hits x hx)).1.go (j := j) (by omega)]) (by simp; omega)]
        simp
      · intro j hj P A B x5 x6 x7 x8 H
        have h0 : its.length ≠ 0 := by omega
        obtain ⟨ρ', ⟨y, rfl⟩, e1⟩ := forLive_all (f := fb (cx j) (.n 8) l0_law_can_split) (w := .d (.b false)) (H := H ++ [its.map .d]) (a := H.length) (xs := its) (fun ρ => ∃ y, ρ = [some P, some (.d (.i u)), some (.d (.i m)), some A, some B, some (.d (.i u)), some (.d e), some (.l H.length), y]) β (by simp) (fun x hx ρ ⟨y, hρ⟩ => by
          subst hρ
          refine ⟨_, ⟨some (.d x), rfl⟩, ?_⟩
          simp [fb, l0_law_can_split, (hβ x (hits x hx)).2.go (j := j) (by omega)]
          cases β x <;> simp) (its.length + 1) 0 [some P, some (.d (.i u)), some (.d (.i m)), some A, some B, some (.d (.i u)), some (.d e), some (.l H.length), x8] (by omega) ⟨_, rfl⟩
        refine ⟨[some P, some (.d (.i u)), some (.d (.i m)), some A, some B, some (.d (.i u)), some (.d e), some (.l H.length), y], H ++ [its.map .d], ⟨⟨_, _, _, _, rfl⟩, ⟨_, rfl⟩⟩, ?_⟩
        rw [List.drop_zero] at e1
        generalize its.all β = bb at e1 ⊢
        have h3 : its ≠ [] := by intro h; rw [h] at h0; exact h0 rfl
        simp [fb, l1_law_can_split, listed_law M d m e he hm3 j (by omega), hl, h3]
        rw [e1]
        cases bb <;> simp
  · refine ⟨β e, ⟨(fun _ u' e' h1 h2 => by simp at h1; obtain ⟨rfl, rfl⟩ := h1; exact absurd h2 huv), fun hg => by
      have := Pu.inj (hβ e he).2 ((hg _ _ rfl).2 huv)
      simpa using this⟩, ?_, ?_⟩
    · refine pu (d := b_can_be_split) rfl rfl fun j hj h => ?_
      simp [b_can_be_split, huv, (hβ e he).1.go (j := j) (by omega)]
    · intro j hj P A B x5 x6 x7 x8 H
      refine ⟨[some P, some (.d (.i v)), some (.d (.i m)), some A, some B, some (.d (.i u)), some (.d e), some (.l H.length), some (.d e)], H ++ [((lst m e).getD []).map .d, [.d e]], ⟨⟨_, _, _, _, rfl⟩, ⟨_, rfl⟩⟩, ?_⟩
      simp [fb, l1_law_can_split, listed_law M d m e he hm3 j (by omega), huv, forLive, l0_law_can_split, (hβ e he).2.go (j := j) (by omega)]
      cases β e <;> simp
end J
set_option maxRecDepth 10000
namespace J
def GoodBl (v : Int) (m d : Nat) (b : D) : Prop := ∀ as j, b = .t [.t as, j] → (∀ a ∈ as, GoodAs v m d a) ∧ ∀ s e r, j = .t (.s s :: e :: r) → s ≠ "goto" → LkT v m d e
theorem can_bl (M v : Int) (m : Nat) (hm : 1 ≤ m) (hm3 : m ≤ 100) (d size : Nat) (bl : D) (hb : IsBl M d size bl) : ∃ b, ((b = true → ∀ as j, bl = .t [.t as, j] → ∀ a ∈ as, Spl v m a) ∧ (GoodBl v m d bl → b = true)) ∧
    (∀ j, d + 7 ≤ j → ∀ P x3 x4 x5 x6 H, ∃ ρ' H', ((∃ y3 y4 y5 y6, ρ' = [some P, some (.d (.i v)), some (.d (.i m)), y3, y4, y5, y6]) ∧ ∃ K, H' = H ++ K) ∧ fb (cx j) (.t [3, 4]) l0_can_split (.d bl) [some P, some (.d (.i v)), some (.d (.i m)), x3, x4, x5, x6] H = if b = true then some (.nxt, ρ', H') else some (.ret (.d (.b false)), ρ', H')) ∧
    ∀ j, d + 7 ≤ j → ∀ P x3 x4 x5 x6 x7 x8 H, ∃ ρ' H', ((∃ y3 y4 y5 y6 y7 y8, ρ' = [some P, some (.d (.i v)), some (.d (.i m)), y3, y4, y5, y6, y7, y8]) ∧ ∃ K, H' = H ++ K) ∧ fb (cx j) (.t [3, 4]) l2_law_can_split (.d bl) [some P, some (.d (.i v)), some (.d (.i m)), x3, x4, x5, x6, x7, x8] H = if b = true then some (.nxt, ρ', H') else some (.ret (.d (.b false)), ρ', H') := by
  obtain ⟨as, jp, rfl, hl8, has, hj⟩ := hb
  haveI : Inhabited Bool := ⟨true⟩
  obtain ⟨β, hβ⟩ := skP (fun x (hx : IsAs M d x) => can_be M v m hm hm3 d x hx)
  have hjump : ∃ (s : String) (r : List D) (b : Bool), jp = .t (.s s :: r) ∧ ((s = "goto" ∧ b = true) ∨ (s ≠ "goto" ∧ ∃ e r', r = e :: r' ∧ Pu (d + 5) f_looks_at_items [.d e, .d (.i v), .d (.i m)] (.b b) ∧ Pu (d + 5) f_law_looks_v1 [.d e, .d (.i v), .d (.i m)] (.b b))) := by
    rcases hj with ⟨t, rfl, _⟩ | ⟨e, t, u, rfl, he, _⟩ | ⟨e, rfl, he⟩
    · exact ⟨_, _, true, rfl, .inl ⟨rfl, rfl⟩⟩
    · obtain ⟨b, h1, h2⟩ := looks M v m (by omega) d e he
      exact ⟨_, _, b, rfl, .inr ⟨by decide, _, _, rfl, h1, h2⟩⟩
    · obtain ⟨b, h1, h2⟩ := looks M v m (by omega) d e he
      exact ⟨_, _, b, rfl, .inr ⟨by decide, _, _, rfl, h1, h2⟩⟩
  obtain ⟨s, r, jb, rfl, hjb⟩ := hjump
  have h16 : as.length ≤ 16777216 := by omega
  refine ⟨as.all β && jb, ?_, ?_, ?_⟩
  · refine ⟨?_, ?_⟩
    · intro hb as' j' h1 a ha
      simp at h1
      obtain ⟨rfl, rfl⟩ := h1
      simp at hb
      exact (hβ a (has a ha)).1.1 (hb.1 a ha)
    · intro hg
      obtain ⟨g1, g2⟩ := hg _ _ rfl
      have h1 : as.all β = true := by
        rw [List.all_eq_true]
        intro a ha
        exact (hβ a (has a ha)).1.2 (g1 a ha)
      rw [h1, Bool.true_and]
      rcases hjb with ⟨_, rfl⟩ | ⟨hs, e, r', rfl, h2, h3⟩
      · rfl
      · have := Pu.inj h3 (g2 _ _ _ rfl hs)
        simpa using this
  · intro j hj' P x3 x4 x5 x6 H
    have ea : ∀ ρ : Env, ρ[1]? = some (some (.d (.i v))) → ρ[2]? = some (some (.d (.i m))) → ρ.length = 7 → ∀ H, compItems (turn (.n 5) ρ (evc (cx j) none) (ev (cx j) (.call f_can_be_split [.var 5, .var 1, .var 2]))) (as.map .d) [] H = some (as.map fun a => .d (.b (β a)), H) := by
      intro ρ h1 h2 h3 H
      refine comp_n (g := fun a => .d (.b (β a))) (fun x hx => ?_) (by simp; omega)
      have h5 : (ρ.set 5 (some (.d x)))[5]? = some (some (.d x)) := by simp [h3]
      simp [h1, h2, h5, (hβ x (has x hx)).2.1.go (j := j) (by omega)]
    rcases hjb with ⟨rfl, rfl⟩ | ⟨hs, e, r', rfl, h1, h2⟩
    · have eg : Pu 1 f_asked_by [.d (.t (.s "goto" :: r))] (.t []) := by
        refine pu (d := b_asked_by) rfl rfl fun j hj h => ?_
        simp [b_asked_by]
      refine ⟨[some P, some (.d (.i v)), some (.d (.i m)), some (.d (.t as)), some (.d (.t (.s "goto" :: r))), x5, x6], if as.all β = true then H ++ [as.map fun a => .d (.b (β a)), []] else H ++ [as.map fun a => .d (.b (β a))], ⟨⟨_, _, _, _, rfl⟩, by split <;> exact ⟨_, rfl⟩⟩, ?_⟩
      simp [fb, l0_can_split]
      rw [ea _ (by simp) (by simp) (by simp)]
      generalize hbb : as.all β = bb
      cases bb
      · have : ¬ ∀ x ∈ as, β x = true := by simpa using hbb
        simp [hbb, this]
      · have : ∀ x ∈ as, β x = true := by simpa using hbb
        simp [hbb, this, eg.go (j := j) (by omega), compItems, bools]
        simp only [if_pos this]
    · have eg : Pu 1 f_asked_by [.d (.t (.s s :: e :: r'))] (.t [e]) := by
        refine pu (d := b_asked_by) rfl rfl fun j hj h => ?_
        simp [b_asked_by, hs]
      refine ⟨[some P, some (.d (.i v)), some (.d (.i m)), some (.d (.t as)), some (.d (.t (.s s :: e :: r'))), x5, x6], if as.all β = true then H ++ [as.map fun a => .d (.b (β a)), [.d (.b jb)]] else H ++ [as.map fun a => .d (.b (β a))], ⟨⟨_, _, _, _, rfl⟩, by split <;> exact ⟨_, rfl⟩⟩, ?_⟩
      simp [fb, l0_can_split]
      rw [ea _ (by simp) (by simp) (by simp)]
      generalize hbb : as.all β = bb
      cases bb
      · have : ¬ ∀ x ∈ as, β x = true := by simpa using hbb
        simp [hbb, this]
      · have : ∀ x ∈ as, β x = true := by simpa using hbb
        simp [hbb, this, eg.go (j := j) (by omega), compItems, bools, h1.go (j := j) (by omega)]
        simp only [if_pos this]
        cases jb <;> simp [this] <;> exact this
  · intro j hj' P x3 x4 x5 x6 x7 x8 H
    obtain ⟨ρ', H', ⟨⟨y5, y6, y7, y8, rfl⟩, K, rfl⟩, e1⟩ := forItems_allH (f := fb (cx j) (.t [5, 6]) l1_law_can_split) (w := .d (.b false)) (fun ρ H' => (∃ y5 y6 y7 y8, ρ = [some P, some (.d (.i v)), some (.d (.i m)), some (.d (.t as)), some (.d (.t (.s s :: r))), y5, y6, y7, y8]) ∧ ∃ K, H' = H ++ K) β (xs := as) (by
      rintro x hx ρ H' ⟨⟨y5, y6, y7, y8, rfl⟩, K, rfl⟩
      obtain ⟨ρ', H', ⟨h1, K', rfl⟩, e⟩ := (hβ x (has x hx)).2.2 j (by omega) P (.d (.t as)) (.d (.t (.s s :: r))) y5 y6 y7 y8 (H ++ K)
      exact ⟨ρ', _, ⟨h1, K ++ K', by simp⟩, e⟩) [some P, some (.d (.i v)), some (.d (.i m)), some (.d (.t as)), some (.d (.t (.s s :: r))), x5, x6, x7, x8] H ⟨⟨_, _, _, _, rfl⟩, [], by simp⟩
    refine ⟨_, _, ⟨⟨some (.d (.t as)), some (.d (.t (.s s :: r))), y5, y6, y7, y8, rfl⟩, K, rfl⟩, ?_⟩
    simp only [fb, l2_law_can_split, setT_t, List.length_cons, List.length_nil, if_true, setMany_cons, setMany_nil, List.set_cons_succ, List.set_cons_zero, exs_cons, ex_for, evi_sq', ev_var, List.getElem?_cons_succ, List.getElem?_cons_zero, bnd_some, run_mk, srcOf_t, Option.map_some, forSrc_its]
    rw [e1]
    generalize as.all β = bb
    cases bb
    · simp
    · rcases hjb with ⟨rfl, rfl⟩ | ⟨hs, e, r', rfl, h1, h2⟩
      · simp
      · simp [hs, h2.go (j := j) (by omega)]
        cases jb <;> simp
theorem can (M v : Int) (m : Nat) (hm : 1 ≤ m) (hm3 : m ≤ 100) (d : Nat) (p : D) (hp : IsPr M d p) : ∃ b, ((b = true → ∀ bs, p = .t [.i M, .t bs] → ∀ bl ∈ bs, ∀ as j, bl = .t [.t as, j] → ∀ a ∈ as, Spl v m a) ∧ ((∀ bs, p = .t [.i M, .t bs] → ∀ bl ∈ bs, GoodBl v m d bl) → b = true)) ∧ Pu (d + 8) f_can_split [.d p, .d (.i v), .d (.i m)] (.b b) ∧ Pu (d + 8) f_law_can_split [.d p, .d (.i v), .d (.i m)] (.b b) := by
  obtain ⟨hM, bs, rfl, h1, h4, hbs⟩ := hp
  haveI : Inhabited Bool := ⟨true⟩
  obtain ⟨β, hβ⟩ := skP (fun x (hx : IsBl M d bs.length x) => can_bl M v m hm hm3 d bs.length x hx)
  refine ⟨bs.all β, ?_, ?_, ?_⟩
  · refine ⟨?_, ?_⟩
    · intro hb bs' h1 bl hbl
      simp at h1
      subst h1
      simp at hb
      exact (hβ bl (hbs bl hbl)).1.1 (hb bl hbl)
    · intro hg
      rw [List.all_eq_true]
      intro bl hbl
      exact (hβ bl (hbs bl hbl)).1.2 (hg _ rfl bl hbl)
  · refine pu (d := b_can_split) rfl rfl fun j hj h => ?_
    obtain ⟨ρ', H', ⟨⟨y3, y4, y5, y6, rfl⟩, K, rfl⟩, e1⟩ := forItems_allH (f := fb (cx j) (.t [3, 4]) l0_can_split) (w := .d (.b false)) (fun ρ H' => (∃ y3 y4 y5 y6, ρ = [some (.d (.t [.i M, .t bs])), some (.d (.i v)), some (.d (.i m)), y3, y4, y5, y6]) ∧ ∃ K, H' = h ++ K) β (xs := bs) (by
      rintro x hx ρ H' ⟨⟨y3, y4, y5, y6, rfl⟩, K, rfl⟩
      obtain ⟨ρ', H', ⟨h1, K', rfl⟩, e⟩ := (hβ x (hbs x hx)).2.1 j (by omega) (.d (.t [.i M, .t bs])) y3 y4 y5 y6 (h ++ K)
      exact ⟨ρ', _, ⟨h1, K ++ K', by simp⟩, e⟩) [some (.d (.t [.i M, .t bs])), some (.d (.i v)), some (.d (.i m)), none, none, none, none] h ⟨⟨_, _, _, _, rfl⟩, [], by simp⟩
    generalize bs.all β = bb at e1 ⊢
    simp [b_can_split, e1]
    cases bb <;> simp
  · refine pu (d := b_law_can_split) rfl rfl fun j hj h => ?_
    obtain ⟨ρ', H', ⟨⟨y3, y4, y5, y6, y7, y8, rfl⟩, K, rfl⟩, e1⟩ := forItems_allH (f := fb (cx j) (.t [3, 4]) l2_law_can_split) (w := .d (.b false)) (fun ρ H' => (∃ y3 y4 y5 y6 y7 y8, ρ = [some (.d (.t [.i M, .t bs])), some (.d (.i v)), some (.d (.i m)), y3, y4, y5, y6, y7, y8]) ∧ ∃ K, H' = h ++ K) β (xs := bs) (by
      rintro x hx ρ H' ⟨⟨y3, y4, y5, y6, y7, y8, rfl⟩, K, rfl⟩
      obtain ⟨ρ', H', ⟨h1, K', rfl⟩, e⟩ := (hβ x (hbs x hx)).2.2 j (by omega) (.d (.t [.i M, .t bs])) y3 y4 y5 y6 y7 y8 (h ++ K)
      exact ⟨ρ', _, ⟨h1, K ++ K', by simp⟩, e⟩) [some (.d (.t [.i M, .t bs])), some (.d (.i v)), some (.d (.i m)), none, none, none, none, none, none] h ⟨⟨_, _, _, _, _, _, rfl⟩, [], by simp⟩
    generalize bs.all β = bb at e1 ⊢
    simp [b_law_can_split, e1]
    cases bb <;> simp
end J
set_option maxRecDepth 10000
namespace J
theorem range_0 : range 0 0 = [] := rfl
theorem range_1 : range 0 1 = [.d (.i 0)] := rfl
theorem range_2 : range 0 2 = [.d (.i 0), .d (.i 1)] := rfl
theorem range_3 : range 0 3 = [.d (.i 0), .d (.i 1), .d (.i 2)] := rfl
theorem len1 {α : Type} {l : List α} (h : l.length = 1) : ∃ a, l = [a] := by
  rcases l with _ | ⟨a, _ | ⟨b, r⟩⟩ <;> simp at h
  exact ⟨a, rfl⟩
theorem len2 {α : Type} {l : List α} (h : l.length = 2) : ∃ a b, l = [a, b] := by
  rcases l with _ | ⟨a, _ | ⟨b, _ | ⟨c, r⟩⟩⟩ <;> simp at h
  exact ⟨a, b, rfl⟩
theorem len3 {α : Type} {l : List α} (h : l.length = 3) : ∃ a b c, l = [a, b, c] := by
  rcases l with _ | ⟨a, _ | ⟨b, _ | ⟨c, _ | ⟨d, r⟩⟩⟩⟩ <;> simp at h
  exact ⟨a, b, c, rfl⟩
def SplOk (M v : Int) (m d : Nat) (a : D) (its : List D) : Prop := its.length ≤ 6 ∧ (∀ x ∈ its, IsAs (M + 2 * m) d x) ∧ Pu (d + 7) f_split_assign [.d a, .d (.i M), .d (.i v), .d (.i m)] (.t its) ∧
    ∀ j, d + 7 ≤ j → ∀ P x4 x5 x6 x7 x9 x10 x11 x12 x13 c H (newer : List D) (L : Nat), newer.length ≤ 1000 → H[c]? = some (newer.map .d) → L ≤ c →
      ∃ y9 y10 y11 y13 H' c', fb (cx j) (.t [9, 10]) l0_law_split (.d a) [some P, some (.d (.i v)), some (.d (.i m)), some (.d (.i M)), x4, x5, x6, x7, some (.l c), x9, x10, x11, x12, x13] H = some (.nxt, [some P, some (.d (.i v)), some (.d (.i m)), some (.d (.i M)), x4, x5, x6, x7, some (.l c'), y9, y10, y11, x12, y13], H') ∧ H'[c']? = some ((newer ++ its).map .d) ∧ L ≤ c' ∧ H'.take L = H.take L
theorem split_as (M v : Int) (hM : 0 ≤ M) (m : Nat) (hm : 1 ≤ m) (hm3 : m ≤ 3) (d : Nat) (a : D) (ha : IsAs M d a) (hs : Spl v m a) : ∃ its, SplOk M v m d a its := by
  obtain ⟨u, e, rfl, hu0, huM, he⟩ := ha
  haveI : Inhabited D := ⟨.none⟩
  obtain ⟨β, hβ⟩ := skP (fun x (hx : Ex M d x) => with_items M v hM m hm d x hx)
  by_cases huv : u = v
  · subst huv
    obtain ⟨its, hl⟩ := hs u e rfl rfl
    obtain ⟨hlen, hits⟩ := lst_ex he hl
    have hm' : m = 1 ∨ m = 2 ∨ m = 3 := by omega
    rcases hm' with rfl | rfl | rfl
    · obtain ⟨x0, rfl⟩ := len1 hlen
      have bx0 := hβ x0 (hits x0 (by simp))
      refine ⟨[.t [.i (M + 1), β x0], .t [.i M, .t [.s "of", .i (M + 1)]]], by simp, ?_, ?_, ?_⟩
      · intro x hx
        simp at hx
        rcases hx with rfl | rfl
        · exact ⟨_, _, rfl, by omega, by omega, bx0.1⟩
        · exact ⟨_, _, rfl, by omega, by omega, .of _ _ (by omega) (by omega)⟩
      · refine pu (d := b_split_assign) rfl rfl fun j hj h => ?_
        have hls := (listed M d 1 e he (by omega)).go (j := j) (by omega)
        have wx0 := bx0.2.1.go (j := j) (by omega)
        simp at hls wx0
        simp [b_split_assign, hls, hl, range_1, compItems, wx0]
      · intro j hj P x4 x5 x6 x7 x9 x10 x11 x12 x13 c H newer L hn hc hL
        have hls := listed_law M d 1 e he (by omega) j (by omega)
        have wx0 := bx0.2.2.go (j := j) (by omega)
        have hcx : ∀ x, (H ++ x)[c]? = some (newer.map .d) := fun x => get_appl hc
        have hcl := (List.getElem?_eq_some_iff.1 hc).1
        have n0 : newer.length ≤ 16777215 := by omega
        have n1 : newer.length + 1 ≤ 16777216 := by omega
        have n2 : newer.length + 2 ≤ 16777216 := by omega
        have n3 : newer.length ≤ 16777215 := by omega
        have n4 : newer.length ≤ 16777214 := by omega
        simp at hls wx0
        simp [fb, l0_law_split, hls, hl, range_1, compItems, wx0, hcx, n0, n1, n2, n3, n4]
        refine ⟨_, _, _, _, _, _, ⟨⟨rfl, rfl, rfl, rfl, rfl⟩, rfl⟩, ?_, ?_, ?_⟩
        all_goals first | omega | (simp; done) | (rw [List.take_append_of_le_length (by omega)])
    · obtain ⟨x0, x1, rfl⟩ := len2 hlen
      have bx0 := hβ x0 (hits x0 (by simp))
      have bx1 := hβ x1 (hits x1 (by simp))
      refine ⟨[.t [.i (M + 2), β x0], .t [.i (M + 2 + 1), β x1], .t [.i M, .t [.s "of", .i (M + 2)]], .t [.i (M + 1), .t [.s "of", .i (M + 2 + 1)]]], by simp, ?_, ?_, ?_⟩
      · intro x hx
        simp at hx
        rcases hx with rfl | rfl | rfl | rfl
        · exact ⟨_, _, rfl, by omega, by omega, bx0.1⟩
        · exact ⟨_, _, rfl, by omega, by omega, bx1.1⟩
        · exact ⟨_, _, rfl, by omega, by omega, .of _ _ (by omega) (by omega)⟩
        · exact ⟨_, _, rfl, by omega, by omega, .of _ _ (by omega) (by omega)⟩
      · refine pu (d := b_split_assign) rfl rfl fun j hj h => ?_
        have hls := (listed M d 2 e he (by omega)).go (j := j) (by omega)
        have wx0 := bx0.2.1.go (j := j) (by omega)
        have wx1 := bx1.2.1.go (j := j) (by omega)
        simp at hls wx0 wx1
        simp [b_split_assign, hls, hl, range_2, compItems, wx0, wx1]
      · intro j hj P x4 x5 x6 x7 x9 x10 x11 x12 x13 c H newer L hn hc hL
        have hls := listed_law M d 2 e he (by omega) j (by omega)
        have wx0 := bx0.2.2.go (j := j) (by omega)
        have wx1 := bx1.2.2.go (j := j) (by omega)
        have hcx : ∀ x, (H ++ x)[c]? = some (newer.map .d) := fun x => get_appl hc
        have hcl := (List.getElem?_eq_some_iff.1 hc).1
        have n0 : newer.length ≤ 16777215 := by omega
        have n1 : newer.length + 2 ≤ 16777216 := by omega
        have n2 : newer.length + 4 ≤ 16777216 := by omega
        have n3 : newer.length ≤ 16777214 := by omega
        have n4 : newer.length ≤ 16777212 := by omega
        simp at hls wx0 wx1
        simp [fb, l0_law_split, hls, hl, range_2, compItems, wx0, wx1, hcx, n0, n1, n2, n3, n4]
        refine ⟨_, _, _, _, _, _, ⟨⟨rfl, rfl, rfl, rfl, rfl⟩, rfl⟩, ?_, ?_, ?_⟩
        all_goals first | omega | (simp; done) | (rw [List.take_append_of_le_length (by omega)])
    · obtain ⟨x0, x1, x2, rfl⟩ := len3 hlen
      have bx0 := hβ x0 (hits x0 (by simp))
      have bx1 := hβ x1 (hits x1 (by simp))
      have bx2 := hβ x2 (hits x2 (by simp))
      refine ⟨[.t [.i (M + 3), β x0], .t [.i (M + 3 + 1), β x1], .t [.i (M + 3 + 2), β x2], .t [.i M, .t [.s "of", .i (M + 3)]], .t [.i (M + 1), .t [.s "of", .i (M + 3 + 1)]], .t [.i (M + 2), .t [.s "of", .i (M + 3 + 2)]]], by simp, ?_, ?_, ?_⟩
      · intro x hx
        simp at hx
        rcases hx with rfl | rfl | rfl | rfl | rfl | rfl
        · exact ⟨_, _, rfl, by omega, by omega, bx0.1⟩
        · exact ⟨_, _, rfl, by omega, by omega, bx1.1⟩
        · exact ⟨_, _, rfl, by omega, by omega, bx2.1⟩
        · exact ⟨_, _, rfl, by omega, by omega, .of _ _ (by omega) (by omega)⟩
        · exact ⟨_, _, rfl, by omega, by omega, .of _ _ (by omega) (by omega)⟩
        · exact ⟨_, _, rfl, by omega, by omega, .of _ _ (by omega) (by omega)⟩
      · refine pu (d := b_split_assign) rfl rfl fun j hj h => ?_
        have hls := (listed M d 3 e he (by omega)).go (j := j) (by omega)
        have wx0 := bx0.2.1.go (j := j) (by omega)
        have wx1 := bx1.2.1.go (j := j) (by omega)
        have wx2 := bx2.2.1.go (j := j) (by omega)
        simp at hls wx0 wx1 wx2
        simp [b_split_assign, hls, hl, range_3, compItems, wx0, wx1, wx2]
      · intro j hj P x4 x5 x6 x7 x9 x10 x11 x12 x13 c H newer L hn hc hL
        have hls := listed_law M d 3 e he (by omega) j (by omega)
        have wx0 := bx0.2.2.go (j := j) (by omega)
        have wx1 := bx1.2.2.go (j := j) (by omega)
        have wx2 := bx2.2.2.go (j := j) (by omega)
        have hcx : ∀ x, (H ++ x)[c]? = some (newer.map .d) := fun x => get_appl hc
        have hcl := (List.getElem?_eq_some_iff.1 hc).1
        have n0 : newer.length ≤ 16777215 := by omega
        have n1 : newer.length + 3 ≤ 16777216 := by omega
        have n2 : newer.length + 6 ≤ 16777216 := by omega
        have n3 : newer.length ≤ 16777213 := by omega
        have n4 : newer.length ≤ 16777210 := by omega
        simp at hls wx0 wx1 wx2
        simp [fb, l0_law_split, hls, hl, range_3, compItems, wx0, wx1, wx2, hcx, n0, n1, n2, n3, n4]
        refine ⟨_, _, _, _, _, _, ⟨⟨rfl, rfl, rfl, rfl, rfl⟩, rfl⟩, ?_, ?_, ?_⟩
        all_goals first | omega | (simp; done) | (rw [List.take_append_of_le_length (by omega)])
  · have b0 := hβ e he
    refine ⟨[.t [.i u, β e]], by simp, ?_, ?_, ?_⟩
    · intro x hx
      simp at hx
      subst hx
      exact ⟨_, _, rfl, by omega, by omega, b0.1⟩
    · refine pu (d := b_split_assign) rfl rfl fun j hj h => ?_
      simp [b_split_assign, huv, b0.2.1.go (j := j) (by omega)]
    · intro j hj P x4 x5 x6 x7 x9 x10 x11 x12 x13 c H newer L hn hc hL
      have hcl := (List.getElem?_eq_some_iff.1 hc).1
      have n1 : newer.length < 16777216 := by omega
      refine ⟨some (.d (.i u)), some (.d e), x11, x13, H.set c (newer.map .d ++ [.d (.t [.i u, β e])]), c, ?_, by simp [hcl], hL, by rw [List.take_set_of_le hL]⟩
      simp [fb, l0_law_split, huv, b0.2.2.go (j := j) (by omega), hc, n1]

def IsBs (M v : Int) (m : Nat) (bl : D) : Prop := ∀ as j, bl = .t [.t as, j] → ∀ a ∈ as, Spl v m a
theorem split_jump (M v : Int) (hM : 0 ≤ M) (m : Nat) (hm : 1 ≤ m) (d size : Nat) (jp : D) (hj : IsJ M d size jp) : ∃ jp' s r, jp = .t (.s s :: r) ∧ IsJ (M + 2 * m) d size jp' ∧ Pu (d + 6) f_split_jump [.d jp, .d (.i M), .d (.i v), .d (.i m)] jp' ∧ ((s = "goto" ∧ jp' = jp) ∨ (s ≠ "goto" ∧ ∃ e e' r', r = e :: r' ∧ r'.length ≤ 10 ∧ jp' = .t (.s s :: e' :: r') ∧ Pu (d + 5) f_law_split_part [.d e, .d (.i M), .d (.i v), .d (.i m)] e')) := by
  rcases hj with ⟨t, rfl, h1, h2⟩ | ⟨e, t, u, rfl, he, h1, h2, h3, h4⟩ | ⟨e, rfl, he⟩
  · refine ⟨_, _, _, rfl, .inl ⟨t, rfl, h1, h2⟩, ?_, .inl ⟨rfl, rfl⟩⟩
    refine pu (d := b_split_jump) rfl rfl fun j hj h => ?_
    simp [b_split_jump]
  · obtain ⟨e', he', p1, p2⟩ := with_items M v hM m hm d e he
    refine ⟨_, _, _, rfl, .inr (.inl ⟨e', t, u, rfl, he', h1, h2, h3, h4⟩), ?_, .inr ⟨by decide, e, e', _, rfl, by simp, rfl, p2⟩⟩
    refine pu (d := b_split_jump) rfl rfl fun j hj h => ?_
    simp [b_split_jump, p1.go (j := j) (by omega)]
  · obtain ⟨e', he', p1, p2⟩ := with_items M v hM m hm d e he
    refine ⟨_, _, _, rfl, .inr (.inr ⟨e', rfl, he'⟩), ?_, .inr ⟨by decide, e, e', _, rfl, by simp, rfl, p2⟩⟩
    refine pu (d := b_split_jump) rfl rfl fun j hj h => ?_
    simp [b_split_jump, p1.go (j := j) (by omega)]
theorem split_loop1 {M v : Int} {m d : Nat} {γ : D → List D} {j : Nat} {b : W} {h : LH} (hj : d + 7 ≤ j) : ∀ (as : List D) (hγ : ∀ a ∈ as, SplOk M v m d a (γ a)) (acc : List D) (z : Option W), acc.length + 6 * as.length ≤ 16777216 → ∃ z', forItems (fb (cx j) (.n 5) l0_split_block) (as.map .d) [some b, some (.d (.i M)), some (.d (.i v)), some (.d (.i m)), some (.d (.t acc)), z] h = some (.nxt, [some b, some (.d (.i M)), some (.d (.i v)), some (.d (.i m)), some (.d (.t (acc ++ as.flatMap γ))), z'], h)
  | [], _, acc, z, _ => ⟨z, by simp [forItems]⟩
  | a :: as, hγ, acc, z, hl => by
    have h1 := hγ a (by simp)
    simp only [List.length_cons] at hl
    have h6 := h1.1
    obtain ⟨z', e⟩ := split_loop1 hj as (fun x hx => hγ x (by simp [hx])) (acc ++ γ a) (some (.d a)) (by simp; omega)
    refine ⟨z', ?_⟩
    simp only [List.map_cons, forItems]
    have hle : acc.length + (γ a).length ≤ 16777216 := by omega
    have e0 : fb (cx j) (.n 5) l0_split_block (.d a) [some b, some (.d (.i M)), some (.d (.i v)), some (.d (.i m)), some (.d (.t acc)), z] h = some (.nxt, [some b, some (.d (.i M)), some (.d (.i v)), some (.d (.i m)), some (.d (.t (acc ++ γ a))), some (.d a)], h) := by
      simp [fb, l0_split_block, h1.2.2.1.go (j := j) (by omega), augop, hle]
    rw [e0]
    dsimp only
    rw [e]
    simp
theorem split_loop2 {M v : Int} {m d : Nat} {γ : D → List D} {j : Nat} {P : W} (hj : d + 7 ≤ j) {x4 x5 x6 x7 x12 : Option W} {L : Nat} : ∀ (as : List D) (hγ : ∀ a ∈ as, SplOk M v m d a (γ a)) (newer : List D) (x9 x10 x11 x13 : Option W) (c : Nat) (H : LH), newer.length + 6 * as.length ≤ 1000 → H[c]? = some (newer.map .d) → L ≤ c → ∃ y9 y10 y11 y13 H' c', forItems (fb (cx j) (.t [9, 10]) l0_law_split) (as.map .d) [some P, some (.d (.i v)), some (.d (.i m)), some (.d (.i M)), x4, x5, x6, x7, some (.l c), x9, x10, x11, x12, x13] H = some (.nxt, [some P, some (.d (.i v)), some (.d (.i m)), some (.d (.i M)), x4, x5, x6, x7, some (.l c'), y9, y10, y11, x12, y13], H') ∧ H'[c']? = some ((newer ++ as.flatMap γ).map .d) ∧ L ≤ c' ∧ H'.take L = H.take L
  | [], _, newer, x9, x10, x11, x13, c, H, _, hc, hL => ⟨x9, x10, x11, x13, H, c, by simp [forItems], by simp [hc], hL, rfl⟩
  | a :: as, hγ, newer, x9, x10, x11, x13, c, H, hl, hc, hL => by
    have h1 := hγ a (by simp)
    simp only [List.length_cons] at hl
    have h6 := h1.1
    obtain ⟨y9, y10, y11, y13, H1, c1, e1, e2, e3, e4⟩ := h1.2.2.2 j hj P x4 x5 x6 x7 x9 x10 x11 x12 x13 c H newer L (by omega) hc hL
    obtain ⟨z9, z10, z11, z13, H2, c2, f1, f2, f3, f4⟩ := split_loop2 hj as (fun x hx => hγ x (by simp [hx])) (newer ++ γ a) y9 y10 y11 y13 c1 H1 (by simp; omega) e2 e3 (x4 := x4) (x5 := x5) (x6 := x6) (x7 := x7) (x12 := x12) (P := P)
    refine ⟨z9, z10, z11, z13, H2, c2, ?_, ?_, f3, by rw [f4, e4]⟩
    · simp only [List.map_cons, forItems]
      rw [e1]
      exact f1
    · rw [f2]; simp
end J
set_option maxRecDepth 10000
namespace J
theorem flat6 {γ : D → List D} : ∀ {as : List D}, (∀ a ∈ as, (γ a).length ≤ 6) → (as.flatMap γ).length ≤ 6 * as.length
  | [], _ => by simp
  | a :: as, h => by
    have := flat6 (as := as) (fun x hx => h x (by simp [hx]))
    have := h a (by simp)
    rw [List.flatMap_cons, List.length_append, List.length_cons]; omega
def BlOk (M v : Int) (m d size : Nat) (bl bl' : D) : Prop := (∃ as j, bl' = .t [.t as, j] ∧ as.length ≤ 48 ∧ (∀ a ∈ as, IsAs (M + 2 * m) d a) ∧ IsJ (M + 2 * m) d size j) ∧ Pu (d + 9) f_split_block [.d bl, .d (.i M), .d (.i v), .d (.i m)] bl' ∧
  ∀ j, d + 8 ≤ j → ∀ P B f x6 x7 x8 x9 x10 x11 x12 x13 H (found : List D) (L : Nat), found.length ≤ 1000 → H[f]? = some (found.map .d) → L ≤ f →
    ∃ y6 y7 y8 y9 y10 y11 y12 y13 H', fb (cx j) (.t [6, 7]) l1_law_split (.d bl) [some P, some (.d (.i v)), some (.d (.i m)), some (.d (.i M)), some B, some (.l f), x6, x7, x8, x9, x10, x11, x12, x13] H = some (.nxt, [some P, some (.d (.i v)), some (.d (.i m)), some (.d (.i M)), some B, some (.l f), y6, y7, y8, y9, y10, y11, y12, y13], H') ∧ H'[f]? = some ((found ++ [bl']).map .d) ∧ H'.take L = H.take L
theorem split_bl (M v : Int) (hM : 0 ≤ M) (m : Nat) (hm : 1 ≤ m) (hm3 : m ≤ 3) (d size : Nat) (as : List D) (jp : D) (h8 : as.length ≤ 8) (has : ∀ a ∈ as, IsAs M d a) (hj : IsJ M d size jp) (hs : IsBs M v m (.t [.t as, jp])) : ∃ bl', BlOk M v m d size (.t [.t as, jp]) bl' := by
  haveI : Inhabited (List D) := ⟨[]⟩
  obtain ⟨γ, hγ⟩ := sk (fun a ha => split_as M v hM m hm hm3 d a (has a ha) (hs as jp rfl a ha))
  obtain ⟨jp', s, r, rfl, hj', hp, hl⟩ := split_jump M v hM m hm d size jp hj
  have hlen := flat6 (fun a ha => (hγ a ha).1)
  refine ⟨.t [.t (as.flatMap γ), jp'], ⟨_, _, rfl, by omega, ?_, hj'⟩, ?_, ?_⟩
  · intro x hx
    obtain ⟨a, ha, hxa⟩ := List.mem_flatMap.1 hx
    exact (hγ a ha).2.1 x hxa
  · refine pu (d := b_split_block) rfl rfl fun j hj h => ?_
    obtain ⟨z', e⟩ := split_loop1 (j := j) (b := .d (.t [.t as, .t (.s s :: r)])) (h := h) (by omega) as hγ [] none (by simp; omega)
    simp [b_split_block, e, hp.go (j := j) (by omega)]
  · intro j hj P B f x6 x7 x8 x9 x10 x11 x12 x13 H found L hfl hf hL
    have hfH := (List.getElem?_eq_some_iff.1 hf).1
    obtain ⟨y9, y10, y11, y13, H1, c1, e1, e2, e3, e4⟩ := split_loop2 (P := P) (x4 := some B) (x5 := some (.l f)) (x6 := some (.d (.t as))) (x7 := some (.d (.t (.s s :: r)))) (x12 := x12) (j := j) (L := H.length) (by omega) as hγ [] x9 x10 x11 x13 H.length (H ++ [[]]) (by simp; omega) (by simp) (Nat.le_refl _)
    obtain ⟨K, rfl⟩ : ∃ K, H1 = H ++ K := ⟨H1.drop H.length, by
      have := List.take_append_drop H.length H1
      rw [e4] at this
      simpa using this.symm⟩
    have hf1 : ∀ x : LH, (H ++ x)[f]? = some (found.map .d) := fun x => get_appl hf
    have hs1 : ∀ (x : LH) y, (H ++ x).set f y = H.set f y ++ x := fun x y => set_appl y hfH
    have n1 : (as.flatMap γ).length ≤ 16777216 := by omega
    have n2 : found.length < 16777216 := by omega
    refine ⟨some (.d (.t as)), some (.d (.t (.s s :: r))), some (.l c1), y9, y10, y11, some (.d jp'), y13, H.set f (found.map .d ++ [.d (.t [.t (as.flatMap γ), jp'])]) ++ K, ?_, ?_, ?_⟩
    · simp only [fb, l1_law_split, setT_t, List.length_cons, List.length_nil, if_true, setMany_cons, setMany_nil, List.set_cons_succ, List.set_cons_zero, exs_cons, ex_asg, ev_lst, evs_nil, bnd_some, run_mk, new_eq, Nat.zero_le, setT_n, Option.map_some, seqF_nxt, ex_for, evi_sq', ev_var, List.getElem?_cons_succ, List.getElem?_cons_zero, srcOf_t, forSrc_its]
      rw [e1]
      rcases hl with ⟨rfl, rfl⟩ | ⟨hsg, e, e', r', rfl, hr', rfl, hp2⟩
      · simp [-List.length_flatMap, e2, n1, hf1, hs1, n2]
      · have n3 : 1 + 1 + r'.length ≤ 16777216 := by omega
        have n4 : r'.length + 2 ≤ 16777216 := by omega
        have n5 : 2 + r'.length ≤ 16777216 := by omega
        simp [-List.length_flatMap, e2, n1, hf1, hs1, n2, hsg, hp2.go (j := j) (by omega), n3, n4, n5]
    · rw [get_appl (by simp [hfH]; rfl)]; simp
    · rw [List.take_append_of_le_length (by simp; omega), List.take_set_of_le hL]

theorem split_loop3 {M v : Int} {m d size : Nat} {γ : D → D} {j : Nat} {P B : W} (hj : d + 8 ≤ j) {f L : Nat} (hL : L ≤ f) : ∀ (bs : List D) (hγ : ∀ b ∈ bs, BlOk M v m d size b (γ b)) (found : List D) (x6 x7 x8 x9 x10 x11 x12 x13 : Option W) (H : LH), found.length + bs.length ≤ 1000 → H[f]? = some (found.map .d) → ∃ ρ' H', (∃ y6 y7 y8 y9 y10 y11 y12 y13, ρ' = [some P, some (.d (.i v)), some (.d (.i m)), some (.d (.i M)), some B, some (.l f), y6, y7, y8, y9, y10, y11, y12, y13]) ∧ forItems (fb (cx j) (.t [6, 7]) l1_law_split) (bs.map .d) [some P, some (.d (.i v)), some (.d (.i m)), some (.d (.i M)), some B, some (.l f), x6, x7, x8, x9, x10, x11, x12, x13] H = some (.nxt, ρ', H') ∧ H'[f]? = some ((found ++ bs.map γ).map .d) ∧ H'.take L = H.take L
  | [], _, found, x6, x7, x8, x9, x10, x11, x12, x13, H, _, hc => ⟨_, H, ⟨_, _, _, _, _, _, _, _, rfl⟩, rfl, by simp [hc], rfl⟩
  | b :: bs, hγ, found, x6, x7, x8, x9, x10, x11, x12, x13, H, hl, hc => by
    have h1 := hγ b (by simp)
    simp only [List.length_cons] at hl
    obtain ⟨y6, y7, y8, y9, y10, y11, y12, y13, H1, e1, e2, e4⟩ := h1.2.2 j hj P B f x6 x7 x8 x9 x10 x11 x12 x13 H found L (by omega) hc hL
    obtain ⟨ρ2, H2, hρ2, f1, f2, f4⟩ := split_loop3 hj hL bs (fun x hx => hγ x (by simp [hx])) (found ++ [γ b]) y6 y7 y8 y9 y10 y11 y12 y13 H1 (by simp; omega) e2 (P := P) (B := B)
    refine ⟨ρ2, H2, hρ2, ?_, ?_, by rw [f4, e4]⟩
    · simp only [List.map_cons, forItems]
      rw [e1]
      exact f1
    · rw [f2]; simp
theorem splits (M v : Int) (m : Nat) (hm : 1 ≤ m) (hm3 : m ≤ 3) (d : Nat) (bs : List D) (hM : 0 ≤ M) (h1 : 1 ≤ bs.length) (h4 : bs.length ≤ 4) (hbs : ∀ b ∈ bs, IsBl M d bs.length b ∧ ∀ as j, b = .t [.t as, j] → as.length ≤ 8) (hs : ∀ bl ∈ bs, ∀ as j, bl = .t [.t as, j] → ∀ a ∈ as, Spl v m a) : ∃ p', IsPr (M + 2 * m) d p' ∧ Pu (d + 10) f_split [.d (.t [.i M, .t bs]), .d (.i v), .d (.i m)] p' ∧ Pu (d + 9) f_law_split [.d (.t [.i M, .t bs]), .d (.i v), .d (.i m)] p' := by
  haveI : Inhabited D := ⟨.none⟩
  obtain ⟨γ, hγ⟩ := sk (fun b hb => show ∃ b', BlOk M v m d bs.length b b' by
    obtain ⟨⟨as, j, rfl, _, has, hj⟩, h8⟩ := hbs b hb
    exact split_bl M v hM m hm hm3 d bs.length as j (h8 as j rfl) has hj (hs _ hb))
  have n1 : bs.length ≤ 16777216 := by omega
  refine ⟨.t [.i (M + 2 * m), .t (bs.map γ)], ⟨by omega, _, rfl, by simpa using h1, by simpa using h4, ?_⟩, ?_, ?_⟩
  · intro b hb
    obtain ⟨x, hx, rfl⟩ := List.mem_map.1 hb
    obtain ⟨as, j, e, hl, h2, h3⟩ := (hγ x hx).1
    exact ⟨as, j, e, by omega, h2, by simpa using h3⟩
  · refine pu (d := b_split) rfl rfl fun j hj h => ?_
    simp [b_split, binop]
    rw [comp_n (g := fun a => .d (γ a)) (fun x hx => by simp [(hγ x hx).2.1.go (j := j) (by omega)]) (by simp; omega)]
    simp [n1]
  · refine pu (d := b_law_split) rfl rfl fun j hj h => ?_
    obtain ⟨ρ', H', ⟨y6, y7, y8, y9, y10, y11, y12, y13, rfl⟩, e1, e2, e3⟩ := split_loop3 (P := .d (.t [.i M, .t bs])) (B := .d (.t bs)) (j := j) (f := h.length) (L := h.length) (by omega) (Nat.le_refl _) bs hγ [] none none none none none none none none (h ++ [[]]) (by simp; omega) (by simp)
    simp at e3
    rw [List.nil_append] at e2
    simp [-List.map_map, b_law_split, e1, e2, n1, binop, e3]
end J
set_option maxRecDepth 10000
namespace J
theorem forItems_ok {f : W → Env → LH → Option (Fl × Env × LH)} (I : Env → LH → Prop) {xs : List D} (hf : ∀ x ∈ xs, ∀ ρ h, I ρ h → ∃ ρ' h', I ρ' h' ∧ f (.d x) ρ h = some (.nxt, ρ', h')) (ρ : Env) (h : LH) (hi : I ρ h) : ∃ ρ' h', I ρ' h' ∧ forItems f (xs.map .d) ρ h = some (.nxt, ρ', h') := by
  obtain ⟨ρ', h', h1, e⟩ := forItems_allH (f := f) (w := .d .none) I (fun _ => true) (xs := xs) (fun x hx ρ h hi => by
    obtain ⟨ρ', h', h1, e⟩ := hf x hx ρ h hi
    exact ⟨ρ', h', h1, by simpa using e⟩) ρ h hi
  exact ⟨ρ', h', h1, by simpa using e⟩
theorem forLive_ok {f : W → Env → LH → Option (Fl × Env × LH)} {H : LH} {a : Nat} {xs : List D} (I : Env → Prop) (hH : H[a]? = some (xs.map .d)) (hf : ∀ x ∈ xs, ∀ ρ, I ρ → ∃ ρ', I ρ' ∧ f (.d x) ρ H = some (.nxt, ρ', H)) (ρ : Env) (hi : I ρ) : ∃ ρ', I ρ' ∧ forLive f a (xs.length + 1) 0 ρ H = some (.nxt, ρ', H) := by
  obtain ⟨ρ', h1, e⟩ := forLive_all (f := f) (w := .d .none) I (fun _ => true) hH (fun x hx ρ hi => by
    obtain ⟨ρ', h1, e⟩ := hf x hx ρ hi
    exact ⟨ρ', h1, by simpa using e⟩) (xs.length + 1) 0 ρ (by omega) hi
  exact ⟨ρ', h1, by simpa using e⟩
theorem range_eq (n : Nat) : range 0 (n : Int) = ((List.range n).map fun (k : Nat) => D.i k).map .d := by
  unfold range
  rw [List.map_map]
  simp
theorem Pl.up {n : Nat} {e : D} (h : Pl n e) : Pl (n + 1) e := by
  induction h with
  | none n => exact .none _
  | i n x => exact .i _ x
  | s n x => exact .s _ x
  | t n xs hl hx ih => exact .t _ xs hl ih
theorem Pl.le {n m : Nat} {e : D} (h : Pl n e) (hm : n ≤ m) : Pl m e := by
  induction hm with
  | refl => exact h
  | step _ ih => exact ih.up
theorem Ex.pl {M : Int} {n : Nat} {e : D} (h : Ex M n e) : Pl (n + 3) e := by
  induction h with
  | know n x h => exact .t _ _ (by simp) (by simp; exact ⟨.s _ _, h.le (by omega)⟩)
  | of n v h1 h2 => exact .t _ _ (by simp) (by simp; exact ⟨.s _ _, .i _ _⟩)
  | op n s as hs ha ih => exact .t _ _ (by have := (ars_ne hs).2.2.2.1; simp; omega) (by simp; exact ⟨.s _ _, ih⟩)
theorem IsPr.pl {M : Int} {d : Nat} {p : D} (h : IsPr M d p) : Pl (d + 8) p := by
  obtain ⟨hM, bs, rfl, h1, h4, hbs⟩ := h
  refine .t _ _ (by simp) ?_
  simp
  refine ⟨.i _ _, .t _ _ (by omega) fun b hb => ?_⟩
  obtain ⟨as, j, rfl, hl, has, hj⟩ := hbs b hb
  refine .t _ _ (by simp) ?_
  simp
  refine ⟨.t _ _ (by omega) fun a ha => ?_, ?_⟩
  · obtain ⟨u, e, rfl, _, _, he⟩ := has a ha
    exact .t _ _ (by simp) (by simp; exact ⟨.i _ _, he.pl⟩)
  · rcases hj with ⟨t, rfl, _⟩ | ⟨e, t, u, rfl, he, _⟩ | ⟨e, rfl, he⟩
    · exact .t _ _ (by simp) (by simp; exact ⟨.s _ _, .i _ _⟩)
    · exact .t _ _ (by simp) (by simp; exact ⟨.s _ _, he.pl.le (by omega), .i _ _, .i _ _⟩)
    · exact .t _ _ (by simp) (by simp; exact ⟨.s _ _, he.pl.le (by omega)⟩)
theorem same_b (b : Bool) : Pu 1 f_law_same [.d (.b b), .d (.b b)] (.b true) := by
  refine pu (d := b_law_same) rfl rfl fun j hj h => ?_
  simp [b_law_same]
theorem same_n (n : Nat) : Pu 1 f_law_same [.d .none, .d .none] (.b true) := by
  refine pu (d := b_law_same) rfl rfl fun j hj h => ?_
  simp [b_law_same]
theorem same_i (x : Int) : Pu 1 f_law_same [.d (.i x), .d (.i x)] (.b true) := by
  refine pu (d := b_law_same) rfl rfl fun j hj h => ?_
  simp [b_law_same]
theorem same_s (x : String) : Pu 1 f_law_same [.d (.s x), .d (.s x)] (.b true) := by
  refine pu (d := b_law_same) rfl rfl fun j hj h => ?_
  simp [b_law_same]
theorem same_step (j : Nat) (h : LH) (xs : List D) (k : Nat) (y : Option W) (hk : k < xs.length) (h1 : call JP j f_law_same [.d xs[k], .d xs[k]] h = some (.d (.b true), h)) : fb (cx j) (.n 2) l0_law_same (.d (.i k)) [some (.d (.t xs)), some (.d (.t xs)), y] h = some (.nxt, [some (.d (.t xs)), some (.d (.t xs)), some (.d (.i k))], h) := by
  simp [fb, l0_law_same, ixN_nat _ _ hk, hk, h1]
theorem same_body (j : Nat) (h : LH) (xs : List D) (y : Option W) (hR : inR (xs.length : Int)) (e : forItems (fb (cx j) (.n 2) l0_law_same) (range 0 xs.length) [some (.d (.t xs)), some (.d (.t xs)), none] h = some (.nxt, [some (.d (.t xs)), some (.d (.t xs)), y], h)) : ret h.length (execs (cx j) b_law_same.body (([.d (.t xs), .d (.t xs)] : List W).map some ++ List.replicate (b_law_same.ns - b_law_same.np) none) h) = some (.d (.b true), h) := by
  simp [b_law_same, hR, e]
theorem same : ∀ (n : Nat) (x : D), Pl n x → Pu (n + 1) f_law_same [.d x, .d x] (.b true) := by
  intro n x hx
  induction hx with
  | none n => exact (same_n n).mono (by omega)
  | i n x => exact (same_i x).mono (by omega)
  | s n x => exact (same_s x).mono (by omega)
  | t n xs hl hx ih =>
    refine pu (d := b_law_same) rfl rfl fun j hj h => ?_
    obtain ⟨ρ', h', ⟨⟨y, rfl⟩, rfl⟩, e⟩ := forItems_ok (f := fb (cx j) (.n 2) l0_law_same) (xs := (List.range xs.length).map fun (k : Nat) => D.i k) (fun ρ h' => (∃ y, ρ = [some (.d (.t xs)), some (.d (.t xs)), y]) ∧ h' = h) (by
      rintro x hx ρ h' ⟨⟨y, rfl⟩, rfl⟩
      obtain ⟨k, hk, rfl⟩ := List.mem_map.1 hx
      have hk := List.mem_range.1 hk
      exact ⟨_, _, ⟨⟨some (.d (.i k)), rfl⟩, rfl⟩, same_step j _ xs k y hk ((ih xs[k] (List.getElem_mem hk)).go (j := j) (by omega) _)⟩) [some (.d (.t xs)), some (.d (.t xs)), none] h ⟨⟨_, rfl⟩, rfl⟩
    rw [← range_eq] at e
    exact same_body j _ xs y (inR_of (by omega) (by omega)) e
theorem ars_T {s : String} {n : Nat} (h : (s, n) ∈ ars) : Tb 1 s = some (.i n) := by
  simp [ars] at h
  rcases h with ⟨rfl, rfl⟩ | ⟨rfl, rfl⟩ | ⟨rfl, rfl⟩ | ⟨rfl, rfl⟩ | ⟨rfl, rfl⟩ | ⟨rfl, rfl⟩ | ⟨rfl, rfl⟩ | ⟨rfl, rfl⟩ | ⟨rfl, rfl⟩ | ⟨rfl, rfl⟩ | ⟨rfl, rfl⟩ | ⟨rfl, rfl⟩ | ⟨rfl, rfl⟩ | ⟨rfl, rfl⟩ | ⟨rfl, rfl⟩ | ⟨rfl, rfl⟩ | ⟨rfl, rfl⟩ | ⟨rfl, rfl⟩ <;> rfl
theorem arity_of {s : String} {n : Nat} (h : (s, n) ∈ ars) : Pu 1 f_arity [.d (.s s)] (.i n) := by
  refine pu (d := b_arity) rfl rfl fun j hj h' => ?_
  simp [b_arity, ars_T h]
def Aw (d : Nat) (M : Int) (e : D) (ps : List D) : Prop := (∀ p ∈ ps, Ex M d p) ∧ ps.length ≤ 4 ^ d ∧ ∀ j, d + 2 ≤ j → ∀ h, call JP j f_all_within [.d e] h = some (.l h.length, h ++ [ps.map .d])
theorem within_loop {M : Int} {d j : Nat} {γ : D → List D} {e : D} {h : LH} (hj : d + 2 ≤ j) : ∀ (as : List D) (hγ : ∀ a ∈ as, Aw d M a (γ a)) (acc : List D) (z : Option W) (K : LH), acc.length + 4 ^ d * as.length ≤ 16777216 → ∃ z' K', forItems (fb (cx j) (.n 2) l0_all_within) (as.map .d) [some (.d e), some (.l h.length), z] (h ++ acc.map .d :: K) = some (.nxt, [some (.d e), some (.l h.length), z'], h ++ (acc ++ as.flatMap γ).map .d :: K')
  | [], _, acc, z, K, _ => ⟨z, K, by simp [forItems]⟩
  | a :: as, hγ, acc, z, K, hl => by
    have h1 := hγ a (by simp)
    simp only [List.length_cons, Nat.mul_add, Nat.mul_one] at hl
    have h6 := h1.2.1
    obtain ⟨z', K', e1⟩ := within_loop hj as (fun x hx => hγ x (by simp [hx])) (acc ++ γ a) (some (.d a)) (K ++ [(γ a).map .d]) (by simp; omega) (h := h) (e := e)
    refine ⟨z', K', ?_⟩
    simp only [List.map_cons, forItems]
    have hle : acc.length + (γ a).length ≤ 16777216 := by omega
    have e0 : fb (cx j) (.n 2) l0_all_within (.d a) [some (.d e), some (.l h.length), z] (h ++ acc.map .d :: K) = some (.nxt, [some (.d e), some (.l h.length), some (.d a)], h ++ (acc ++ γ a).map .d :: (K ++ [(γ a).map .d])) := by
      simp [fb, l0_all_within, h1.2.2 j hj, hle, okAll_d]
    rw [e0]
    dsimp only
    rw [e1]
    simp
theorem within (M : Int) : ∀ (d : Nat) (e : D), Ex M d e → d ≤ 12 → ∃ ps, Aw d M e ps := by
  intro d e he
  induction he with
  | know n x hx =>
    intro hd
    have h4 : 1 ≤ 4 ^ n := Nat.pow_pos (by omega)
    refine ⟨[.t [.s "know", x]], by simp; exact .know _ _ hx, by simpa using h4, ?_⟩
    intro j hj h
    obtain ⟨j, rfl⟩ : ∃ i, j = i + 1 := ⟨j - 1, by omega⟩
    refine pl (d := b_all_within) rfl rfl ?_
    simp [b_all_within, (args_know x).go (j := j) (by omega), forItems, fin]
  | of n v h1 h2 =>
    intro hd
    have h4 : 1 ≤ 4 ^ n := Nat.pow_pos (by omega)
    refine ⟨[.t [.s "of", .i v]], by simp; exact .of _ _ h1 h2, by simpa using h4, ?_⟩
    intro j hj h
    obtain ⟨j, rfl⟩ : ∃ i, j = i + 1 := ⟨j - 1, by omega⟩
    refine pl (d := b_all_within) rfl rfl ?_
    simp [b_all_within, (args_of (.i v)).go (j := j) (by omega), forItems, fin]
  | op n s as hs ha ih =>
    intro hd
    haveI : Inhabited (List D) := ⟨[]⟩
    obtain ⟨γ, hγ⟩ := sk (fun a ha => ih a ha (by omega))
    obtain ⟨hk, hof, hl1, hl3, _⟩ := ars_ne hs
    have h4 : 4 ^ n * as.length ≤ 4 ^ n * 3 := Nat.mul_le_mul_left _ hl3
    have h5 : 1 ≤ 4 ^ n := Nat.pow_pos (by omega)
    have h6 : 4 ^ (n + 1) ≤ 4 ^ 12 := Nat.pow_le_pow_right (by omega) hd
    have h7 : 4 ^ (n + 1) = 4 ^ n * 3 + 4 ^ n := by rw [Nat.pow_succ]; omega
    have h8 : (4 : Nat) ^ 12 = 16777216 := by decide
    have hlen : ∀ as' : List D, (∀ a ∈ as', (γ a).length ≤ 4 ^ n) → (as'.flatMap γ).length ≤ 4 ^ n * as'.length := by
      intro as' h
      induction as' with
      | nil => simp
      | cons a r ihr =>
        have h1 := ihr (fun x hx => h x (by simp [hx]))
        have h2 := h a (by simp)
        rw [List.flatMap_cons, List.length_append, List.length_cons, Nat.mul_add]; omega
    have hlen' := hlen as (fun a ha => (hγ a ha).2.1)
    refine ⟨.t (.s s :: as) :: as.flatMap γ, ?_, ?_, ?_⟩
    · intro p hp
      rcases List.mem_cons.1 hp with rfl | hp
      · exact .op _ _ _ hs ha
      · obtain ⟨a, ha', hpa⟩ := List.mem_flatMap.1 hp
        exact ((hγ a ha').1 p hpa).up
    · rw [List.length_cons]; omega
    · intro j hj h
      obtain ⟨j, rfl⟩ : ∃ i, j = i + 1 := ⟨j - 1, by omega⟩
      obtain ⟨z', K', e⟩ := within_loop (j := j) (h := h) (e := .t (.s s :: as)) (by omega) as hγ [.t (.s s :: as)] none [] (by simp; omega)
      refine pl (d := b_all_within) rfl rfl ?_
      simp at e
      simp [b_all_within, (args_op as hk hof).go (j := j) (by omega), e, fin, Option.map]

theorem expr_for (M : Int) (d : Nat) (hd : d ≤ 12) (e : D) (he : Ex M d e) : Pu (d + 3) f_is_expression_for [.d (.i M), .d e] (.b true) := by
  refine pu (d := b_is_expression_for) rfl rfl fun j hj h => ?_
  obtain ⟨ps, hps, _, hw⟩ := within M d e he hd
  obtain ⟨ρ', ⟨y, rfl⟩, e1⟩ := forLive_ok (f := fb (cx j) (.n 2) l0_is_expression_for) (H := h ++ [ps.map .d]) (a := h.length) (xs := ps) (fun ρ => ∃ y, ρ = [some (.d (.i M)), some (.d e), y]) (by simp) (by
    rintro x hx ρ ⟨y, rfl⟩
    refine ⟨_, ⟨some (.d x), rfl⟩, ?_⟩
    cases hps x hx with
    | know n x hx => simp [fb, l0_is_expression_for]
    | of n v h1 h2 => simp [fb, l0_is_expression_for, h1, h2]
    | op n s as hs ha =>
      obtain ⟨hk, hof, _⟩ := ars_ne hs
      have h1 := (arity_of hs).go (j := j) (by omega)
      have h2 : ((as.length : Int) + 1 = (as.length : Int) + 1) := rfl
      simp [fb, l0_is_expression_for, hk, hof, h1]) [some (.d (.i M)), some (.d e), none] ⟨_, rfl⟩
  simp [b_is_expression_for, hw j (by omega), e1]
theorem block_for (M : Int) (d : Nat) (hd : d ≤ 12) (size : Nat) (bl : D) (hb : IsBl M d size bl) : Pu (d + 4) f_is_block_for [.d (.i M), .d (.i size), .d bl] (.b true) := by
  obtain ⟨as, jp, rfl, hl, has, hj⟩ := hb
  refine pu (d := b_is_block_for) rfl rfl fun j hj' h => ?_
  obtain ⟨ρ', h', ⟨⟨y3, y4, y5, rfl⟩, rfl⟩, e1⟩ := forItems_ok (f := fb (cx j) (.t [3, 4]) l0_is_block_for) (xs := as) (fun ρ h' => (∃ y3 y4 y5, ρ = [some (.d (.i M)), some (.d (.i size)), some (.d (.t [.t as, jp])), y3, y4, y5]) ∧ h' = h) (by
    rintro x hx ρ h' ⟨⟨y3, y4, y5, rfl⟩, rfl⟩
    obtain ⟨u, e, rfl, hu0, huM, he⟩ := has x hx
    refine ⟨_, _, ⟨⟨some (.d (.i u)), some (.d e), y5, rfl⟩, rfl⟩, ?_⟩
    have h0 : ¬ u < 0 := by omega
    simp [fb, l0_is_block_for, (expr_for M d hd e he).go (j := j) (by omega), hu0, huM]) [some (.d (.i M)), some (.d (.i size)), some (.d (.t [.t as, jp])), none, none, none] h ⟨⟨_, _, _, rfl⟩, rfl⟩
  rcases hj with ⟨t, rfl, h1, h2⟩ | ⟨e, t, u, rfl, he, h1, h2, h3, h4⟩ | ⟨e, rfl, he⟩
  · have ea : Pu 1 f_asked_by [.d (.t [.s "goto", .i t])] (.t []) := by
      refine pu (d := b_asked_by) rfl rfl fun j hj h => ?_
      simp [b_asked_by]
    have eg : Pu 1 f_goes_to [.d (.t [.s "goto", .i t])] (.t [.i t]) := by
      refine pu (d := b_goes_to) rfl rfl fun j hj h => ?_
      simp [b_goes_to]
    simp [b_is_block_for, e1, ea.go (j := j) (by omega), eg.go (j := j) (by omega), forItems, fb, l2_is_block_for, h1, h2]
  · have ea : Pu 1 f_asked_by [.d (.t [.s "test", e, .i t, .i u])] (.t [e]) := by
      refine pu (d := b_asked_by) rfl rfl fun j hj h => ?_
      simp [b_asked_by]
    have eg : Pu 1 f_goes_to [.d (.t [.s "test", e, .i t, .i u])] (.t [.i t, .i u]) := by
      refine pu (d := b_goes_to) rfl rfl fun j hj h => ?_
      simp [b_goes_to]
    simp [b_is_block_for, e1, ea.go (j := j) (by omega), eg.go (j := j) (by omega), forItems, fb, l1_is_block_for, l2_is_block_for, h1, h2, h3, h4, (expr_for M d hd e he).go (j := j) (by omega)]
  · have ea : Pu 1 f_asked_by [.d (.t [.s "end", e])] (.t [e]) := by
      refine pu (d := b_asked_by) rfl rfl fun j hj h => ?_
      simp [b_asked_by]
    have eg : Pu 1 f_goes_to [.d (.t [.s "end", e])] (.t []) := by
      refine pu (d := b_goes_to) rfl rfl fun j hj h => ?_
      simp [b_goes_to]
    simp [b_is_block_for, e1, ea.go (j := j) (by omega), eg.go (j := j) (by omega), forItems, fb, l1_is_block_for, (expr_for M d hd e he).go (j := j) (by omega)]
theorem check_ok (M : Int) (d : Nat) (hd : d ≤ 12) (p : D) (hp : IsPr M d p) : Pu (d + 6) f_check_program [.d p] .none := by
  have h1 : Pu (d + 5) f_is_program [.d p] (.b true) := by
    obtain ⟨hM, bs, rfl, h1, h4, hbs⟩ := hp
    refine pu (d := b_is_program) rfl rfl fun j hj h => ?_
    obtain ⟨ρ', h', ⟨⟨y3, rfl⟩, rfl⟩, e1⟩ := forItems_ok (f := fb (cx j) (.n 3) l0_is_program) (xs := bs) (fun ρ h' => (∃ y3, ρ = [some (.d (.t [.i M, .t bs])), some (.d (.i M)), some (.d (.t bs)), y3]) ∧ h' = h) (by
      rintro x hx ρ h' ⟨⟨y3, rfl⟩, rfl⟩
      refine ⟨_, _, ⟨⟨some (.d x), rfl⟩, rfl⟩, ?_⟩
      simp [fb, l0_is_program, (block_for M d hd bs.length x (hbs x hx)).go (j := j) (by omega)]) [some (.d (.t [.i M, .t bs])), some (.d (.i M)), some (.d (.t bs)), none] h ⟨⟨_, rfl⟩, rfl⟩
    have h2 : ¬ M < 0 := by omega
    have h3 : bs ≠ [] := by rintro rfl; simp at h1
    simp [b_is_program, e1, h2, h3]
  refine pu (d := b_check_program) rfl rfl fun j hj h => ?_
  simp [b_check_program, h1.go (j := j) (by omega)]
end J
set_option maxRecDepth 10000
namespace J
def Pd (k f : Nat) (args : List W) (Q : D → Prop) : Prop := ∀ j, k ≤ j → ∀ a H (ds : List Int), H[a]? = some (dl ds) → ∃ r ds', Q r ∧ call JP j f (.l a :: args) H = some (.d r, H.set a (dl ds'))
theorem take (m : Int) (hm : 1 ≤ m) : Pd 1 f_law_take [.d (.i m)] (fun r => ∃ x, r = .i x ∧ 0 ≤ x ∧ x < m) := by
  intro j hj a H ds ha
  obtain ⟨j, rfl⟩ : ∃ i, j = i + 1 := ⟨j - 1, by omega⟩
  rcases List.eq_nil_or_concat ds with rfl | ⟨ds, x, rfl⟩
  · refine ⟨.i 0, [], ⟨0, rfl, by omega, by omega⟩, ?_⟩
    refine pl (d := b_law_take) rfl rfl ?_
    simp [b_law_take, ha]
    rw [set_self ha]
  · refine ⟨.i (x % m), ds, ⟨_, rfl, Int.emod_nonneg _ (by omega), Int.emod_lt_of_pos _ (by omega)⟩, ?_⟩
    refine pl (d := b_law_take) rfl rfl ?_
    have h0 : 0 < m := by omega
    have h1 : ((ds.length : Int) + 1 = 0) = False := by simp; omega
    have h2 : ¬ ((ds.length : Int) + 1 = 0) := by omega
    have h3 : (dl (ds ++ [x])).getLast? = some (.d (.i x)) := by simp [dl]
    have h4 : (dl (ds ++ [x])).dropLast = dl ds := by simp [dl]
    have hl := (List.getElem?_eq_some_iff.1 ha).1
    simp at h3 h4 ha
    simp [b_law_take, ha, h0, h2, h3, h4]
theorem draws_step (j : Nat) (S N : W) (h : LH) (cells rest draws : List Int) (hc : 1 ≤ cells.length) (hr : rest.length = cells.length) (k : Nat) (hd : draws.length < 100000) (x6 x7 x8 y : Option W) (x5 : Option W) : ∃ rest' d y6 y7, rest'.length = cells.length ∧ fb (cx j) (.n 5) l0_law_draws (.d (.i k)) [some S, some N, some (.l h.length), some (.l (h.length + 1)), some (.l (h.length + 2)), x5, x6, x7, x8] (h ++ [dl cells, dl rest, dl draws]) = some (.nxt, [some S, some N, some (.l h.length), some (.l (h.length + 1)), some (.l (h.length + 2)), some (.d (.i k)), y6, y7, x8], h ++ [dl cells, dl rest', dl (draws ++ [d])]) := by
  have hk : k % cells.length < cells.length := Nat.mod_lt _ hc
  obtain ⟨c, hcc⟩ : ∃ c, cells[k % cells.length]? = some c := ⟨_, List.getElem?_eq_getElem hk⟩
  obtain ⟨r, hrr⟩ : ∃ c, rest[k % cells.length]? = some c := ⟨_, List.getElem?_eq_getElem (by omega)⟩
  have hc2 : (dl cells)[k % cells.length]? = some (.d (.i c)) := by simp [dl, hcc]
  have hr2 : (dl rest)[k % cells.length]? = some (.d (.i r)) := by simp [dl, hrr]
  have hm : ixN cells.length ((k : Int) % (cells.length : Int)) = some (k % cells.length) := ixN_mod _ _ hc
  have h0 : (0 : Int) < cells.length := by omega
  have hcN : 0 < cells.length := hc
  have hd' : draws.length < 16777216 := by omega
  by_cases h1 : c < 1000000000000000000
  · have e0 : (0 : Int) ≤ (c * 48271 + k * 69621 + 11) % 2147483647 := Int.emod_nonneg _ (by omega)
    have e1 : (c * 48271 + k * 69621 + 11) % 2147483647 < 2147483647 := Int.emod_lt_of_pos _ (by omega)
    refine ⟨rest, (((c * 48271 + k * 69621 + 11) % 2147483647) * ((c * 48271 + k * 69621 + 11) % 2147483647) + 3 * ((c * 48271 + k * 69621 + 11) % 2147483647) + k) % 1000003, some (.d (.i ((k : Int) % (cells.length : Int)))), some (.d (.i ((c * 48271 + k * 69621 + 11) % 2147483647))), hr, ?_⟩
    have m1 := mul_ii (h ++ [dl cells, dl rest, dl draws]) c 48271 (by omega)
    have m2 := mul_ii (h ++ [dl cells, dl rest, dl draws]) k 69621 (by omega)
    generalize hz : (c * 48271 + k * 69621 + 11) % 2147483647 = z at e0 e1 ⊢
    have m3 := mul_ii (h ++ [dl cells, dl rest, dl draws]) z z (by omega)
    have m4 := mul_ii (h ++ [dl cells, dl rest, dl draws]) 3 z (by omega)
    have h1' : ¬ 1000000000000000000 ≤ c := by omega
    simp -implicitDefEqProofs [fb, l0_law_draws, h0, hcN, hm, hc2, pow_18, h1', m1, m2, hz, m3, m4, hd']
    simp [dl]
  · by_cases h2 : 0 < r
    · refine ⟨rest.set (k % cells.length) (r / 1000), r % 1000, some (.d (.i ((k : Int) % (cells.length : Int)))), x7, by simp [hr], ?_⟩
      have f1 := fdiv_ii (h ++ [dl cells, dl rest, dl draws ++ [.d (.i (r % 1000))]]) r 1000 (by omega) (by omega)
      have h1' : 1000000000000000000 ≤ c := by omega
      simp -implicitDefEqProofs [fb, l0_law_draws, h0, hcN, hm, hc2, hr2, pow_18, h1', h2, hd', f1, hr]
      simp [dl, List.map_set]
    · have e0 : (0 : Int) ≤ (c * 48271 + k * 69621 + 11) % 2147483647 := Int.emod_nonneg _ (by omega)
      have e1 : (c * 48271 + k * 69621 + 11) % 2147483647 < 2147483647 := Int.emod_lt_of_pos _ (by omega)
      refine ⟨rest, (((c * 48271 + k * 69621 + 11) % 2147483647) * ((c * 48271 + k * 69621 + 11) % 2147483647) + 3 * ((c * 48271 + k * 69621 + 11) % 2147483647) + k) % 1000003, some (.d (.i ((k : Int) % (cells.length : Int)))), some (.d (.i ((c * 48271 + k * 69621 + 11) % 2147483647))), hr, ?_⟩
      have m1 := mul_ii (h ++ [dl cells, dl rest, dl draws]) c 48271 (by omega)
      have m2 := mul_ii (h ++ [dl cells, dl rest, dl draws]) k 69621 (by omega)
      generalize hz : (c * 48271 + k * 69621 + 11) % 2147483647 = z at e0 e1 ⊢
      have m3 := mul_ii (h ++ [dl cells, dl rest, dl draws]) z z (by omega)
      have m4 := mul_ii (h ++ [dl cells, dl rest, dl draws]) 3 z (by omega)
      have h1' : 1000000000000000000 ≤ c := by omega
      simp -implicitDefEqProofs [fb, l0_law_draws, h0, hcN, hm, hc2, hr2, pow_18, h1', h2, m1, m2, hz, m3, m4, hd', hr]
      simp [dl]
theorem draws_loop (j : Nat) (S N : W) (h : LH) (cells : List Int) (hc : 1 ≤ cells.length) : ∀ (ks : List Nat) (rest draws : List Int), rest.length = cells.length → draws.length + ks.length < 100000 → ∀ (x5 x6 x7 x8 : Option W), ∃ rest' draws' y5 y6 y7, forItems (fb (cx j) (.n 5) l0_law_draws) (ks.map fun (k : Nat) => .d (.i k)) [some S, some N, some (.l h.length), some (.l (h.length + 1)), some (.l (h.length + 2)), x5, x6, x7, x8] (h ++ [dl cells, dl rest, dl draws]) = some (.nxt, [some S, some N, some (.l h.length), some (.l (h.length + 1)), some (.l (h.length + 2)), y5, y6, y7, x8], h ++ [dl cells, dl rest', dl draws'])
  | [], rest, draws, _, _, x5, x6, x7, x8 => ⟨rest, draws, x5, x6, x7, rfl⟩
  | k :: ks, rest, draws, hr, hl, x5, x6, x7, x8 => by
    simp only [List.length_cons] at hl
    obtain ⟨r1, d, y6, y7, h1, e1⟩ := draws_step j S N h cells rest draws hc hr k (by omega) x6 x7 x8 none x5
    obtain ⟨r2, d2, z5, z6, z7, e2⟩ := draws_loop j S N h cells hc ks r1 (draws ++ [d]) h1 (by simp; omega) (some (.d (.i k))) y6 y7 x8
    refine ⟨r2, d2, z5, z6, z7, ?_⟩
    simp only [List.map_cons, forItems]
    rw [e1]
    exact e2
theorem draws (ns : List Int) (hns : ns.length ≤ 100) (j : Nat) (hj : 1 ≤ j) (h : LH) : ∃ ds, call JP j f_law_draws [.d (.fl (ns.map .i)), .d (.i 320)] h = some (.l h.length, h ++ [dl ds]) := by
  obtain ⟨j, rfl⟩ : ∃ i, j = i + 1 := ⟨j - 1, by omega⟩
  have hr : range 0 320 = (List.range 320).map fun (k : Nat) => W.d (.i k) := by
    rw [show (320 : Int) = ((320 : Nat) : Int) from rfl, range_eq, List.map_map]; rfl
  have hl : (List.range 320).length = 320 := List.length_range
  generalize List.range 320 = ks at hr hl
  have fin_l : ∀ (xs ys zs : List W) (ds : List Int), zs = dl ds → fin h.length (.l (h.length + 2)) (h ++ [xs, ys, zs]) = some (.l h.length, h ++ [zs]) := by
    rintro xs ys zs ds rfl
    simp [fin, dl]
  rcases ns with _ | ⟨n, ns⟩
  · obtain ⟨rest', draws', y5, y6, y7, e⟩ := draws_loop j (.d (.fl [])) (.d (.i 320)) h [0] (by simp) ks [0] [] rfl (by simp; omega) none none none none
    refine ⟨draws'.reverse, pl (d := b_law_draws) rfl rfl ?_⟩
    simp only [dl, List.map_cons, List.map_nil] at e
    simp -implicitDefEqProofs [b_law_draws, compItems, hr, e, fin_l _ _ _ _ rfl]
    simp [dl, fin, ← List.map_reverse]
  · obtain ⟨rest', draws', y5, y6, y7, e⟩ := draws_loop j (.d (.fl ((n :: ns).map .i))) (.d (.i 320)) h (n :: ns) (by simp) ks (n :: ns) [] rfl (by simp; omega) none none none none
    refine ⟨draws'.reverse, pl (d := b_law_draws) rfl rfl ?_⟩
    have hc : ∀ ρ : Env, 8 < ρ.length → compItems (turn (.n 8) ρ (evc (cx j) none) (ev (cx j) (.bi .int [.var 8]))) (((n :: ns).map D.i).map .d) [] h = some (((n :: ns).map D.i).map .d, h) := by
      intro ρ hρ
      refine comp_n (g := W.d) (fun x hx => ?_) (by simp at hns ⊢; omega)
      obtain ⟨y, _, rfl⟩ := List.mem_map.1 hx
      simp [hρ]
    have h9 : ns.length + 1 ≤ 16777216 := by simp at hns; omega
    have h8 : ns.length ≤ 16777215 := by simp at hns; omega
    have h7 : ¬ ((ns.length : Int) + 1 = 0) := by omega
    simp only [dl, List.map_cons, List.map_nil, List.map_map, Function.comp_def] at e hc
    simp -implicitDefEqProofs [b_law_draws, hc, hr, e, h7, h8, h9, Function.comp_def]
    simp [dl, fin, ← List.map_reverse]
end J
set_option maxRecDepth 10000
namespace J
theorem dl_get {H : LH} {a : Nat} {x : List W} (ds : List Int) (h : H[a]? = some x) : (H.set a (dl ds))[a]? = some (dl ds) := by
  have := (List.getElem?_eq_some_iff.1 h).1
  simp [this]
theorem comp_pd {C : Ctx} {e : E} {i a : Nat} {ρ : Env} (Q : D → Prop) (hx : ∀ x H (ds : List Int), H[a]? = some (dl ds) → ∃ (r : D) (ds' : List Int), Q r ∧ ev C e (ρ.set i (some x)) H = some (.d r, H.set a (dl ds'))) : ∀ (xs acc : List W) (H : LH) (ds : List Int), H[a]? = some (dl ds) → acc.length + xs.length ≤ 16777216 → ∃ (rs : List D) (ds' : List Int), rs.length = xs.length ∧ (∀ r ∈ rs, Q r) ∧ compItems (turn (.n i) ρ (evc C none) (ev C e)) xs acc H = some (acc ++ rs.map .d, H.set a (dl ds'))
  | [], acc, H, ds, ha, _ => ⟨[], ds, rfl, by simp, by simp [compItems, set_self ha]⟩
  | x :: xs, acc, H, ds, ha, hl => by
    simp only [List.length_cons] at hl
    obtain ⟨r, d1, hr, e1⟩ := hx x H ds ha
    obtain ⟨rs, d2, hlen, hrs, e2⟩ := comp_pd Q hx xs (acc ++ [.d r]) (H.set a (dl d1)) d1 (dl_get d1 ha) (by simp; omega)
    have h1 : acc.length < 16777216 := by omega
    refine ⟨r :: rs, d2, by simp [hlen], by simp; exact ⟨hr, hrs⟩, ?_⟩
    unfold compItems
    rw [turn_n, e1, bnd_some, run_mk, if_pos h1]
    dsimp only
    rw [e2]
    simp
theorem cell (ns : List Int) (hns : ns.length ≤ 100) : ∃ c : Int, Pu 1 f_law_cell [.d (.fl (ns.map .i))] (.i c) := by
  by_cases h0 : ns.length = 0
  · refine ⟨0, pu (d := b_law_cell) rfl rfl fun j hj h => ?_⟩
    have : ns = [] := List.length_eq_zero_iff.1 h0
    subst this
    simp [b_law_cell]
  · have hk : ∃ k : Nat, k < ns.length ∧ ((ns.length : Int) - 1) % 7 % (ns.length : Int) = k := by
      have h1 : 0 ≤ ((ns.length : Int) - 1) % 7 % (ns.length : Int) := Int.emod_nonneg _ (by omega)
      have h2 : ((ns.length : Int) - 1) % 7 % (ns.length : Int) < ns.length := Int.emod_lt_of_pos _ (by omega)
      exact ⟨(((ns.length : Int) - 1) % 7 % (ns.length : Int)).toNat, by omega, by omega⟩
    obtain ⟨k, hk1, hk2⟩ := hk
    have hp : (0 : Int) < 10 ^ 60 := by decide
    have h3 : ¬ ((ns.length : Int) = 0) := by omega
    have h4 : (0 : Int) < ns.length := by omega
    have h5 : ns ≠ [] := by intro h; rw [h] at h0; simp at h0
    have h6 : ns[k]? = some ns[k] := List.getElem?_eq_getElem hk1
    generalize ns[k] = c at h6
    generalize hP : (10 : Int) ^ 60 = P at hp
    by_cases hc : c < 0
    · refine ⟨-(-c % P), pu (d := b_law_cell) rfl rfl fun j hj h => ?_⟩
      have := pow_60 h
      rw [hP] at this
      simp -implicitDefEqProofs [b_law_cell, h3, h4, h5, hk2, ixN_nat _ _ hk1, h6, hc, this, hp]
    · refine ⟨c % P, pu (d := b_law_cell) rfl rfl fun j hj h => ?_⟩
      have := pow_60 h
      rw [hP] at this
      simp -implicitDefEqProofs [b_law_cell, h3, h4, h5, hk2, ixN_nat _ _ hk1, h6, hc, this, hp]
theorem Pd.go {k f : Nat} {args : List W} {Q : D → Prop} (p : Pd k f args Q) {j : Nat} (hj : k ≤ j) {a : Nat} {H : LH} {ds : List Int} (ha : H[a]? = some (dl ds)) : ∃ r ds', Q r ∧ call JP j f (.l a :: args) H = some (.d r, H.set a (dl ds')) := p j hj a H ds ha
theorem thing_loop (j a : Nat) (hj : 1 ≤ j) (A B : W) (hA : A = .l a) (x2 : Option W) (l : Nat) : ∀ (ks : List W) (H : LH) (ds : List Int) (row : List D) (K : LH) (x4 x5 : Option W), H.length = l → H[a]? = some (dl ds) → row.length + ks.length ≤ 1000 → (∀ x ∈ row, Pl 1 x) → ∃ (ds' : List Int) (row' : List D) (K' : LH) (y4 y5 : Option W), row'.length ≤ row.length + ks.length ∧ (∀ x ∈ row', Pl 1 x) ∧ forItems (fb (cx j) (.n 4) l0_law_thing) ks [some A, some B, x2, some (.l l), x4, x5] (H ++ row.map .d :: K) = some (.nxt, [some A, some B, x2, some (.l l), y4, y5], H.set a (dl ds') ++ row'.map .d :: K')
  | [], H, ds, row, K, x4, x5, hl, ha, _, hr => ⟨ds, row, K, x4, x5, by simp, hr, by simp [forItems, set_self ha]⟩
  | k :: ks, H, ds, row, K, x4, x5, hl, ha, hn, hr => by
    subst hA
    subst hl
    simp only [List.length_cons] at hn
    have hal := (List.getElem?_eq_some_iff.1 ha).1
    have n1 : row.length < 16777216 := by omega
    obtain ⟨r1, d1, ⟨x1, rfl, _, _⟩, e1⟩ := (take 4 (by omega)).go (j := j) (by omega) (H := H ++ row.map .d :: K) (get_appl ha)
    have ha1 := dl_get d1 ha
    rw [set_appl _ hal] at e1
    have step : ∃ (d2 : List Int) (r : D) (K2 : LH) (y5 : Option W), Pl 1 r ∧ fb (cx j) (.n 4) l0_law_thing k [some (.l a), some B, x2, some (.l H.length), x4, x5] (H ++ row.map .d :: K) = some (.nxt, [some (.l a), some B, x2, some (.l H.length), some k, y5], H.set a (dl d2) ++ (row ++ [r]).map .d :: K2) := by
      by_cases h0 : x1 = 0
      · obtain ⟨r2, d2, ⟨x3, rfl, h3, h3'⟩, e2⟩ := (take 3 (by omega)).go (j := j) (by omega) (H := H.set a (dl d1) ++ row.map .d :: K) (get_appl ha1)
        rw [set_appl _ (by simpa using hal), List.set_set] at e2
        have ha2 := dl_get d2 ha
        obtain ⟨rs, d3, hlen, hrs, e3⟩ := comp_pd (C := cx j) (e := .call f_law_take [.var 0, .c (.i 3)]) (i := 5) (a := a) (ρ := [some (.l a), some B, x2, some (.l H.length), some k, x5]) (fun r => ∃ x, r = .i x ∧ 0 ≤ x ∧ x < 3) (fun x H ds ha => by
          obtain ⟨r, d', hr, e⟩ := (take 3 (by omega)).go (j := j) (by omega) ha
          exact ⟨r, d', hr, by simp [e]⟩) (range 0 x3) [] (H.set a (dl d2) ++ row.map .d :: K) d2 (get_appl ha2) (by simp [range]; omega)
        rw [set_appl _ (by simpa using hal), List.set_set] at e3
        have hR : inR x3 := inR_of (by omega) (by omega)
        have hlen' : rs.length ≤ 16777216 := by rw [hlen]; simp [range]; omega
        refine ⟨d3, .t rs, K ++ [rs.map .d], x5, .t _ _ (by rw [hlen]; simp [range]; omega) (fun x hx => by obtain ⟨y, rfl, _⟩ := hrs x hx; exact .i _ _), ?_⟩
        subst h0
        simp -implicitDefEqProofs [fb, l0_law_thing, e1, e2, e3, hR, hlen', n1]
      · obtain ⟨r2, d2, ⟨x3, rfl, _, _⟩, e2⟩ := (take 4 (by omega)).go (j := j) (by omega) (H := H.set a (dl d1) ++ row.map .d :: K) (get_appl ha1)
        rw [set_appl _ (by simpa using hal), List.set_set] at e2
        refine ⟨d2, .i (x3 - 1), K, x5, .i _ _, ?_⟩
        simp -implicitDefEqProofs [fb, l0_law_thing, e1, e2, h0, n1]
    obtain ⟨d2, r, K2, y5, hr2, e2⟩ := step
    obtain ⟨ds', row', K', z4, z5, hle, hp, e3⟩ := thing_loop j a hj (.l a) B rfl x2 H.length ks (H.set a (dl d2)) d2 (row ++ [r]) K2 (some k) y5 (by simp) (dl_get d2 ha) (by simp; omega) (by
      intro x hx
      rcases List.mem_append.1 hx with h | h
      · exact hr x h
      · simp at h; subst h; exact hr2)
    refine ⟨ds', row', K', z4, z5, by simp at hle ⊢; omega, hp, ?_⟩
    simp only [forItems]
    rw [e2]
    dsimp only
    rw [e3]
    simp

theorem thing (c : Int) : Pd 4 f_law_thing [.d (.i c)] (Pl 2) := by
  intro j hj a H ds ha
  obtain ⟨j, rfl⟩ : ∃ i, j = i + 1 := ⟨j - 1, by omega⟩
  have hal := (List.getElem?_eq_some_iff.1 ha).1
  obtain ⟨r1, d1, ⟨x1, rfl, h1, h1'⟩, e1⟩ := (take 12 (by omega)).go (j := j) (by omega) ha
  have ha1 := dl_get d1 ha
  by_cases h11 : x1 = 11
  · subst h11
    refine ⟨.i c, d1, .i _ _, pl (d := b_law_thing) rfl rfl ?_⟩
    simp -implicitDefEqProofs [b_law_thing, e1]
  · by_cases h6 : x1 < 6
    · obtain ⟨r2, d2, ⟨x2, rfl, _, _⟩, e2⟩ := (take 4 (by omega)).go (j := j) (by omega) ha1
      rw [List.set_set] at e2
      refine ⟨.i (x2 - 1), d2, .i _ _, pl (d := b_law_thing) rfl rfl ?_⟩
      simp -implicitDefEqProofs [b_law_thing, e1, e2, h11, h6]
    · obtain ⟨r2, d2, ⟨x2, rfl, h2, h2'⟩, e2⟩ := (take 4 (by omega)).go (j := j) (by omega) (H := H.set a (dl d1) ++ [[]]) (get_appl ha1)
      rw [set_appl _ (by simpa using hal), List.set_set] at e2
      obtain ⟨d3, row, K, y4, y5, hle, hp, e3⟩ := thing_loop j a (by omega) (.l a) (.d (.i c)) rfl (some (.d (.i x1))) H.length (range 0 x2) (H.set a (dl d2)) d2 [] [] none none (by simp) (dl_get d2 ha) (by simp [range]; omega) (by simp)
      have hR : inR x2 := inR_of (by omega) (by omega)
      have hl3 : row.length ≤ 3 := by simp [range] at hle; omega
      have hl4 : row.length ≤ 16777216 := by omega
      have g1 : ∀ K : LH, (H.set a (dl d3) ++ K)[H.length]? = K[0]? := by
        intro K
        rw [List.getElem?_append_right (by simp)]; simp
      refine ⟨.t row, d3, .t _ _ (by omega) hp, pl (d := b_law_thing) rfl rfl ?_⟩
      simp at e3
      simp -implicitDefEqProofs [b_law_thing, e1, e2, h11, h6, hR, e3, hl4, g1]
theorem store_ok (c : Int) (m : Nat) (hm : m ≤ 100) : Pd 6 f_law_store [.d (.i m), .d (.i c)] (fun r => ∃ xs, r = .t xs ∧ xs.length = m ∧ ∀ x ∈ xs, Pl 2 x) := by
  intro j hj a H ds ha
  obtain ⟨j, rfl⟩ : ∃ i, j = i + 1 := ⟨j - 1, by omega⟩
  obtain ⟨rs, d3, hlen, hrs, e3⟩ := comp_pd (C := cx j) (e := .call f_law_thing [.var 0, .var 2]) (i := 3) (a := a) (ρ := [some (.l a), some (.d (.i m)), some (.d (.i c)), none]) (Pl 2) (fun x H ds ha => by
    obtain ⟨r, d', hr, e⟩ := (thing c).go (j := j) (by omega) ha
    exact ⟨r, d', hr, by simp [e]⟩) (range 0 m) [] H ds ha (by simp [range]; omega)
  have hl : rs.length = m := by rw [hlen]; simp [range]
  have hl' : rs.length ≤ 16777216 := by omega
  have hR : inR (m : Int) := inR_of (by omega) (by omega)
  refine ⟨.t rs, d3, ⟨rs, rfl, hl, hrs⟩, pl (d := b_law_store) rfl rfl ?_⟩
  simp -implicitDefEqProofs [b_law_store, e3, hR, hl']
inductive Lk (v n : Int) : D → Prop where
  | know (x : D) : Pl 2 x → Lk v n (.t [.s "know", x])
  | of (u : Int) : u ≠ v → Lk v n (.t [.s "of", .i u])
  | item (i : Int) : 0 ≤ i → i < n → Lk v n (.t [.s "item", .t [.s "know", .i i], .t [.s "of", .i v]])
  | first : Lk v n (.t [.s "first", .t [.s "of", .i v]])
  | op (s : String) (as : List D) : (s, as.length) ∈ ars → (∀ a ∈ as, Lk v n a) → Lk v n (.t (.s s :: as))
theorem near_step (M v c : Int) (hM : 1 ≤ M) (hv0 : 0 ≤ v) (hv : v < M) (n : Nat) (hn : 1 ≤ n) (hn3 : n ≤ 100) : ∀ d : Nat, (∀ d', d = d' + 1 → Pd (d' + 6) f_law_near [.d (.i M), .d (.i v), .d (.i n), .d (.i d'), .d (.i c)] (fun e => Ex M (d' + 1) e ∧ Lk v n e)) → Pd (d + 6) f_law_near [.d (.i M), .d (.i v), .d (.i n), .d (.i d), .d (.i c)] (fun e => Ex M (d + 1) e ∧ Lk v n e) := by
    intro d ih j hj a H ds ha
    obtain ⟨j, rfl⟩ : ∃ i, j = i + 1 := ⟨j - 1, by omega⟩
    obtain ⟨r1, d1, ⟨x1, rfl, h1, h1'⟩, e1⟩ := (take 8 (by omega)).go (j := j) (by omega) ha
    have ha1 := dl_get d1 ha
    have hn0 : 0 < (n : Int) := by omega
    have hnN : 0 < n := by omega
    by_cases h2 : x1 < 2
    · obtain ⟨r2, d2, ⟨x2, rfl, h3, h3'⟩, e2⟩ := (take n (by omega)).go (j := j) (by omega) ha1
      rw [List.set_set] at e2
      refine ⟨.t [.s "item", .t [.s "know", .i x2], .t [.s "of", .i v]], d2, ⟨.op _ _ _ (by simp [ars]) (by simp; exact ⟨.know _ _ (.i _ _), .of _ _ hv0 hv⟩), .item _ h3 h3'⟩, pl (d := b_law_near) rfl rfl ?_⟩
      simp -implicitDefEqProofs [b_law_near, e1, e2, h2, hn0, hnN]
    · by_cases h2' : x1 = 2
      · subst h2'
        refine ⟨.t [.s "first", .t [.s "of", .i v]], d1, ⟨.op _ _ _ (by simp [ars]) (by simp; exact .of _ _ hv0 hv), .first⟩, pl (d := b_law_near) rfl rfl ?_⟩
        simp -implicitDefEqProofs [b_law_near, e1]
      · by_cases h3 : x1 = 3 ∨ d = 0
        · obtain ⟨r2, d2, hr2, e2⟩ := (thing c).go (j := j) (by omega) ha1
          rw [List.set_set] at e2
          refine ⟨.t [.s "know", r2], d2, ⟨.know _ _ hr2, .know _ hr2⟩, pl (d := b_law_near) rfl rfl ?_⟩
          rcases h3 with rfl | rfl
          · simp -implicitDefEqProofs [b_law_near, e1, e2]
          · by_cases h3 : x1 = 3
            · subst h3
              simp -implicitDefEqProofs [b_law_near, e1, e2]
            · simp -implicitDefEqProofs [b_law_near, e1, e2, h2, h2', h3]
        · obtain ⟨d', rfl⟩ : ∃ d', d = d' + 1 := ⟨d - 1, by omega⟩
          have hd0 : ¬ ((d' : Int) + 1 = 0) := by omega
          have h3 : ¬ x1 = 3 := fun h => h3 (.inl h)
          by_cases h6 : x1 < 6
          · obtain ⟨r2, d2, ⟨x2, rfl, h4, h4'⟩, e2⟩ := (take M (by omega)).go (j := j) (by omega) ha1
            rw [List.set_set] at e2
            by_cases h5 : x2 = v
            · subst h5
              refine ⟨.t [.s "first", .t [.s "of", .i x2]], d2, ⟨.op _ _ _ (by simp [ars]) (by simp; exact .of _ _ hv0 hv), .first⟩, pl (d := b_law_near) rfl rfl ?_⟩
              simp -implicitDefEqProofs [b_law_near, e1, e2, h2, h2', h3, hd0, h6]
            · refine ⟨.t [.s "of", .i x2], d2, ⟨.of _ _ h4 h4', .of _ h5⟩, pl (d := b_law_near) rfl rfl ?_⟩
              simp -implicitDefEqProofs [b_law_near, e1, e2, h2, h2', h3, hd0, h6, h5]
          · have hL : (H.set a (dl d1) ++ [[W.d (.s "plus"), .d (.s "same"), .d (.s "less"), .d (.s "minus"), .d (.s "item"), .d (.s "choose"), .d (.s "length"), .d (.s "rest")]])[a]? = some (dl d1) := get_appl ha1
            obtain ⟨r2, d2, ⟨x2, rfl, h4, h4'⟩, e2⟩ := (take 8 (by omega)).go (j := j) (by omega) hL
            have hal := (List.getElem?_eq_some_iff.1 ha).1
            rw [set_appl _ (by simpa using hal), List.set_set] at e2
            have hc : ∀ (s : String) (k : Nat), k ≤ 3 → (s, k) ∈ ars → ∃ (rs : List D) (d3 : List Int), rs.length = k ∧ (∀ r ∈ rs, Ex M (d' + 1) r ∧ Lk v n r) ∧ compItems (turn (.n 10) [some (.l a), some (.d (.i M)), some (.d (.i v)), some (.d (.i n)), some (.d (.i ((d' : Int) + 1))), some (.d (.i c)), some (.d (.i x1)), none, some (.d (.s s)), some (.d (.i k)), none] (evc (cx j) none) (ev (cx j) (.call f_law_near [.var 0, .var 1, .var 2, .var 3, .bin .sub (.var 4) (.c (.i 1)), .var 5]))) (range 0 k) [] (H.set a (dl d2) ++ [[W.d (.s "plus"), .d (.s "same"), .d (.s "less"), .d (.s "minus"), .d (.s "item"), .d (.s "choose"), .d (.s "length"), .d (.s "rest")], [.d (.i 1), .d (.i 2), .d (.i 3)]]) = some (rs.map .d, H.set a (dl d3) ++ [[W.d (.s "plus"), .d (.s "same"), .d (.s "less"), .d (.s "minus"), .d (.s "item"), .d (.s "choose"), .d (.s "length"), .d (.s "rest")], [.d (.i 1), .d (.i 2), .d (.i 3)]]) := by
              intro s k hk hs
              obtain ⟨rs, d3, hlen, hrs, e3⟩ := comp_pd (C := cx j) (e := .call f_law_near [.var 0, .var 1, .var 2, .var 3, .bin .sub (.var 4) (.c (.i 1)), .var 5]) (i := 10) (a := a) (ρ := [some (.l a), some (.d (.i M)), some (.d (.i v)), some (.d (.i n)), some (.d (.i ((d' : Int) + 1))), some (.d (.i c)), some (.d (.i x1)), none, some (.d (.s s)), some (.d (.i k)), none]) (fun e => Ex M (d' + 1) e ∧ Lk v n e) (fun x H ds ha => by
                obtain ⟨r, d', hr, e⟩ := (ih d' rfl).go (j := j) (by omega) ha
                exact ⟨r, d', hr, by simp [e]⟩) (range 0 k) [] (H.set a (dl d2) ++ [[W.d (.s "plus"), .d (.s "same"), .d (.s "less"), .d (.s "minus"), .d (.s "item"), .d (.s "choose"), .d (.s "length"), .d (.s "rest")], [.d (.i 1), .d (.i 2), .d (.i 3)]]) d2 (get_appl (dl_get d2 ha)) (by simp [range]; omega)
              rw [set_appl _ (by simpa using hal), List.set_set] at e3
              exact ⟨rs, d3, by rw [hlen]; simp [range], hrs, by simpa using e3⟩
            have hx : x2 = 0 ∨ x2 = 1 ∨ x2 = 2 ∨ x2 = 3 ∨ x2 = 4 ∨ x2 = 5 ∨ x2 = 6 ∨ x2 = 7 := by omega
            rcases hx with rfl | rfl | rfl | rfl | rfl | rfl | rfl | rfl
            · obtain ⟨rs, d3, hlen, hrs, e3⟩ := hc "plus" 2 (by omega) (by simp [ars])
              have l1 : rs.length ≤ 16777216 := by omega
              have l2 : 1 + rs.length ≤ 16777216 := by omega
              have l3 : rs.length + 1 ≤ 16777216 := by omega
              have l4 : rs.length ≤ 16777215 := by omega
              refine ⟨.t (.s "plus" :: rs), d3, ⟨.op _ _ _ (by rw [hlen]; simp [ars]) (fun x hx => (hrs x hx).1), .op _ _ (by rw [hlen]; simp [ars]) (fun x hx => (hrs x hx).2)⟩, pl (d := b_law_near) rfl rfl ?_⟩
              simp at e2 e3
              simp -implicitDefEqProofs [b_law_near, e1, e2, h2, h2', h3, hd0, h6, ixN, e3, l1, l2, l3, l4]
            · obtain ⟨rs, d3, hlen, hrs, e3⟩ := hc "same" 2 (by omega) (by simp [ars])
              have l1 : rs.length ≤ 16777216 := by omega
              have l2 : 1 + rs.length ≤ 16777216 := by omega
              have l3 : rs.length + 1 ≤ 16777216 := by omega
              have l4 : rs.length ≤ 16777215 := by omega
              refine ⟨.t (.s "same" :: rs), d3, ⟨.op _ _ _ (by rw [hlen]; simp [ars]) (fun x hx => (hrs x hx).1), .op _ _ (by rw [hlen]; simp [ars]) (fun x hx => (hrs x hx).2)⟩, pl (d := b_law_near) rfl rfl ?_⟩
              simp at e2 e3
              simp -implicitDefEqProofs [b_law_near, e1, e2, h2, h2', h3, hd0, h6, ixN, e3, l1, l2, l3, l4]
            · obtain ⟨rs, d3, hlen, hrs, e3⟩ := hc "less" 2 (by omega) (by simp [ars])
              have l1 : rs.length ≤ 16777216 := by omega
              have l2 : 1 + rs.length ≤ 16777216 := by omega
              have l3 : rs.length + 1 ≤ 16777216 := by omega
              have l4 : rs.length ≤ 16777215 := by omega
              refine ⟨.t (.s "less" :: rs), d3, ⟨.op _ _ _ (by rw [hlen]; simp [ars]) (fun x hx => (hrs x hx).1), .op _ _ (by rw [hlen]; simp [ars]) (fun x hx => (hrs x hx).2)⟩, pl (d := b_law_near) rfl rfl ?_⟩
              simp at e2 e3
              simp -implicitDefEqProofs [b_law_near, e1, e2, h2, h2', h3, hd0, h6, ixN, e3, l1, l2, l3, l4]
            · obtain ⟨rs, d3, hlen, hrs, e3⟩ := hc "minus" 2 (by omega) (by simp [ars])
              have l1 : rs.length ≤ 16777216 := by omega
              have l2 : 1 + rs.length ≤ 16777216 := by omega
              have l3 : rs.length + 1 ≤ 16777216 := by omega
              have l4 : rs.length ≤ 16777215 := by omega
              refine ⟨.t (.s "minus" :: rs), d3, ⟨.op _ _ _ (by rw [hlen]; simp [ars]) (fun x hx => (hrs x hx).1), .op _ _ (by rw [hlen]; simp [ars]) (fun x hx => (hrs x hx).2)⟩, pl (d := b_law_near) rfl rfl ?_⟩
              simp at e2 e3
              simp -implicitDefEqProofs [b_law_near, e1, e2, h2, h2', h3, hd0, h6, ixN, e3, l1, l2, l3, l4]
            · obtain ⟨rs, d3, hlen, hrs, e3⟩ := hc "item" 2 (by omega) (by simp [ars])
              have l1 : rs.length ≤ 16777216 := by omega
              have l2 : 1 + rs.length ≤ 16777216 := by omega
              have l3 : rs.length + 1 ≤ 16777216 := by omega
              have l4 : rs.length ≤ 16777215 := by omega
              refine ⟨.t (.s "item" :: rs), d3, ⟨.op _ _ _ (by rw [hlen]; simp [ars]) (fun x hx => (hrs x hx).1), .op _ _ (by rw [hlen]; simp [ars]) (fun x hx => (hrs x hx).2)⟩, pl (d := b_law_near) rfl rfl ?_⟩
              simp at e2 e3
              simp -implicitDefEqProofs [b_law_near, e1, e2, h2, h2', h3, hd0, h6, ixN, e3, l1, l2, l3, l4]
            · obtain ⟨rs, d3, hlen, hrs, e3⟩ := hc "choose" 3 (by omega) (by simp [ars])
              have l1 : rs.length ≤ 16777216 := by omega
              have l2 : 1 + rs.length ≤ 16777216 := by omega
              have l3 : rs.length + 1 ≤ 16777216 := by omega
              have l4 : rs.length ≤ 16777215 := by omega
              refine ⟨.t (.s "choose" :: rs), d3, ⟨.op _ _ _ (by rw [hlen]; simp [ars]) (fun x hx => (hrs x hx).1), .op _ _ (by rw [hlen]; simp [ars]) (fun x hx => (hrs x hx).2)⟩, pl (d := b_law_near) rfl rfl ?_⟩
              simp at e2 e3
              simp -implicitDefEqProofs [b_law_near, e1, e2, h2, h2', h3, hd0, h6, ixN, e3, l1, l2, l3, l4]
            · obtain ⟨rs, d3, hlen, hrs, e3⟩ := hc "length" 1 (by omega) (by simp [ars])
              have l1 : rs.length ≤ 16777216 := by omega
              have l2 : 1 + rs.length ≤ 16777216 := by omega
              have l3 : rs.length + 1 ≤ 16777216 := by omega
              have l4 : rs.length ≤ 16777215 := by omega
              refine ⟨.t (.s "length" :: rs), d3, ⟨.op _ _ _ (by rw [hlen]; simp [ars]) (fun x hx => (hrs x hx).1), .op _ _ (by rw [hlen]; simp [ars]) (fun x hx => (hrs x hx).2)⟩, pl (d := b_law_near) rfl rfl ?_⟩
              simp at e2 e3
              simp -implicitDefEqProofs [b_law_near, e1, e2, h2, h2', h3, hd0, h6, ixN, e3, l1, l2, l3, l4]
            · obtain ⟨rs, d3, hlen, hrs, e3⟩ := hc "rest" 1 (by omega) (by simp [ars])
              have l1 : rs.length ≤ 16777216 := by omega
              have l2 : 1 + rs.length ≤ 16777216 := by omega
              have l3 : rs.length + 1 ≤ 16777216 := by omega
              have l4 : rs.length ≤ 16777215 := by omega
              refine ⟨.t (.s "rest" :: rs), d3, ⟨.op _ _ _ (by rw [hlen]; simp [ars]) (fun x hx => (hrs x hx).1), .op _ _ (by rw [hlen]; simp [ars]) (fun x hx => (hrs x hx).2)⟩, pl (d := b_law_near) rfl rfl ?_⟩
              simp at e2 e3
              simp -implicitDefEqProofs [b_law_near, e1, e2, h2, h2', h3, hd0, h6, ixN, e3, l1, l2, l3, l4]
theorem near (M v c : Int) (hM : 1 ≤ M) (hv0 : 0 ≤ v) (hv : v < M) (n : Nat) (hn : 1 ≤ n) (hn3 : n ≤ 100) : ∀ d : Nat, Pd (d + 6) f_law_near [.d (.i M), .d (.i v), .d (.i n), .d (.i d), .d (.i c)] (fun e => Ex M (d + 1) e ∧ Lk v n e) := by
  intro d
  induction d with
  | zero => exact near_step M v c hM hv0 hv n hn hn3 0 (fun d' h => by omega)
  | succ d ih =>
    refine near_step M v c hM hv0 hv n hn hn3 (d + 1) (fun d' h => ?_)
    have h2 : d = d' := by omega
    subst h2
    exact ih
end J
set_option maxRecDepth 10000
namespace J
def mkL : List D → D
  | [] => .t [.s "know", .t []]
  | x :: r => .t [.s "join", x, mkL r]
theorem list_ok (parts : List D) (hp : parts.length ≤ 4) (j : Nat) (hj : 1 ≤ j) (H : LH) (b : Nat) (hb : H[b]? = some (parts.map .d)) : call JP j f_law_list [.l b] H = some (.d (mkL parts), H) := by
  obtain ⟨j, rfl⟩ : ∃ i, j = i + 1 := ⟨j - 1, by omega⟩
  refine pl (d := b_law_list) rfl rfl ?_
  rcases parts with _ | ⟨a, _ | ⟨b, _ | ⟨c, _ | ⟨d, _ | ⟨e, r⟩⟩⟩⟩⟩
  · simp at hb; simp -implicitDefEqProofs [b_law_list, hb, forLive, fb, l0_law_list, mkL]
  · simp at hb; simp -implicitDefEqProofs [b_law_list, hb, forLive, fb, l0_law_list, mkL]
  · simp at hb; simp -implicitDefEqProofs [b_law_list, hb, forLive, fb, l0_law_list, mkL]
  · simp at hb; simp -implicitDefEqProofs [b_law_list, hb, forLive, fb, l0_law_list, mkL]
  · simp at hb; simp -implicitDefEqProofs [b_law_list, hb, forLive, fb, l0_law_list, mkL]
  · simp at hp
theorem mkL_ex {M : Int} {d : Nat} : ∀ parts : List D, (∀ x ∈ parts, Ex M d x) → Ex M (d + parts.length) (mkL parts)
  | [], _ => .know _ _ (.t _ _ (by simp) (by simp))
  | x :: r, h => by
    refine .op _ _ _ (by simp [ars]) ?_
    simp
    exact ⟨(h x (by simp)).le (by omega), mkL_ex r (fun y hy => h y (by simp [hy]))⟩
theorem mkL_joins : ∀ parts : List D, joins parts.length (mkL parts) = some (parts, .t [.s "know", .t []])
  | [] => rfl
  | x :: r => by simp [joins, mkL, mkL_joins r]
theorem mkL_lst (parts : List D) : lst parts.length (mkL parts) = some parts := by
  unfold lst
  rw [mkL_joins]
  simp
theorem lk_looks (M v : Int) (m : Nat) (hm : 1 ≤ m) : ∀ e, Lk v m e → ∀ d, Ex M d e → Pu (d + 5) f_law_looks_v1 [.d e, .d (.i v), .d (.i m)] (.b true) := by
  intro e hk
  induction hk with
  | know x hx =>
    intro d he
    obtain ⟨o, ho, h1, h2⟩ := asked M v m (by omega) d _ he
    refine pu (d := b_law_looks_v1) rfl rfl fun j hj h => ?_
    simp -implicitDefEqProofs [b_law_looks_v1, h2.go (j := j) (by omega)]
  | of u hu =>
    intro d he
    obtain ⟨o, ho, h1, h2⟩ := asked M v m (by omega) d _ he
    refine pu (d := b_law_looks_v1) rfl rfl fun j hj h => ?_
    rcases o with _ | o
    · simp -implicitDefEqProofs [b_law_looks_v1, h2.go (j := j) (by omega), hu]
    · have := (ho o rfl).1
      simp -implicitDefEqProofs [b_law_looks_v1, h2.go (j := j) (by omega), hu, this]
  | item i h0 h1 =>
    intro d he
    have h2 : Pu 1 f_law_item_asked [.d (.t [.s "item", .t [.s "know", .i i], .t [.s "of", .i v]]), .d (.i v), .d (.i m)] (.i i) := by
      refine pu (d := b_law_item_asked) rfl rfl fun j hj h => ?_
      simp -implicitDefEqProofs [b_law_item_asked, h0, h1]
    refine pu (d := b_law_looks_v1) rfl rfl fun j hj h => ?_
    simp -implicitDefEqProofs [b_law_looks_v1, h2.go (j := j) (by omega), h0]
  | first =>
    intro d he
    have h2 : Pu 1 f_law_item_asked [.d (.t [.s "first", .t [.s "of", .i v]]), .d (.i v), .d (.i m)] (.i 0) := by
      refine pu (d := b_law_item_asked) rfl rfl fun j hj h => ?_
      simp -implicitDefEqProofs [b_law_item_asked]
    refine pu (d := b_law_looks_v1) rfl rfl fun j hj h => ?_
    simp -implicitDefEqProofs [b_law_looks_v1, h2.go (j := j) (by omega)]
  | op s as hs ha ih =>
    intro d he
    obtain ⟨o, ho, h1, h2⟩ := asked M v m (by omega) d _ he
    obtain ⟨hk, hof, _, hl3, _⟩ := ars_ne hs
    obtain ⟨d', rfl, hea⟩ : ∃ d', d = d' + 1 ∧ ∀ a ∈ as, Ex M d' a := by
      generalize hee : D.t (.s s :: as) = e at he
      cases he with
      | know n x => simp at hee; exact absurd hee.1 hk
      | of n x => simp at hee; exact absurd hee.1 hof
      | op n s' as' hs' ha' => simp at hee; obtain ⟨rfl, rfl⟩ := hee; exact ⟨n, rfl, ha'⟩
    refine pu (d := b_law_looks_v1) rfl rfl fun j hj h => ?_
    rcases o with _ | o
    · obtain ⟨ρ', h', ⟨⟨x, rfl⟩, rfl⟩, e⟩ := forItems_ok (f := fb (cx j) (.n 3) l0_law_looks_v1) (fun ρ h' => (∃ x, ρ = [some (.d (.t (.s s :: as))), some (.d (.i v)), some (.d (.i m)), x]) ∧ h' = h) (xs := as) (by
        rintro a ha ρ h' ⟨⟨x, rfl⟩, rfl⟩
        refine ⟨_, _, ⟨⟨some (.d a), rfl⟩, rfl⟩, ?_⟩
        simp [fb, l0_law_looks_v1, (ih a ha d' (hea a ha)).go (j := j) (by omega)]) [some (.d (.t (.s s :: as))), some (.d (.i v)), some (.d (.i m)), none] h ⟨⟨_, rfl⟩, rfl⟩
      simp -implicitDefEqProofs [b_law_looks_v1, h2.go (j := j) (by omega), hk, hof, e]
    · have := (ho o rfl).1
      simp -implicitDefEqProofs [b_law_looks_v1, h2.go (j := j) (by omega), hk, hof, this]
end J
set_option maxRecDepth 10000
namespace J
def Small (p : D) : Prop := ∀ M bs, p = .t [M, .t bs] → ∀ b ∈ bs, ∀ as j, b = .t [.t as, j] → as.length ≤ 8
theorem judged (M v : Int) (m : Nat) (hm : 1 ≤ m) (hm3 : m ≤ 3) (d : Nat) (hd : d ≤ 12) (p : D) (hp : IsPr M d p) (hs : Small p) : Pu (d + 20) f_law_is_judged [.d p, .d (.i v), .d (.i m)] (.b true) := by
  obtain ⟨b, ⟨hb1, _⟩, c1, c2⟩ := can M v m hm (by omega) d p hp
  have hp' := hp
  obtain ⟨hM, bs, rfl, h1, h4, hbs⟩ := hp
  cases b with
  | false =>
    refine pu (d := b_law_is_judged) rfl rfl fun j hj h => ?_
    simp -implicitDefEqProofs [b_law_is_judged, c1.go (j := j) (by omega), c2.go (j := j) (by omega), (same_b false).go (j := j) (by omega)]
  | true =>
    obtain ⟨p', q1, q2, q3⟩ := splits M v m hm hm3 d bs hM h1 h4 (fun b hb => ⟨hbs b hb, hs _ _ rfl b hb⟩) (hb1 rfl _ rfl)
    have q4 := same _ _ q1.pl
    have q5 := check_ok _ d hd p' q1
    refine pu (d := b_law_is_judged) rfl rfl fun j hj h => ?_
    simp -implicitDefEqProofs [b_law_is_judged, c1.go (j := j) (by omega), c2.go (j := j) (by omega), (same_b true).go (j := j) (by omega), q2.go (j := j) (by omega), q3.go (j := j) (by omega), q4.go (j := j) (by omega), q5.go (j := j) (by omega)]
end J
set_option maxRecDepth 10000
namespace J
/-- a drawn assignment -/
def DrAs (M v : Int) (n : Nat) (a : D) : Prop := IsAs M 5 a ∧ GoodAs v n 5 a
theorem lk_good {M v : Int} {n d : Nat} (hn : 1 ≤ n) {e : D} (he : Ex M d e) (hk : Lk v n e) : LkT v n d e := lk_looks M v n hn e hk d he
theorem listing_as (M v c : Int) (hM : 1 ≤ M) (hv0 : 0 ≤ v) (hv : v < M) (n : Nat) (hn : 1 ≤ n) (hn3 : n ≤ 3) (j : Nat) (hj : 10 ≤ j) (a A : Nat) (haA : a < A) (S B x7 x11 x12 : Option W) (k : W) (G : LH) (ds : List Int) (as : List D) (x9 x10 x13 : Option W) (hA : G[A]? = some (as.map .d)) (ha : G[a]? = some (dl ds)) (hl : as.length ≤ 100) :
    ∃ (ds' : List Int) (asg : D) (G' : LH) (y9 y10 y13 : Option W), DrAs M v n asg ∧ fb (cx j) (.n 9) l0_law_listing k [some (.l a), some (.d (.i M)), some (.d (.i v)), some (.d (.i n)), S, some (.d (.i c)), B, x7, some (.l A), x9, x10, x11, x12, x13] G = some (.nxt, [some (.l a), some (.d (.i M)), some (.d (.i v)), some (.d (.i n)), S, some (.d (.i c)), B, x7, some (.l A), y9, y10, x11, x12, y13], G') ∧ G'[A]? = some ((as ++ [asg]).map .d) ∧ G'[a]? = some (dl ds') ∧ G'.take A = (G.take A).set a (dl ds') := by
  have hal := (List.getElem?_eq_some_iff.1 ha).1
  have hAl := (List.getElem?_eq_some_iff.1 hA).1
  have hne : a ≠ A := by omega
  have hl' : as.length < 16777216 := by omega
  obtain ⟨r1, d1, ⟨u, rfl, hu0, hu⟩, e1⟩ := (take M hM).go (j := j) (by omega) ha
  have ha1 := dl_get d1 ha
  by_cases huv : u = v
  · subst huv
    obtain ⟨rs, d2, hlen, hrs, e2⟩ := comp_pd (C := cx j) (e := .call f_law_near [.var 0, .var 1, .var 2, .var 3, .c (.i 1), .var 5]) (i := 13) (a := a) (ρ := [some (.l a), some (.d (.i M)), some (.d (.i u)), some (.d (.i n)), S, some (.d (.i c)), B, x7, some (.l A), some k, some (.d (.i u)), x11, x12, x13]) (fun e => Ex M 2 e ∧ Lk u n e) (fun x H ds ha => by
      obtain ⟨r, d', hr, e⟩ := (near M u c hM hv0 hv n hn (by omega) 1).go (j := j) (by omega) ha
      exact ⟨r, d', hr, by simpa using e⟩) (range 0 n) [] (G.set a (dl d1)) d1 ha1 (by simp [range]; omega)
    have hlen' : rs.length = n := by rw [hlen]; simp [range]
    rw [List.set_set] at e2
    have hR : inR (n : Int) := inR_of (by omega) (by omega)
    have e3 := list_ok rs (by omega) j (by omega) (G.set a (dl d2) ++ [rs.map .d]) G.length (by rw [List.getElem?_append_right (by simp)]; simp)
    refine ⟨d2, .t [.i u, mkL rs], (G.set a (dl d2)).set A (as.map .d ++ [.d (.t [.i u, mkL rs])]) ++ [rs.map .d], some k, some (.d (.i u)), x13, ⟨⟨u, _, rfl, hv0, hv, (mkL_ex rs (fun x hx => (hrs x hx).1)).le (by omega)⟩, ?_⟩, ?_, ?_, ?_, ?_⟩
    · intro u' e' h
      simp at h
      obtain ⟨rfl, rfl⟩ := h
      refine ⟨fun _ => ⟨rs, ?_, fun x hx => lk_good hn ((hrs x hx).1.le (by omega)) (hrs x hx).2⟩, fun h => absurd rfl h⟩
      rw [← hlen']; exact mkL_lst rs
    · have hA2 : (G.set a (dl d2) ++ [rs.map .d])[A]? = some (as.map .d) := by
        refine get_appl ?_
        rw [List.getElem?_set_ne hne]; exact hA
      simp -implicitDefEqProofs [fb, l0_law_listing, e1, e2, hR, e3, hA2, hl']
      rw [set_appl _ (by simpa using hAl)]
    · rw [get_appl (ws := as.map .d ++ [.d (.t [.i u, mkL rs])]) (by simp [hAl])]; simp
    · refine get_appl ?_
      rw [List.getElem?_set_ne (Ne.symm hne)]; simp [hal]
    · rw [List.take_append_of_le_length (by simp; omega), List.take_set_of_le (Nat.le_refl _), List.take_set]
  · obtain ⟨e, d2, ⟨he, hk⟩, e2⟩ := (near M v c hM hv0 hv n hn (by omega) 2).go (j := j) (by omega) ha1
    rw [List.set_set] at e2
    simp at e2
    refine ⟨d2, .t [.i u, e], (G.set a (dl d2)).set A (as.map .d ++ [.d (.t [.i u, e])]), some k, some (.d (.i u)), x13, ⟨⟨u, _, rfl, hu0, hu, he.le (by omega)⟩, ?_⟩, ?_, ?_, ?_, ?_⟩
    · intro u' e' h
      simp at h
      obtain ⟨rfl, rfl⟩ := h
      exact ⟨fun h => absurd h huv, fun _ => lk_good hn (he.le (by omega)) hk⟩
    · have hA2 : (G.set a (dl d2))[A]? = some (as.map .d) := by
        rw [List.getElem?_set_ne hne]; exact hA
      simp -implicitDefEqProofs [fb, l0_law_listing, e1, e2, huv, hA2, hl']
    · simp [hAl]
    · rw [List.getElem?_set_ne (Ne.symm hne)]; simp [hal]
    · rw [List.take_set_of_le (Nat.le_refl _), List.take_set]
end J
set_option maxRecDepth 10000
namespace J
theorem listing_ass (M v c : Int) (hM : 1 ≤ M) (hv0 : 0 ≤ v) (hv : v < M) (n : Nat) (hn : 1 ≤ n) (hn3 : n ≤ 3) (j : Nat) (hj : 10 ≤ j) (a A : Nat) (haA : a < A) (S B x7 x11 x12 : Option W) : ∀ (ks : List W) (G : LH) (ds : List Int) (as : List D) (x9 x10 x13 : Option W), G[A]? = some (as.map .d) → G[a]? = some (dl ds) → as.length + ks.length ≤ 100 → (∀ x ∈ as, DrAs M v n x) →
    ∃ (ds' : List Int) (as' : List D) (G' : LH) (y9 y10 y13 : Option W), (∀ x ∈ as', DrAs M v n x) ∧ as'.length = as.length + ks.length ∧ forItems (fb (cx j) (.n 9) l0_law_listing) ks [some (.l a), some (.d (.i M)), some (.d (.i v)), some (.d (.i n)), S, some (.d (.i c)), B, x7, some (.l A), x9, x10, x11, x12, x13] G = some (.nxt, [some (.l a), some (.d (.i M)), some (.d (.i v)), some (.d (.i n)), S, some (.d (.i c)), B, x7, some (.l A), y9, y10, x11, x12, y13], G') ∧ G'[A]? = some (as'.map .d) ∧ G'[a]? = some (dl ds') ∧ G'.take A = (G.take A).set a (dl ds')
  | [], G, ds, as, x9, x10, x13, hA, ha, hl, h => ⟨ds, as, G, x9, x10, x13, h, by simp, rfl, hA, ha, by
      rw [set_self]
      rw [List.getElem?_take_of_lt haA]; exact ha⟩
  | k :: ks, G, ds, as, x9, x10, x13, hA, ha, hl, h => by
    simp only [List.length_cons] at hl
    obtain ⟨d1, asg, G1, y9, y10, y13, hd, e1, e2, e3, e4⟩ := listing_as M v c hM hv0 hv n hn hn3 j hj a A haA S B x7 x11 x12 k G ds as x9 x10 x13 hA ha (by omega)
    obtain ⟨d2, as2, G2, z9, z10, z13, h2, hl2, f1, f2, f3, f4⟩ := listing_ass M v c hM hv0 hv n hn hn3 j hj a A haA S B x7 x11 x12 ks G1 d1 (as ++ [asg]) y9 y10 y13 e2 e3 (by simp; omega) (by
      intro x hx
      rcases List.mem_append.1 hx with hx | hx
      · exact h x hx
      · simp at hx; subst hx; exact hd)
    refine ⟨d2, as2, G2, z9, z10, z13, h2, by simp at hl2 ⊢; omega, ?_, f2, f3, by rw [f4, e4, List.set_set]⟩
    simp only [forItems]
    rw [e1]
    exact f1
end J
set_option maxRecDepth 10000
namespace J
def DrBl (M v : Int) (n size : Nat) (b : D) : Prop := ∃ as j, b = .t [.t as, j] ∧ as.length ≤ 3 ∧ (∀ a ∈ as, DrAs M v n a) ∧ IsJ M 5 size j ∧ ∀ s e r, j = .t (.s s :: e :: r) → s ≠ "goto" → LkT v n 5 e
/-- a drawn jump, as the three branches give it -/
theorem listing_jump (M v c : Int) (hM : 1 ≤ M) (hv0 : 0 ≤ v) (hv : v < M) (n : Nat) (hn : 1 ≤ n) (hn3 : n ≤ 3) (size : Nat) (hs : 1 ≤ size) (j : Nat) (hj : 10 ≤ j) (a : Nat) (B x7 x8 x9 x10 x12 x13 : Option W) (pick : Int) (G : LH) (ds : List Int) (ha : G[a]? = some (dl ds)) :
    ∃ (ds' : List Int) (jp : D), IsJ M 5 size jp ∧ (∀ s e r, jp = .t (.s s :: e :: r) → s ≠ "goto" → LkT v n 5 e) ∧ exec (cx j) (.ife (.or (.cmp .eq (.var 11) (.c (.i 0))) (.cmp .eq (.var 4) (.c (.i 1)))) [.asg (.n 12) (.tup [.c (.s "end"), .call f_law_near [.var 0, .var 1, .var 2, .var 3, .c (.i 2), .var 5]])] [.ife (.cmp .eq (.var 11) (.c (.i 1))) [.asg (.n 12) (.tup [.c (.s "goto"), .call f_law_take [.var 0, .var 4]])] [.asg (.n 12) (.tup [.c (.s "test"), .call f_law_near [.var 0, .var 1, .var 2, .var 3, .c (.i 2), .var 5], .call f_law_take [.var 0, .var 4], .call f_law_take [.var 0, .var 4]])]]) [some (.l a), some (.d (.i M)), some (.d (.i v)), some (.d (.i n)), some (.d (.i size)), some (.d (.i c)), B, x7, x8, x9, x10, some (.d (.i pick)), x12, x13] G = some (.nxt, [some (.l a), some (.d (.i M)), some (.d (.i v)), some (.d (.i n)), some (.d (.i size)), some (.d (.i c)), B, x7, x8, x9, x10, some (.d (.i pick)), some (.d jp), x13], G.set a (dl ds')) := by
  have hnear := fun (G : LH) (ds : List Int) (ha : G[a]? = some (dl ds)) => (near M v c hM hv0 hv n hn (by omega) 2).go (j := j) (by omega) ha
  have htake := fun (G : LH) (ds : List Int) (ha : G[a]? = some (dl ds)) => (take (size : Int) (by omega)).go (j := j) (by omega) ha
  by_cases h0 : pick = 0 ∨ size = 1
  · obtain ⟨e, d1, ⟨he, hk⟩, e1⟩ := hnear G ds ha
    simp at e1
    refine ⟨d1, .t [.s "end", e], .inr (.inr ⟨e, rfl, he.le (by omega)⟩), ?_, ?_⟩
    · intro s e' r h _
      simp at h
      obtain ⟨_, rfl, _⟩ := h
      exact lk_good hn (he.le (by omega)) hk
    · rcases h0 with rfl | rfl
      · simp -implicitDefEqProofs [e1]
      · by_cases hp : pick = 0
        · simp -implicitDefEqProofs [e1, hp]
        · simp -implicitDefEqProofs [e1, hp]
  · have hp : ¬ pick = 0 := fun h => h0 (.inl h)
    have hz : ¬ (size : Int) = 1 := fun h => h0 (.inr (by omega))
    have hz' : ¬ size = 1 := fun h => h0 (.inr h)
    by_cases h1 : pick = 1
    · subst h1
      obtain ⟨r, d1, ⟨t, rfl, t0, t1⟩, e1⟩ := htake G ds ha
      refine ⟨d1, .t [.s "goto", .i t], .inl ⟨t, rfl, t0, t1⟩, ?_, ?_⟩
      · intro s e' r h hs'
        simp at h
        exact absurd h.1.symm hs'
      · simp -implicitDefEqProofs [e1, hz, hz']
    · obtain ⟨e, d1, ⟨he, hk⟩, e1⟩ := hnear G ds ha
      obtain ⟨r, d2, ⟨t, rfl, t0, t1⟩, e2⟩ := htake _ _ (dl_get d1 ha)
      rw [List.set_set] at e2
      obtain ⟨r, d3, ⟨u, rfl, u0, u1⟩, e3⟩ := htake _ _ (dl_get d2 ha)
      rw [List.set_set] at e3
      simp at e1
      refine ⟨d3, .t [.s "test", e, .i t, .i u], .inr (.inl ⟨e, t, u, rfl, he.le (by omega), t0, t1, u0, u1⟩), ?_, ?_⟩
      · intro s e' r h _
        simp at h
        obtain ⟨_, rfl, _⟩ := h
        exact lk_good hn (he.le (by omega)) hk
      · simp -implicitDefEqProofs [e1, e2, e3, hp, hz, hz', h1]
end J
set_option maxRecDepth 10000
namespace J
theorem listing_bl (M v c : Int) (hM : 1 ≤ M) (hv0 : 0 ≤ v) (hv : v < M) (n : Nat) (hn : 1 ≤ n) (hn3 : n ≤ 3) (size : Nat) (hs : 1 ≤ size) (j : Nat) (hj : 10 ≤ j) (a Bn : Nat) (haB : a < Bn) (k : W) (G : LH) (ds : List Int) (bs : List D) (x7 x8 x9 x10 x11 x12 x13 : Option W) (hB : G[Bn]? = some (bs.map .d)) (ha : G[a]? = some (dl ds)) (hl : bs.length ≤ 100) :
    ∃ (ds' : List Int) (bl : D) (G' : LH) (y8 y9 y10 y11 y12 y13 : Option W), DrBl M v n size bl ∧ fb (cx j) (.n 7) l1_law_listing k [some (.l a), some (.d (.i M)), some (.d (.i v)), some (.d (.i n)), some (.d (.i size)), some (.d (.i c)), some (.l Bn), x7, x8, x9, x10, x11, x12, x13] G = some (.nxt, [some (.l a), some (.d (.i M)), some (.d (.i v)), some (.d (.i n)), some (.d (.i size)), some (.d (.i c)), some (.l Bn), some k, y8, y9, y10, y11, y12, y13], G') ∧ G'[Bn]? = some ((bs ++ [bl]).map .d) ∧ G'[a]? = some (dl ds') ∧ G'.take Bn = (G.take Bn).set a (dl ds') := by
  have hal := (List.getElem?_eq_some_iff.1 ha).1
  have hBl := (List.getElem?_eq_some_iff.1 hB).1
  have hne : a ≠ Bn := by omega
  have hl' : bs.length < 16777216 := by omega
  obtain ⟨r1, d1, ⟨x, rfl, h0, h1⟩, e1⟩ := (take 4 (by omega)).go (j := j) (by omega) (H := G ++ [[]]) (get_appl ha)
  rw [set_appl _ hal] at e1
  obtain ⟨d2, as', G2, y9, y10, y13, has, hlen, e2, hA2, ha2, ht2⟩ := listing_ass M v c hM hv0 hv n hn hn3 j hj a G.length hal (some (.d (.i size))) (some (.l Bn)) (some k) x11 x12 (range 0 x) (G.set a (dl d1) ++ [[]]) d1 [] x9 x10 x13 (by rw [List.getElem?_append_right (by simp)]; simp) (get_appl (dl_get d1 ha)) (by simp [range]; omega) (by simp)
  have hR : inR x := inR_of (by omega) (by omega)
  have hlen3 : as'.length ≤ 3 := by simp [range] at hlen; omega
  have hlen4 : as'.length ≤ 16777216 := by omega
  rw [take_set_app, List.set_set] at ht2
  obtain ⟨K, rfl⟩ : ∃ K, G2 = G.set a (dl d2) ++ K := ⟨G2.drop G.length, by rw [← ht2]; exact (List.take_append_drop _ _).symm⟩
  obtain ⟨r3, d3, ⟨pick, rfl, p0, p1⟩, e3⟩ := (take 5 (by omega)).go (j := j) (by omega) ha2
  rw [set_appl _ (by simpa using hal), List.set_set] at e3
  obtain ⟨d4, jp, hj1, hj2, e4⟩ := listing_jump M v c hM hv0 hv n hn hn3 size hs j hj a (some (.l Bn)) (some k) (some (.l G.length)) y9 y10 x12 y13 pick (G.set a (dl d3) ++ K) d3 (get_appl (dl_get d3 ha))
  rw [set_appl _ (by simpa using hal), List.set_set] at e4
  have hA5 : (G.set a (dl d4) ++ K)[G.length]? = some (as'.map .d) := by
    rw [List.getElem?_append_right (by simp)] at hA2 ⊢
    simpa using hA2
  have hB5 : (G.set a (dl d4) ++ K)[Bn]? = some (bs.map .d) := get_appl (by rw [List.getElem?_set_ne hne]; exact hB)
  refine ⟨d4, .t [.t as', jp], (G.set a (dl d4) ++ K).set Bn (bs.map .d ++ [.d (.t [.t as', jp])]), some (.l G.length), y9, y10, some (.d (.i pick)), some (.d jp), y13, ⟨as', jp, rfl, hlen3, has, hj1, hj2⟩, ?_, ?_, ?_, ?_⟩
  · simp -implicitDefEqProofs [fb, l1_law_listing, -ex_ife, e1, hR, e2, e3, e4, hA5, hB5, hlen4, hl']
  · have hlt : Bn < (G.set a (dl d4) ++ K).length := by rw [List.length_append, List.length_set]; omega
    rw [List.getElem?_set_self hlt]; simp
  · rw [List.getElem?_set_ne (Ne.symm hne)]; exact get_appl (dl_get d4 ha)
  · rw [List.take_set_of_le (Nat.le_refl _), List.take_append_of_le_length (by simp; omega), List.take_set]
end J
set_option maxRecDepth 10000
namespace J
theorem listing_loop (M v c : Int) (hM : 1 ≤ M) (hv0 : 0 ≤ v) (hv : v < M) (n : Nat) (hn : 1 ≤ n) (hn3 : n ≤ 3) (size : Nat) (hs : 1 ≤ size) (j : Nat) (hj : 10 ≤ j) (a Bn : Nat) (haB : a < Bn) : ∀ (ks : List W) (G : LH) (ds : List Int) (bs : List D) (x7 x8 x9 x10 x11 x12 x13 : Option W), G[Bn]? = some (bs.map .d) → G[a]? = some (dl ds) → bs.length + ks.length ≤ 100 → (∀ b ∈ bs, DrBl M v n size b) →
    ∃ (ds' : List Int) (bs' : List D) (G' : LH) (y7 y8 y9 y10 y11 y12 y13 : Option W), (∀ b ∈ bs', DrBl M v n size b) ∧ bs'.length = bs.length + ks.length ∧ forItems (fb (cx j) (.n 7) l1_law_listing) ks [some (.l a), some (.d (.i M)), some (.d (.i v)), some (.d (.i n)), some (.d (.i size)), some (.d (.i c)), some (.l Bn), x7, x8, x9, x10, x11, x12, x13] G = some (.nxt, [some (.l a), some (.d (.i M)), some (.d (.i v)), some (.d (.i n)), some (.d (.i size)), some (.d (.i c)), some (.l Bn), y7, y8, y9, y10, y11, y12, y13], G') ∧ G'[Bn]? = some (bs'.map .d) ∧ G'[a]? = some (dl ds') ∧ G'.take Bn = (G.take Bn).set a (dl ds')
  | [], G, ds, bs, x7, x8, x9, x10, x11, x12, x13, hB, ha, hl, h => ⟨ds, bs, G, x7, x8, x9, x10, x11, x12, x13, h, by simp, rfl, hB, ha, by
      rw [set_self]
      rw [List.getElem?_take_of_lt haB]; exact ha⟩
  | k :: ks, G, ds, bs, x7, x8, x9, x10, x11, x12, x13, hB, ha, hl, h => by
    simp only [List.length_cons] at hl
    obtain ⟨d1, bl, G1, y8, y9, y10, y11, y12, y13, hd, e1, e2, e3, e4⟩ := listing_bl M v c hM hv0 hv n hn hn3 size hs j hj a Bn haB k G ds bs x7 x8 x9 x10 x11 x12 x13 hB ha (by omega)
    obtain ⟨d2, bs2, G2, z7, z8, z9, z10, z11, z12, z13, h2, hl2, f1, f2, f3, f4⟩ := listing_loop M v c hM hv0 hv n hn hn3 size hs j hj a Bn haB ks G1 d1 (bs ++ [bl]) (some k) y8 y9 y10 y11 y12 y13 e2 e3 (by simp; omega) (by
      intro x hx
      rcases List.mem_append.1 hx with hx | hx
      · exact h x hx
      · simp at hx; subst hx; exact hd)
    refine ⟨d2, bs2, G2, z7, z8, z9, z10, z11, z12, z13, h2, by simp at hl2 ⊢; omega, ?_, f2, f3, by rw [f4, e4, List.set_set]⟩
    simp only [forItems]
    rw [e1]
    exact f1
def DrPr (M v : Int) (n : Nat) (p : D) : Prop := ∃ bs, p = .t [.i M, .t bs] ∧ 1 ≤ bs.length ∧ bs.length ≤ 4 ∧ ∀ b ∈ bs, DrBl M v n bs.length b
theorem listing (M v c : Int) (hM : 1 ≤ M) (hv0 : 0 ≤ v) (hv : v < M) (n : Nat) (hn : 1 ≤ n) (hn3 : n ≤ 3) (size : Nat) (hs : 1 ≤ size) (hs4 : size ≤ 4) : Pd 11 f_law_listing [.d (.i M), .d (.i v), .d (.i n), .d (.i size), .d (.i c)] (DrPr M v n) := by
  intro j hj a H ds ha
  obtain ⟨j, rfl⟩ : ∃ i, j = i + 1 := ⟨j - 1, by omega⟩
  have hal := (List.getElem?_eq_some_iff.1 ha).1
  obtain ⟨d1, bs, G, y7, y8, y9, y10, y11, y12, y13, hb, hlen, e1, e2, e3, e4⟩ := listing_loop M v c hM hv0 hv n hn hn3 size hs j (by omega) a H.length hal (range 0 size) (H ++ [[]]) ds [] none none none none none none none (by simp) (get_appl ha) (by simp [range]; omega) (by simp)
  have hR : inR (size : Int) := inR_of (by omega) (by omega)
  have hlen' : bs.length = size := by rw [hlen]; simp [range]
  have hl4 : bs.length ≤ 16777216 := by omega
  have e4' : G.take H.length = H.set a (dl d1) := by rw [e4]; simp
  refine ⟨.t [.i M, .t bs], d1, ⟨bs, rfl, by omega, by omega, by rw [hlen']; exact hb⟩, pl (d := b_law_listing) rfl rfl ?_⟩
  simp -implicitDefEqProofs [b_law_listing, hR, e1, e2, hl4, e4']
end J
set_option maxRecDepth 10000
namespace J
theorem DrBl.bl {M v : Int} {n size : Nat} {b : D} (h : DrBl M v n size b) : IsBl M 5 size b := by
  obtain ⟨as, j, rfl, hl, ha, hj, _⟩ := h
  exact ⟨as, j, rfl, by omega, fun a h => (ha a h).1, hj⟩
theorem DrBl.good {M v : Int} {n size : Nat} {b : D} (h : DrBl M v n size b) : GoodBl v n 5 b := by
  obtain ⟨as, j, rfl, hl, ha, hj, hg⟩ := h
  intro as' j' e
  simp at e
  obtain ⟨rfl, rfl⟩ := e
  exact ⟨fun a h => (ha a h).2, hg⟩
theorem DrPr.pr {M v : Int} {n : Nat} {p : D} (hM : 0 ≤ M) (h : DrPr M v n p) : IsPr M 5 p := by
  obtain ⟨bs, rfl, h1, h4, hb⟩ := h
  exact ⟨hM, bs, rfl, h1, h4, fun b h => (hb b h).bl⟩
theorem DrPr.small {M v : Int} {n : Nat} {p : D} (h : DrPr M v n p) : Small p := by
  obtain ⟨bs, rfl, h1, h4, hb⟩ := h
  intro M' bs' e b hbs as j e2
  simp at e
  obtain ⟨rfl, rfl⟩ := e
  obtain ⟨as', j', rfl, hl, _⟩ := hb b hbs
  simp at e2
  obtain ⟨rfl, rfl⟩ := e2
  omega
theorem DrPr.can {M v : Int} {n : Nat} {p : D} (hM : 0 ≤ M) (hn : 1 ≤ n) (hn3 : n ≤ 3) (h : DrPr M v n p) : Pu 13 f_law_can_split [.d p, .d (.i v), .d (.i n)] (.b true) := by
  obtain ⟨b, ⟨_, h2⟩, _, c2⟩ := J.can M v n hn (by omega) 5 p (h.pr hM)
  obtain ⟨bs, rfl, h1, h4, hb⟩ := h
  have : b = true := h2 (fun bs' e bl hbl => by
    simp at e
    subst e
    exact (hb bl hbl).good)
  subst this
  exact c2
end J
set_option maxRecDepth 10000
namespace J
theorem IsAs.le {M : Int} {d d' : Nat} {a : D} (h : IsAs M d a) (hd : d ≤ d') : IsAs M d' a := by
  obtain ⟨u, e, rfl, h0, h1, he⟩ := h
  exact ⟨u, e, rfl, h0, h1, he.le hd⟩
theorem IsJ.le {M : Int} {d d' size : Nat} {a : D} (h : IsJ M d size a) (hd : d ≤ d') : IsJ M d' size a := by
  rcases h with ⟨t, rfl, h⟩ | ⟨e, t, u, rfl, he, h⟩ | ⟨e, rfl, he⟩
  · exact .inl ⟨t, rfl, h⟩
  · exact .inr (.inl ⟨e, t, u, rfl, he.le hd, h⟩)
  · exact .inr (.inr ⟨e, rfl, he.le hd⟩)
def spP (v n : Int) : List D := [.t [.s "of", .i v], .t [.s "length", .t [.s "of", .i v]], .t [.s "item", .t [.s "know", .i n], .t [.s "of", .i v]], .t [.s "item", .t [.s "know", .i (-1)], .t [.s "of", .i v]], .t [.s "item", .t [.s "of", .i v], .t [.s "of", .i v]], .t [.s "rest", .t [.s "of", .i v]], .t [.s "item", .t [.s "know", .t [.i 0]], .t [.s "of", .i v]], .t [.s "first", .t [.s "of", .i v]]]
theorem spP_ex {M v n : Int} (hv0 : 0 ≤ v) (hv : v < M) : ∀ e ∈ spP v n, Ex M 1 e := by
  have ho : ∀ n, Ex M n (.t [.s "of", .i v]) := fun n => .of _ _ hv0 hv
  have hk : ∀ n k, Ex M n (.t [.s "know", .i k]) := fun n k => .know _ _ (.i _ _)
  have hk2 : ∀ n, Ex M n (.t [.s "know", .t [.i 0]]) := fun n => .know _ _ (.t _ _ (by simp) (by simp; exact .i _ _))
  intro e he
  simp [spP] at he
  rcases he with rfl | rfl | rfl | rfl | rfl | rfl | rfl | rfl
  · exact ho _
  · exact .op _ _ _ (by simp [ars]) (by simp; exact ho _)
  · exact .op _ _ _ (by simp [ars]) (by simp; exact ⟨hk _ _, ho _⟩)
  · exact .op _ _ _ (by simp [ars]) (by simp; exact ⟨hk _ _, ho _⟩)
  · exact .op _ _ _ (by simp [ars]) (by simp; exact ho _)
  · exact .op _ _ _ (by simp [ars]) (by simp; exact ho _)
  · exact .op _ _ _ (by simp [ars]) (by simp; exact ⟨hk2 _, ho _⟩)
  · exact .op _ _ _ (by simp [ars]) (by simp; exact ho _)
/-- a program with one block exchanged -/
theorem swap_pr {M : Int} {d : Nat} {bs : List D} {k : Nat} {as : List D} {jp : D} (hM : 0 ≤ M) (hk : k < bs.length) (h4 : bs.length ≤ 4) (hbs : ∀ b ∈ bs, IsBl M d bs.length b) (has : as.length ≤ 8) (ha : ∀ a ∈ as, IsAs M d a) (hj : IsJ M d bs.length jp) : IsPr M d (.t [.i M, .t (bs.take k ++ [.t [.t as, jp]] ++ bs.drop (k + 1))]) := by
  have hl : (bs.take k ++ [D.t [.t as, jp]] ++ bs.drop (k + 1)).length = bs.length := by simp; omega
  refine ⟨hM, _, rfl, by rw [hl]; omega, by rw [hl]; exact h4, fun b hb => ?_⟩
  rw [hl]
  simp at hb
  rcases hb with hb | rfl | hb
  · exact hbs b (List.mem_of_mem_take hb)
  · exact ⟨as, jp, rfl, by omega, ha, hj⟩
  · exact hbs b (List.mem_of_mem_drop hb)
theorem swap_small {M : D} {bs : List D} {k : Nat} {as : List D} {jp : D} (hs : ∀ b ∈ bs, ∀ as j, b = .t [.t as, j] → as.length ≤ 8) (has : as.length ≤ 8) : Small (.t [M, .t (bs.take k ++ [.t [.t as, jp]] ++ bs.drop (k + 1))]) := by
  intro M' bs' e b hb as' j' e2
  simp at e
  obtain ⟨rfl, rfl⟩ := e
  simp at hb
  rcases hb with hb | rfl | hb
  · exact hs b (List.mem_of_mem_take hb) as' j' e2
  · simp at e2; obtain ⟨rfl, rfl⟩ := e2; exact has
  · exact hs b (List.mem_of_mem_drop hb) as' j' e2
end J
set_option maxRecDepth 10000
namespace J
theorem Pd.wp {k f : Nat} {args : List W} {Q : D → Prop} (p : Pd k f args Q) {j : Nat} (hj : k ≤ j) {H : LH} {a : Nat} {ds : List Int} {K : LH} (ha : a < H.length) {R : Kt (W × LH)} (h : ∀ r ds', Q r → R.run (.d r, hp H a ds' K)) : @Wp _ (call JP j f (.l a :: args) (hp H a ds K)) R := by
  obtain ⟨r, ds', q, e⟩ := p j hj a (hp H a ds K) ds (hp_a ha)
  rw [hp_sa ha] at e
  exact ⟨_, e, h r ds' q⟩
theorem Pd.of {k f : Nat} {args : List W} {Q : D → Prop} (d : Def) (hF : JP.F f = some d) (hl : args.length + 1 = d.np) (h : ∀ j, k ≤ j → ∀ a H (ds : List Int), a < H.length → @Wp _ (execs (cx j) d.body (some (.l a) :: args.map some ++ List.replicate (d.ns - d.np) none) (hp H a ds [])) ⟨retQ H.length ⟨fun p => ∃ r ds', Q r ∧ p = (.d r, H.set a (dl ds'))⟩⟩) : Pd (k + 1) f args Q := by
  intro j hj a H ds ha
  obtain ⟨j, rfl⟩ : ∃ i, j = i + 1 := ⟨j - 1, by omega⟩
  have hal := (List.getElem?_eq_some_iff.1 ha).1
  have h1 := h j (by omega) a H ds hal
  rw [← hp_self ha] at h1
  rw [call_def hF (by simpa using hl)]
  rw [← Wp_ret] at h1
  obtain ⟨p, e, r, ds', q, rfl⟩ := h1
  exact ⟨r, ds', q, e⟩
theorem rep_one {α : Type} (x : α) : ∀ k, rep [x] k = List.replicate k x
  | 0 => rfl
  | k + 1 => by rw [rep, rep_one x k]; rfl
theorem cutL_take {α : Type} (xs : List α) (k : Nat) (hk : k ≤ xs.length) : cutL xs none (some (k : Int)) = xs.take k := by
  unfold cutL cutAt
  have : ¬ ((k : Int) < 0) := by omega
  simp [Nat.min_eq_left hk, this]
theorem cutL_drop {α : Type} (xs : List α) (k : Nat) (hk : k ≤ xs.length) : cutL xs (some (k : Int)) none = xs.drop k := by
  unfold cutL cutAt
  have : ¬ ((k : Int) < 0) := by omega
  simp [Nat.min_eq_left hk, this]
def stLists (v : Int) (n : Nat) (e : D) : List D := [mkL (List.replicate (n + 1) (.t [.s "know", .i 0])), mkL (List.replicate (n - 1) (.t [.s "know", .i 0])), mkL (List.replicate n e), .t [.s "join", .t [.s "know", .i 1], .t [.s "of", .i v]], .t [.s "more", .t [.s "know", .i 1], .t [.s "of", .i v]], .t [.s "know", .t (List.replicate n (.i 1))]]
/-- numbers that are small -/
theorem lw (parts : List D) (hp : parts.length ≤ 4) (j : Nat) (hj : 1 ≤ j) (H : LH) (b : Nat) (hb : H[b]? = some (parts.map .d)) (R : Kt (W × LH)) (h : R.run (.d (mkL parts), H)) : @Wp _ (call JP j f_law_list [.l b] H) R := by
  rw [list_ok parts hp j hj H b hb]; simpa using h
theorem IsBl.up6 {M : Int} {size : Nat} {b : D} (h : IsBl M 5 size b) : IsBl M 6 size b := by
  obtain ⟨as, j, rfl, hl, ha, hj⟩ := h
  exact ⟨as, j, rfl, hl, fun a h => (ha a h).le (by omega), hj.le (by omega)⟩
def SpQ (M : Int) (p : D) : Prop := IsPr M 6 p ∧ Small p
theorem spoilt (M v : Int) (hv0 : 0 ≤ v) (hv : v < M) (n : Nat) (hn : 1 ≤ n) (hn3 : n ≤ 3) (p : D) (hp : DrPr M v n p) : Pd 11 f_law_spoilt [.d p, .d (.i v), .d (.i n)] (SpQ M) := by
  obtain ⟨bs, rfl, h1, h4, hb⟩ := hp
  refine Pd.of b_law_spoilt rfl rfl fun j hj a H ds ha => ?_
  have hal := ha
  simp -implicitDefEqProofs [b_law_spoilt]
  refine (take 8 (by omega)).wp (by omega) ha ?_
  rintro _ d1 ⟨x1, rfl, hx0, hx8⟩
  have hx : ∃ e ∈ spP v n, [W.d (D.t [D.s "of", D.i v]), W.d (D.t [D.s "length", D.t [D.s "of", D.i v]]), W.d (D.t [D.s "item", D.t [D.s "know", D.i n], D.t [D.s "of", D.i v]]), W.d (D.t [D.s "item", D.t [D.s "know", D.i (-1)], D.t [D.s "of", D.i v]]), W.d (D.t [D.s "item", D.t [D.s "of", D.i v], D.t [D.s "of", D.i v]]), W.d (D.t [D.s "rest", D.t [D.s "of", D.i v]]), W.d (D.t [D.s "item", D.t [D.s "know", D.t [D.i 0]], D.t [D.s "of", D.i v]]), W.d (D.t [D.s "first", D.t [D.s "of", D.i v]])][x1.toNat]? = some (.d e) := by
    have : x1 = 0 ∨ x1 = 1 ∨ x1 = 2 ∨ x1 = 3 ∨ x1 = 4 ∨ x1 = 5 ∨ x1 = 6 ∨ x1 = 7 := by omega
    rcases this with rfl | rfl | rfl | rfl | rfl | rfl | rfl | rfl <;> simp [spP]
  obtain ⟨e, he, hx⟩ := hx
  have hixN : ixN 8 x1 = some x1.toNat := by unfold ixN; rw [if_pos hx0, if_pos (by omega)]
  have hex := spP_ex (n := n) hv0 hv e he
  simp -implicitDefEqProofs [hixN, hx]
  clear hx
  generalize [W.d (D.t [D.s "of", D.i v]), W.d (D.t [D.s "length", D.t [D.s "of", D.i v]]), W.d (D.t [D.s "item", D.t [D.s "know", D.i n], D.t [D.s "of", D.i v]]), W.d (D.t [D.s "item", D.t [D.s "know", D.i (-1)], D.t [D.s "of", D.i v]]), W.d (D.t [D.s "item", D.t [D.s "of", D.i v], D.t [D.s "of", D.i v]]), W.d (D.t [D.s "rest", D.t [D.s "of", D.i v]]), W.d (D.t [D.s "item", D.t [D.s "know", D.t [D.i 0]], D.t [D.s "of", D.i v]]), W.d (D.t [D.s "first", D.t [D.s "of", D.i v]])] = PL
  refine (take bs.length (by omega)).wp (by omega) ha ?_
  rintro _ d2 ⟨x2, rfl, hy0, hy1⟩
  obtain ⟨k, rfl⟩ : ∃ k : Nat, x2 = k := ⟨x2.toNat, by omega⟩
  have hk : k < bs.length := by omega
  obtain ⟨as, jp, hbk, has, haa, hjp, hgg⟩ := hb bs[k] (List.getElem_mem hk)
  have hbs : ∀ b ∈ bs, IsBl M 6 bs.length b := fun b hb' => (hb b hb').bl.up6
  have hsm : ∀ b ∈ bs, ∀ as j, b = .t [.t as, j] → as.length ≤ 7 := by
    intro b hb' as j e
    obtain ⟨as', j', rfl, hl, _⟩ := hb b hb'
    simp at e; obtain ⟨rfl, rfl⟩ := e
    omega
  simp -implicitDefEqProofs [ixN_nat _ _ hk, hk, hbk]
  refine (take 4 (by omega)).wp (by omega) ha ?_
  rintro _ d3 ⟨x3, rfl, hz0, hz1⟩
  have ct : cutL bs none (some (k : Int)) = bs.take k := cutL_take _ _ (by omega)
  have cd : cutL bs (some ((k : Int) + 1)) none = bs.drop (k + 1) := by
    have := cutL_drop bs (k + 1) (by omega)
    simpa using this
  have l1 : (bs.take k).length = k := by simp; omega
  have l2 : (bs.drop (k + 1)).length = bs.length - (k + 1) := by simp
  have l3 : k ≤ 16777215 := by omega
  have l4 : k + 1 + (bs.length - (k + 1)) ≤ 16777216 := by omega
  have key : ∀ as' jp', as'.length ≤ 8 → (∀ a ∈ as', IsAs M 6 a) → IsJ M 6 bs.length jp' → SpQ M (.t [.i M, .t (bs.take k ++ [.t [.t as', jp']] ++ bs.drop (k + 1))]) := fun as' jp' h1' h2' h3' =>
    ⟨swap_pr (by omega) hk h4 hbs h1' h2' h3', swap_small (fun b hb' as j e => by have := hsm b hb' as j e; omega) h1'⟩
  have e6 := hex.le (show 1 ≤ 6 by omega)
  have e2 := hex.le (show 1 ≤ 2 by omega)
  have fin : ∀ ds' as' jp' r, as'.length ≤ 8 → (∀ a ∈ as', IsAs M 6 a) → IsJ M 6 bs.length jp' → r = D.t [D.i M, D.t (List.take k bs ++ D.t [D.t as', jp'] :: List.drop (k + 1) bs)] → ∃ r', SpQ M r' ∧ r = r' ∧ ∃ x, List.set H a (dl ds') = List.set H a (dl x) := by
    rintro ds' as' jp' r h1 h2 h3 rfl
    refine ⟨_, ?_, rfl, ds', rfl⟩
    have := key as' jp' h1 h2 h3
    simpa using this
  have haa6 : ∀ a ∈ as, IsAs M 6 a := fun a ha => (haa a ha).1.le (by omega)
  have hjp6 := hjp.le (show 5 ≤ 6 by omega)
  have hkn : ∀ d x, Ex M d (.t [.s "know", .i x]) := fun d x => .know _ _ (.i _ _)
  have hown : ∀ d, Ex M d (.t [.s "of", .i v]) := fun d => .of _ _ hv0 hv
  by_cases hz : x3 = 0
  · subst hz
    have b1 : n ≤ 16777215 := by omega
    have b2 : n - 1 ≤ 16777216 := by omega
    have c1 : (-16777216 : Int) ≤ (n : Int) + 1 := by omega
    have c2 : (n : Int) + 1 ≤ 16777216 := by omega
    have c3 : (-16777216 : Int) ≤ (n : Int) - 1 := by omega
    have c4 : (n : Int) - 1 ≤ 16777216 := by omega
    have c5 : (-16777216 : Int) ≤ (n : Int) := by omega
    have c6 : (n : Int) ≤ 16777216 := by omega
    have c7 : (n : Int) ≤ 1000 := by omega
    have c8 : (1 : Int) ≤ n := by omega
    have c9 : n ≤ 16777216 := by omega
    have ca : (n : Int) ≤ 16777217 := by omega
    have cc : (n : Int) ≤ 16777215 := by omega
    have t2 : ((n : Int) - 1).toNat = n - 1 := by omega
    have ce : as.length + 1 ≤ 16777216 := by omega
    have cf : n ≤ 1000 := by omega
    simp -implicitDefEqProofs [rep_one, b1, c1, c2, cc]
    refine lw (List.replicate (n + 1) (.t [.s "know", .i 0])) (by simp; omega) j (by omega) _ _ (by simp) _ ?_
    simp -implicitDefEqProofs [rep_one, b1, c1, c2, b2, c3, c4, t2, ca]
    refine lw (List.replicate (n - 1) (.t [.s "know", .i 0])) (by simp; omega) j (by omega) _ _ (by simp) _ ?_
    simp -implicitDefEqProofs [rep_one, b1, c1, c2, b2, c3, c4, t2, c5, c6, c7, c8, c9, ca]
    refine lw (List.replicate n e) (by simp; omega) j (by omega) _ _ (by simp) _ ?_
    simp -implicitDefEqProofs [rep_one, b1, c1, c2, b2, c3, c4, t2, c5, c6, c7, c8, c9, ca, cf, hn]
    refine (take 6 (by omega)).wp (by omega) ha ?_
    rintro _ d4 ⟨x4, rfl, hw0, hw1⟩
    have hst : ∃ w, Ex M 6 w ∧ (stLists v n e)[x4.toNat]? = some w := by
      have : x4 = 0 ∨ x4 = 1 ∨ x4 = 2 ∨ x4 = 3 ∨ x4 = 4 ∨ x4 = 5 := by omega
      rcases this with rfl | rfl | rfl | rfl | rfl | rfl
      · exact ⟨_, (mkL_ex (d := 1) _ (by simp; exact hkn _ _)).le (by simp; omega), rfl⟩
      · exact ⟨_, (mkL_ex (d := 1) _ (by simp; exact fun _ => hkn _ _)).le (by simp; omega), rfl⟩
      · exact ⟨_, (mkL_ex (d := 2) _ (by simp; exact fun _ => e2)).le (by simp; omega), rfl⟩
      · exact ⟨_, .op _ _ _ (by simp [ars]) (by simp; exact ⟨hkn _ _, hown _⟩), rfl⟩
      · exact ⟨_, .op _ _ _ (by simp [ars]) (by simp; exact ⟨hkn _ _, hown _⟩), rfl⟩
      · exact ⟨_, .know _ _ (.t _ _ (by simp; omega) (by simp; exact fun _ => .i _ _)), rfl⟩
    obtain ⟨w, hw, hst⟩ := hst
    have hst' : ((stLists v n e).map W.d)[x4.toNat]? = some (.d w) := by simp [hst]
    have hi6 : ixN 6 x4 = some x4.toNat := by unfold ixN; rw [if_pos hw0, if_pos (by omega)]
    simp only [stLists, List.map_cons, List.map_nil] at hst'
    simp -implicitDefEqProofs [hi6, hst', ct, cd, l1, l2, l3, l4, ce]
    refine fin d4 _ _ _ ?_ ?_ hjp6 rfl
    · simp; omega
    · intro y hy
      rcases List.mem_append.1 hy with hy | hy
      · exact haa6 y hy
      · simp at hy; subst hy; exact ⟨v, w, rfl, hv0, hv, hw⟩
  · by_cases hz' : x3 = 1
    · subst hz'
      have hM : 0 < M := by omega
      have c1 : 1 + as.length ≤ 16777216 := by omega
      simp -implicitDefEqProofs [ct, cd, l1, l2, l3, l4, hM, c1]
      refine fin d3 _ _ _ ?_ ?_ hjp6 rfl
      · simp; omega
      · intro y hy
        rcases List.mem_cons.1 hy with rfl | hy
        · exact ⟨_, _, rfl, Int.emod_nonneg _ (by omega), Int.emod_lt_of_pos _ hM, .op _ _ _ (by simp [ars]) (by simp; exact ⟨hex.le (by omega), hkn _ _⟩)⟩
        · exact haa6 y hy
    · rcases hjp with ⟨t, rfl, ht⟩ | ⟨e', t, u, rfl, he', ht⟩ | ⟨e', rfl, he'⟩
      · simp -implicitDefEqProofs [hz, hz', ct, cd, l1, l2, l3, l4]
        exact fin d3 _ _ _ (by omega) haa6 (.inr (.inr ⟨_, rfl, .op _ _ _ (by simp [ars]) (by simp; exact ⟨hkn _ _, hex.le (by omega)⟩)⟩)) rfl
      · simp -implicitDefEqProofs [hz, hz', ct, cd, l1, l2, l3, l4]
        exact fin d3 _ _ _ (by omega) haa6 (.inr (.inl ⟨_, t, u, rfl, .op _ _ _ (by simp [ars]) (by simp; exact ⟨he', hex.le (by omega)⟩), ht⟩)) rfl
      · simp -implicitDefEqProofs [hz, hz', ct, cd, l1, l2, l3, l4]
        exact fin d3 _ _ _ (by omega) haa6 (.inr (.inr ⟨_, rfl, .op _ _ _ (by simp [ars]) (by simp; exact ⟨he', hex.le (by omega)⟩)⟩)) rfl
end J
set_option maxRecDepth 10000
namespace J
theorem wp_eq {γ : Type} {r : Option γ} {a : γ} (e : r = some a) {Q : Kt γ} (h : Q.run a) : @Wp γ r Q := ⟨a, e, h⟩
theorem Pu.wp {k f : Nat} {ws : List W} {r : D} (p : Pu k f ws r) {j : Nat} (hj : k ≤ j) {h : LH} {R : Kt (W × LH)} (q : R.run (.d r, h)) : @Wp _ (call JP j f ws h) R := ⟨_, p j hj h, q⟩
theorem closed_wp {k f : Nat} {xs : List D} {r : D} (e : call JP k f (xs.map .d) [] = some (.d r, [])) {h : LH} {R : Kt (W × LH)} (q : R.run (.d r, h)) : @Wp _ (call JP k f (xs.map .d) h) R := ⟨_, closed e h, q⟩
theorem range_14 : range 1 4 = [.d (.i 1), .d (.i 2), .d (.i 3)] := rfl
theorem with_ok (xs : List D) (k : Nat) (hk : k < xs.length) (hx : xs.length ≤ 100) (y : D) : Pu 1 f_law_with [.d (.t xs), .d (.i k), .d y] (.t (xs.take k ++ [y] ++ xs.drop (k + 1))) := by
  have c1 : cutL xs none (some (k : Int)) = xs.take k := cutL_take _ _ (by omega)
  have c2 : cutL xs (some ((k : Int) + 1)) none = xs.drop (k + 1) := by
    have := cutL_drop xs (k + 1) (by omega)
    simpa using this
  refine pu (d := b_law_with) rfl rfl fun j hj h => ?_
  have l1 : (xs.take k).length = k := by simp; omega
  have l2 : (xs.drop (k + 1)).length = xs.length - (k + 1) := by simp
  have l3 : k ≤ 16777216 := by omega
  have l4 : k + 1 ≤ 16777216 := by omega
  have l5 : k ≤ 16777215 := by omega
  have l6 : xs.length - (k + 1) ≤ 16777216 := by omega
  have l7 : k + 1 + (xs.length - (k + 1)) ≤ 16777216 := by omega
  simp -implicitDefEqProofs [b_law_with, c1, c2, l1, l2, l3, l4, l5, l6, l7]
theorem split_store_ok (xs its : List D) (k n : Nat) (hk : k < xs.length) (hx : xs.length ≤ 100) (hg : xs[k]? = some (.t its)) (hi : its.length ≤ 100) (hn : 1 ≤ n) (hn3 : n ≤ 3) : Pu 1 f_split_store [.d (.i k), .d (.i n), .d (.t xs)] (.t (xs ++ its ++ List.replicate n (.i 0))) := by
  refine pu (d := b_split_store) rfl rfl fun j hj h => ?_
  have c7 : (n : Int) ≤ 1000 := by omega
  have c8 : (1 : Int) ≤ n := by omega
  have c9 : n ≤ 1000 := by omega
  have l1 : xs.length + its.length ≤ 16777216 := by omega
  have l2 : xs.length + (its.length + n) ≤ 16777216 := by omega
  have l3 : xs.length + its.length + n ≤ 16777216 := by omega
  have hg' : xs[k] = .t its := by
    rw [List.getElem?_eq_getElem hk] at hg; simpa using hg
  simp -implicitDefEqProofs [b_split_store, ixN_nat _ _ hk, hk, hg', c7, c8, c9, l1, l2, l3, rep_one, hn]
end J
set_option maxRecDepth 100000
namespace J
def own0 : D := .t [.s "of", .i 0]
def turned0 : D := .t [.t [.i 0, .t [.s "join", .t [.s "item", .t [.s "know", .i 1], own0], .t [.s "join", .t [.s "first", own0], .t [.s "know", .t []]]]]]
def prog0 : D := .t [.i 2, .t [.t [turned0, .t [.s "test", .t [.s "of", .i 1], .i 1, .i 0]], .t [.t [], .t [.s "end", .t [.s "item", .t [.s "know", .i 1], own0]]]]]
def due0 : D := .t [.i 6, .t [.t [.t [.t [.i 4, .t [.s "of", .i 3]], .t [.i 5, .t [.s "of", .i 2]], .t [.i 2, .t [.s "of", .i 4]], .t [.i 3, .t [.s "of", .i 5]]], .t [.s "test", .t [.s "of", .i 1], .i 1, .i 0]], .t [.t [], .t [.s "end", .t [.s "of", .i 3]]]]]
theorem kx1 : ∀ h, call JP 80 f_split [.d prog0, .d (.i 0), .d (.i 2)] h = some (.d due0, h) := closedB (xs := [prog0, .i 0, .i 2]) due0 (by decide +kernel)
theorem kx2 : ∀ h, call JP 80 f_can_split [.d prog0, .d (.i 0), .d (.i 1)] h = some (.d (.b false), h) := closedB (xs := [prog0, .i 0, .i 1]) (.b false) (by decide +kernel)
theorem kx3 : ∀ h, call JP 80 f_can_split [.d prog0, .d (.i 1), .d (.i 1)] h = some (.d (.b false), h) := closedB (xs := [prog0, .i 1, .i 1]) (.b false) (by decide +kernel)
theorem kx4 : ∀ h, call JP 80 f_split_store [.d (.i 0), .d (.i 2), .d (.t [.t [.i 7, .i 8], .i 1])] h = some (.d (.t [.t [.i 7, .i 8], .i 1, .i 7, .i 8, .i 0, .i 0]), h) := closedB (xs := [.i 0, .i 2, .t [.t [.i 7, .i 8], .i 1]]) _ (by decide +kernel)
theorem kx5 : ∀ h, call JP 80 f_run [.d due0, .d (.t [.t [.i 7, .i 8], .i 1, .i 7, .i 8, .i 0, .i 0]), .d (.i 9)] h = some (.d (.t [.s "ended", .i 2, .i 7]), h) := closedB (xs := [due0, .t [.t [.i 7, .i 8], .i 1, .i 7, .i 8, .i 0, .i 0], .i 9]) _ (by decide +kernel)
theorem kx6 : ∀ h, call JP 80 f_can_split [.d (.t [.i 1, .t [.t [.t [], .t [.s "end", own0]]]]), .d (.i 0), .d (.i 1)] h = some (.d (.b false), h) := closedB (xs := [.t [.i 1, .t [.t [.t [], .t [.s "end", own0]]]], .i 0, .i 1]) (.b false) (by decide +kernel)
theorem kx7 : ∀ h, call JP 80 f_law_same [.d due0, .d due0] h = some (.d (.b true), h) := closedB (xs := [due0, due0]) (.b true) (by decide +kernel)
theorem kx8 : ∀ h, call JP 80 f_law_same [.d (.b false), .d (.b false)] h = some (.d (.b true), h) := closedB (xs := [.b false, .b false]) (.b true) (by decide +kernel)
theorem kx9 : ∀ h, call JP 80 f_law_same [.d (.t [.s "ended", .i 2, .i 7]), .d (.t [.s "ended", .i 2, .i 7])] h = some (.d (.b true), h) := closedB (xs := [.t [.s "ended", .i 2, .i 7], .t [.s "ended", .i 2, .i 7]]) (.b true) (by decide +kernel)
end J
set_option maxRecDepth 10000
namespace J
theorem Pl.isInt {n : Nat} {x : D} (h : Pl n x) : True := trivial
set_option maxHeartbeats 4000000 in
theorem law78 (ns : List Int) (hns : ns.length ≤ 63) : ∃ h', call JP 81 f_law_v3 [.d (.fl (ns.map .i))] [] = some (.d (.b true), h') := by
  have main : @Wp _ (call JP 81 f_law_v3 [.d (.fl (ns.map .i))] []) ⟨fun p => p.1 = .d (.b true)⟩ := by
    rw [call_def (d := b_law_v3) rfl rfl, Wp_ret]
    obtain ⟨H, a, ds, ha, e0⟩ : ∃ H a ds, a < H.length ∧ call JP 80 f_law_draws [.d (.fl (ns.map .i)), .d (.i 320)] [] = some (.l a, hp H a ds []) := by
      obtain ⟨ds, e⟩ := draws ns (by omega) 80 (by omega) []
      exact ⟨[[]], 0, ds, by simp, by rw [e]; rfl⟩
    obtain ⟨c, hc⟩ := cell ns (by omega)
    simp -implicitDefEqProofs [b_law_v3, e0, hc.go (j := 80) (by omega)]
    refine (take 2 (by omega)).wp (by omega) ha ?_
    rintro _ d1 ⟨x1, rfl, hx0, hx1⟩
    obtain ⟨M, hM⟩ : ∃ M, M = 2 + x1 := ⟨_, rfl⟩
    simp -implicitDefEqProofs [← hM]
    refine (take M (by omega)).wp (by omega) ha ?_
    rintro _ d2 ⟨v, rfl, hv0, hv⟩
    obtain ⟨vn, rfl⟩ : ∃ k : Nat, v = k := ⟨v.toNat, by omega⟩
    simp -implicitDefEqProofs
    refine (take 3 (by omega)).wp (by omega) ha ?_
    rintro _ d3 ⟨x3, rfl, hy0, hy1⟩
    obtain ⟨n, hn⟩ : ∃ n : Nat, 1 + x3 = n := ⟨(1 + x3).toNat, by omega⟩
    simp -implicitDefEqProofs [hn]
    refine (take 4 (by omega)).wp (by omega) ha ?_
    rintro _ d4 ⟨x4, rfl, hz0, hz1⟩
    obtain ⟨size, hs⟩ : ∃ n : Nat, 1 + x4 = n := ⟨(1 + x4).toNat, by omega⟩
    simp -implicitDefEqProofs [hs]
    refine (listing M vn c (by omega) hv0 hv n (by omega) (by omega) size (by omega) (by omega)).wp (by omega) ha ?_
    rintro p d5 hp
    have q1 := hp.can (by omega) (by omega) (by omega)
    simp -implicitDefEqProofs [q1.go (j := 80) (by omega)]
    refine (spoilt M vn hv0 hv n (by omega) (by omega) p hp).wp (by omega) ha ?_
    rintro p1 d6 ⟨hp1, hs1⟩
    simp -implicitDefEqProofs
    refine (spoilt M vn hv0 hv n (by omega) (by omega) p hp).wp (by omega) ha ?_
    rintro p2 d7 ⟨hp2, hs2⟩
    have jd : ∀ (q : D), IsPr M 6 q → Small q → Pu 26 f_law_is_judged [.d q, .d (.i vn), .d (.i 1)] (.b true) ∧ Pu 26 f_law_is_judged [.d q, .d (.i vn), .d (.i 2)] (.b true) ∧ Pu 26 f_law_is_judged [.d q, .d (.i vn), .d (.i 3)] (.b true) := fun q h1 h2 =>
      ⟨judged M vn 1 (by omega) (by omega) 6 (by omega) q h1 h2, judged M vn 2 (by omega) (by omega) 6 (by omega) q h1 h2, judged M vn 3 (by omega) (by omega) 6 (by omega) q h1 h2⟩
    have hp0 : IsPr M 6 p := by
      obtain ⟨h1, bs, rfl, h2, h3, h4⟩ := hp.pr (by omega)
      exact ⟨h1, bs, rfl, h2, h3, fun b hb => (h4 b hb).up6⟩
    obtain ⟨a1, a2, a3⟩ := jd p hp0 hp.small
    obtain ⟨b1, b2, b3⟩ := jd p1 hp1 hs1
    obtain ⟨c1, c2, c3⟩ := jd p2 hp2 hs2
    simp -implicitDefEqProofs [forLive, forItems, fb, l1_law_v3, l0_law_v3, range_14, a1.go (j := 80) (by omega), a2.go (j := 80) (by omega), a3.go (j := 80) (by omega), b1.go (j := 80) (by omega), b2.go (j := 80) (by omega), b3.go (j := 80) (by omega), c1.go (j := 80) (by omega), c2.go (j := 80) (by omega), c3.go (j := 80) (by omega)]
    refine (store_ok c n (by omega)).wp (by omega) ha ?_
    rintro _ d8 ⟨its, rfl, hil, hip⟩
    simp -implicitDefEqProofs
    obtain ⟨Mn, rfl⟩ : ∃ k : Nat, M = k := ⟨M.toNat, by omega⟩
    refine (store_ok c Mn (by omega)).wp (by omega) ha ?_
    rintro _ d9 ⟨st, rfl, hsl, hsp⟩
    have w1 := with_ok st vn (by omega) (by omega) (.t its)
    have tl : (st.take vn).length = vn := by simp; omega
    obtain ⟨st', hst'⟩ : ∃ z, z = st.take vn ++ [D.t its] ++ st.drop (vn + 1) := ⟨_, rfl⟩
    rw [← hst'] at w1
    have sl : st'.length = st.length := by rw [hst']; simp; omega
    have sg : st'[vn]? = some (.t its) := by
      rw [hst', List.append_assoc, List.getElem?_append_right (by omega)]; simp [tl]
    have w2 := split_store_ok st' its vn n (by omega) (by omega) sg (by omega) (by omega) (by omega)
    have pT : Pl 3 (.t its) := .t _ _ (by omega) hip
    have pS : ∀ x ∈ st', Pl 3 x := by
      intro x hx
      rw [hst'] at hx
      simp at hx
      rcases hx with hx | rfl | hx
      · exact (hsp x (List.mem_of_mem_take hx)).le (by omega)
      · exact pT
      · exact (hsp x (List.mem_of_mem_drop hx)).le (by omega)
    have w3 := same 4 (.t (st' ++ its ++ List.replicate n (.i 0))) (.t _ _ (by simp; omega) (by
      intro x hx
      simp only [List.mem_append] at hx
      rcases hx with (hx | hx) | hx
      · exact pS x hx
      · exact (hip x hx).le (by omega)
      · rw [List.eq_of_mem_replicate hx]; exact .i _ _))
    have k1 : st'.length + its.length ≤ 16777216 := by omega
    have k2 : (n : Int) ≤ 1000 := by omega
    have k3 : (1 : Int) ≤ n := by omega
    have k4 : n ≤ 1000 := by omega
    have k5 : st'.length + (its.length + n) ≤ 16777216 := by omega
    have k6 : st'.length + its.length + n ≤ 16777216 := by omega
    have k7 : 1 ≤ n := by omega
    simp only [List.append_assoc] at w2 w3
    have y1 := kx1
    have y2 := kx2
    have y3 := kx3
    have y4 := kx4
    have y5 := kx5
    have y6 := kx6
    have y7 := kx7
    simp only [prog0, due0, own0, turned0] at y1 y2 y3 y4 y5 y6 y7
    simp -implicitDefEqProofs [w1.go (j := 80) (by omega), w2.go (j := 80) (by omega), w3.go (j := 80) (by omega), k1, k2, k3, k4, k5, k6, k7, rep_one, y1, y2, y3, y4, y5, y6, y7, kx8, kx9]
  obtain ⟨⟨w, h'⟩, e, rfl⟩ := main
  exact ⟨h', e⟩
end J
set_option maxRecDepth 100000
namespace J
def top (i : Nat) : PySem.Stmt := PySem.Challenge.pw_justtherest_k78_lists_split.main.body.getD i (.Pass ⟨0, 0, 0, 0⟩)
def rowOf (x name : PySem.Str) (i : Nat) (N : List PySem.Str) (st : PySem.Stmt) : FRow := ⟨x, name, name, i, (L2.defArgs st).args, L2.defBody st, L2.defScope st, N⟩
def lay : Lay where
  rows := [rowOf "arity" "arity" 1 ["name"] (top 3),
    rowOf "items_of" "items_of" 2 ["thing"] (top 4),
    rowOf "number_of" "number_of" 3 ["thing"] (top 5),
    rowOf "item_of" "item_of" 4 ["number", "row"] (top 6),
    rowOf "with_item" "with_item" 5 ["number", "row", "thing"] (top 7),
    rowOf "place_of" "place_of" 6 ["thing", "row", "k"] (top 8),
    rowOf "look" "look" 8 ["name", "thing", "row"] (top 9),
    rowOf "compare" "compare" 10 ["name", "one", "other"] (top 10),
    rowOf "combine" "combine" 11 ["name", "one", "other"] (top 11),
    rowOf "is_expression_code" "is_expression_code" 13 ["thing", "kind", "part"] (top 12),
    rowOf "is_fixed" "is_fixed" 14 ["code", "mask", "part"] (top 13),
    rowOf "told_by" "told_by" 15 ["code", "store", "name", "part"] (top 14),
    rowOf "lessened_by" "lessened_by" 16 ["code", "mask", "store", "part"] (top 15),
    rowOf "reflect" "reflect" 17 ["name", "things"] (top 16),
    rowOf "applied" "applied" 18 ["name", "things"] (top 17),
    rowOf "worth" "worth" 19 ["e", "store", "kind", "part"] (top 19),
    rowOf "arguments_of" "arguments_of" 20 ["e"] (top 20),
    rowOf "all_within" "all_within" 21 ["e", "found", "part"] (top 21),
    rowOf "goes_to" "goes_to" 25 ["jump"] (top 26),
    rowOf "asked_by" "asked_by" 26 ["jump"] (top 27),
    rowOf "is_expression_for" "is_expression_for" 27 ["many", "e", "part"] (top 28),
    rowOf "is_block_for" "is_block_for" 28 ["many", "size", "block", "v", "e", "number"] (top 29),
    rowOf "is_program" "is_program" 29 ["program", "many", "blocks", "block"] (top 30),
    rowOf "check_program" "check_program" 30 ["program"] (top 31),
    rowOf "listed_items" "listed_items" 263 ["e", "n", "found", "_"] (top 33),
    rowOf "is_number_below" "is_number_below" 264 ["thing", "n"] (top 34),
    rowOf "asked_item" "asked_item" 265 ["e", "v", "n"] (top 35),
    rowOf "looks_at_items" "looks_at_items" 266 ["e", "v", "n", "part"] (top 36),
    rowOf "can_be_split" "can_be_split" 267 ["assign", "v", "n", "items", "item"] (top 37),
    rowOf "can_split" "can_split" 268 ["program", "v", "n", "assigns", "jump", "assign", "e"] (top 38),
    rowOf "with_items" "with_items" 269 ["e", "many", "v", "n", "number", "part"] (top 39),
    rowOf "split_assign" "split_assign" 270 ["assign", "many", "v", "n", "items", "aside", "k"] (top 40),
    rowOf "split_jump" "split_jump" 271 ["jump", "many", "v", "n"] (top 41),
    rowOf "split_block" "split_block" 272 ["block", "many", "v", "n", "found", "assign"] (top 42),
    rowOf "split" "split" 273 ["program", "v", "n", "many", "blocks", "block"] (top 43),
    rowOf "split_store" "split_store" 274 ["v", "n", "store"] (top 44),
    rowOf "first_state" "first_state" 214 ["store"] (top 46),
    rowOf "with_thing" "with_thing" 37 ["store", "v", "thing"] (top 47),
    rowOf "store_behind" "store_behind" 215 ["assigns", "store", "v", "e"] (top 48),
    rowOf "answer_of" "answer_of" 38 ["jump", "store"] (top 49),
    rowOf "block_behind" "block_behind" 39 ["jump", "store"] (top 50),
    rowOf "next_state" "next_state" 216 ["program", "state", "assigns", "jump", "store"] (top 51),
    rowOf "run" "run" 217 ["program", "store", "most", "state", "k"] (top 52),
    rowOf "_law_draws" "_law_draws" 143 ["script", "many", "cells", "rest", "draws", "k", "at", "once", "cell"] (top 54),
    rowOf "_law_take" "_law_take" 144 ["draws", "many"] (top 55),
    rowOf "_law_cell" "_law_cell" 145 ["script", "cell"] (top 56),
    rowOf "_law_thing" "_law_thing" 218 ["draws", "cell", "pick", "row", "k", "j"] (top 57),
    rowOf "_law_store" "_law_store" 226 ["draws", "many", "cell", "k"] (top 58),
    rowOf "_law_same" "_law_same" 161 ["actual", "due", "k"] (top 59),
    rowOf "_law_with" "_law_with" 231 ["store", "v", "thing"] (top 60),
    rowOf "_law_item_asked" "_law_item_asked" 275 ["e", "v", "n"] (top 61),
    rowOf "_law_looks" "_law_looks" 170 ["e", "v", "n", "part"] (top 62),
    rowOf "_law_items_of" "_law_items_of" 276 ["e", "n", "found", "k"] (top 63),
    rowOf "_law_can_split" "_law_can_split" 277 ["program", "v", "n", "assigns", "jump", "u", "e", "items", "part"] (top 64),
    rowOf "_law_split_part" "_law_split_part" 278 ["e", "many", "v", "n", "k", "part"] (top 65),
    rowOf "_law_split" "_law_split" 279 ["program", "v", "n", "many", "blocks", "found", "assigns", "jump", "newer", "u", "e", "items", "later", "k"] (top 66),
    rowOf "_law_near" "_law_near" 280 ["draws", "many", "v", "n", "deep", "cell", "pick", "u", "name", "arguments", "k"] (top 67),
    rowOf "_law_list" "_law_list" 281 ["parts", "found", "part"] (top 68),
    rowOf "_law_listing" "_law_listing" 282 ["draws", "many", "v", "n", "size", "cell", "blocks", "k", "assigns", "j", "u", "pick", "jump", "i"] (top 69),
    rowOf "_law_spoilt" "_law_spoilt" 283 ["draws", "program", "v", "n", "own", "parts", "e", "at", "assigns", "jump", "style", "lists"] (top 70),
    rowOf "_law_is_judged" "_law_is_judged" 285 ["program", "v", "n", "due", "own"] (top 71),
    rowOf "law" "law" 179 ["script", "draws", "cell", "many", "v", "n", "program", "told", "length", "items", "store", "own", "turned", "due"] (top 72)]
  gs := [("NAMES", 0, c_NAMES)]
  ts := [("ARITIES", 1, [("first", 1), ("rest", 1), ("join", 2), ("more", 2), ("item", 2), ("put", 3), ("length", 1), ("place", 2), ("same", 2), ("less", 2), ("some", 1), ("listed", 1), ("plus", 2), ("minus", 2), ("choose", 3), ("fixed", 2), ("told", 2), ("lessened", 3)])]
  bs := ["all", "bool", "int", "isinstance", "len", "list", "range", "str", "tuple"]
end J
set_option maxRecDepth 100000
set_option maxHeartbeats 0
namespace J
open PySem
theorem fit_sc : lay.rows.all scopeB = true := by decide +kernel
theorem fit_tr : lay.rows.map (fun r => (trSs (trS 40 (r.sx lay.T)) r.body, r.as.length, r.N.length)) = lay.rows.map fun r => (match JP.F r.i with
    | some d => (some d.body, d.np, d.ns)
    | none => (trSs (trS 40 (r.sx lay.T)) r.body, r.as.length, r.N.length)) := by kernel_rfl
end J
set_option maxRecDepth 100000
set_option maxHeartbeats 0
namespace J
open PySem PySem.Spec PyProof.Rows L2
def loose0 : List Str := ["NAMES", "ARITIES", "arity", "items_of", "number_of", "item_of", "with_item", "place_of", "look", "compare", "combine", "is_expression_code", "is_fixed", "told_by", "lessened_by", "reflect", "applied", "worth", "arguments_of", "all_within", "RestError", "InvalidProgram", "goes_to", "asked_by", "is_expression_for", "is_block_for", "is_program", "check_program", "listed_items", "is_number_below"]
def loose1 : List Str := ["asked_item", "looks_at_items", "can_be_split", "can_split", "with_items", "split_assign", "split_jump", "split_block", "split", "split_store", "first_state", "with_thing", "store_behind", "answer_of", "block_behind", "next_state", "run", "_law_draws", "_law_take", "_law_cell", "_law_thing", "_law_store", "_law_same", "_law_with", "_law_item_asked", "_law_looks", "_law_items_of", "_law_can_split", "_law_split_part", "_law_split"]
def loose2 : List Str := ["_law_near", "_law_list", "_law_listing", "_law_spoilt", "_law_is_judged"]
def loose : List Str := loose0 ++ loose1 ++ loose2
abbrev R : PySem.W.OpenRow := PySem.W.OpenLaw.row PySem.Challenge.rw_justtherest_k78_lists_split
abbrev hk : PySem.W.Hook := hookJ 2 lay
def ob (s : PySem.W.SharedT) : AlJ := obsJG 2 lay (HandSHeadRun.getT s)
theorem ob_eq (s : PySem.W.SharedT) : ob s = hk.obs s.abs := obsJG_eq (HandSHeadRun.getT_eq s)
theorem run_false (w : World) : HandSHeadRun.RunEq R (PySem.W.view R.prog [72]) hk ob 4000 loose (w.withFollow "special-get-raises" false) := by
  intro os
  kernel_rfl
theorem run_true (w : World) : HandSHeadRun.RunEq R (PySem.W.view R.prog [72]) hk ob 4000 loose (w.withFollow "special-get-raises" true) := by
  intro os
  kernel_rfl
theorem run (w : World) : HandSHeadRun.RunEq R (PySem.W.view R.prog [72]) hk ob 4000 loose w :=
  PySem.W.byRow2 "special-get-raises" (P := fun w => HandSHeadRun.RunEq R (PySem.W.view R.prog [72]) hk ob 4000 loose w) run_false run_true w
end J
set_option maxRecDepth 100000
set_option maxHeartbeats 0
namespace J
theorem fits : Fits lay JP 40 where
  sc := fit_sc
  tr := fit_tr
  g := by
    intro g hg c hc
    simp only [lay, List.mem_cons, List.not_mem_nil, or_false] at hg
    (repeat' (first | (rcases hg with rfl | hg) | (subst hg))) <;> exact Option.some.inj hc
  t := by
    intro t ht s c hc
    simp only [lay, List.mem_cons, List.not_mem_nil, or_false] at ht
    (repeat' (first | (rcases ht with rfl | ht) | (subst ht))) <;>
    (change Tb _ s = some c at hc
     unfold Tb at hc
     split at hc <;> first
        | (cases hc; exact ⟨_, by simp, rfl⟩)
        | (simp_all; done))
end J
open PySem PySem.W PySem.Calls PyProof.Rows
theorem PySem.Challenge.cw_justtherest_k78_lists_split_holds : PySem.Challenge.rw_justtherest_k78_lists_split.Holds := by
  w_on; o_law
  refine HandSHeadRun.head_any (r := J.R) (q := view J.R.prog [72]) (H := J.hk) (ob := J.ob) (M := 4000) (loose := J.loose) (d := HandSHeadRun.topDef J.R.prog 72) (kwd := []) J.ob_eq
    (by kernel_rfl) (fun s => by kernel_rfl) J.run (by kernel_rfl) (by kernel_rfl) (by kernel_rfl) (by rfl) (by first | assumption | decide +kernel) (by decide +kernel) ⟨rfl, rfl, rfl, rfl, rfl, by decide +kernel⟩ ?hw ?hc
  case hw => w_witness2
  case hc =>
    exact J.law_end (l := J.lay) (J := J.JP) (k := 80) (i := 179) (px := default) J.fits rfl (by kernel_rfl) ⟨rfl, by decide, by decide⟩ (by kernel_rfl) J.lay.rows[61] (List.getElem_mem _) rfl rfl (by kernel_rfl) ⟨_, rfl⟩ J.law78
