import PyProof.Rows.All
import Wide.All
import OpenK.AllK
import Wide.FinOn
import KE.KStateDown
import Lean
import HandS.ForMost
import HandS.Exc
import HandS.Wide
import HandS.WideBits
import HandS.Defaults
import HandS.TupLe
import HandS.TupAny
import HandS.Flt
import HandS.IsInst
import HandS.HeadWalk
import HandS.Base
import HandS.Call
import HandS.Ends
import HandS.More
import HandS.Words
import HandS.WordsExc
import HandS.Head0
import HandS.Head1
import HandS.Head2
import HandS.HeadEnd
import HandS.HeadHook1
import HandS.HeadHook2
import HandS.Zip
import PySem.Challenge.RW_risemarks_k13_parts_and_back
set_option Elab.async false
set_option linter.all false
set_option maxRecDepth 100000
set_option maxHeartbeats 0
set_option autoImplicit false
/- RmA: a small language for the fragment of Python that the program and the laws are written in, and what its terms mean over a heap of lists and instances. Tuples are values. -/
namespace Rm

/-! ### values, objects, results -/
inductive D where
  | non
  | bl (b : Bool)
  | int (i : Int)
  | str (x : List Nat)
  | tup (xs : List D)
  /-- the script: a list that nobody writes -/
  | scr (xs : List D)
  | ref (a : Nat)

inductive O where
  | lst (xs : List D)
  | ins (c : Nat) (fs : List (Nat × D))

abbrev M := List O
abbrev Vars := List (Option D)

inductive R (α : Type) where
  | ok (a : α) (h : M)
  | exc (c : Nat) (fs : List (Nat × D)) (h : M)
  | no

def R.bind {α β : Type} (r : R α) (f : α → M → R β) : R β := match r with
  | .ok a h => f a h
  | .exc c fs h => .exc c fs h
  | .no => .no

/-- how a block ends -/
inductive Fl where
  | nx | ret (d : D) | brk | ct
inductive S where
  | ok (f : Fl) (sg : Vars) (h : M)
  | exc (c : Nat) (fs : List (Nat × D)) (sg : Vars) (h : M)
  | no
def R.st {α : Type} (r : R α) (sg : Vars) (f : α → M → S) : S := match r with
  | .ok a h => f a h
  | .exc c fs h => .exc c fs sg h
  | .no => .no
def S.seq (r : S) (f : Vars → M → S) : S := match r with
  | .ok .nx sg h => f sg h
  | r => r

/-! ### fields -/
def fget (f : Nat) : List (Nat × D) → Option D
  | [] => none
  | (g, x) :: r => if g = f then some x else fget f r
def fput (f : Nat) (d : D) : List (Nat × D) → List (Nat × D)
  | [] => [(f, d)]
  | (g, x) :: r => if g = f then (g, d) :: r else (g, x) :: fput f d r

/-! ### operators -/
inductive BOp where
  | add | sub | mul | fdiv | mod | pow
inductive COp where
  | lt | le | gt | ge | eq | ne | inn | nin
/-- lists and texts are kept below this -/
def LINE : Nat := 1000000
/-- factors are kept below this -/
@[irreducible] def BIG : Nat := 2 ^ 400000
/-- divisors are kept below this -/
@[irreducible] def DBIG : Nat := 2 ^ 8000
def alloc (h : M) (o : O) : R D := .ok (.ref h.length) (h ++ [o])
def binop (op : BOp) (x y : D) (h : M) : R D := match op, x, y with
  | .add, .int i, .int j => .ok (.int (i + j)) h
  | .add, .str a, .str b => if a.length + b.length ≤ LINE then .ok (.str (a ++ b)) h else .no
  | .add, .tup a, .tup b => if a.length + b.length ≤ LINE then .ok (.tup (a ++ b)) h else .no
  | .add, .ref a, .ref b => match h[a]?, h[b]? with
    | some (.lst xs), some (.lst ys) => if xs.length + ys.length ≤ LINE then alloc h (.lst (xs ++ ys)) else .no
    | _, _ => .no
  | .sub, .int i, .int j => .ok (.int (i - j)) h
  | .mul, .int i, .int j => if i.natAbs < BIG ∧ j.natAbs < BIG then .ok (.int (i * j)) h else .no
  | .mul, .ref a, .int k => match h[a]? with
    | some (.lst xs) => if 0 ≤ k ∧ k ≤ LINE ∧ xs.length * k.toNat ≤ LINE then alloc h (.lst ((List.replicate k.toNat xs).flatten)) else .no
    | _ => .no
  | .fdiv, .int i, .int j => if 0 < j ∧ j.natAbs < DBIG then .ok (.int (i / j)) h else .no
  | .mod, .int i, .int j => if 0 < j then .ok (.int (i % j)) h else .no
  | .pow, .int i, .int j => if 0 ≤ j ∧ j ≤ 1000000 ∧ i.natAbs < 2 ^ 64 then .ok (.int (i ^ j.toNat)) h else .no
  | _, _, _ => .no

/-- data without a heap -/
inductive PD where
  | non
  | bl (b : Bool)
  | int (i : Int)
  | str (x : List Nat)
  | lst (xs : List PD)
  | tup (xs : List PD)
def toP (h : M) : Nat → D → Option PD
  | 0, _ => none
  | _ + 1, .non => some .non
  | _ + 1, .bl b => some (.bl b)
  | _ + 1, .int i => some (.int i)
  | _ + 1, .str x => some (.str x)
  | _ + 1, .scr _ => none
  | n + 1, .tup xs => (xs.mapM (toP h n)).map .tup
  | n + 1, .ref a => match h[a]? with
    | some (.lst xs) => (xs.mapM (toP h n)).map .lst
    | _ => none
mutual
def eqP : PD → PD → Bool
  | .non, .non => true
  | .bl a, .bl b => a == b
  | .bl a, .int b => (if a then 1 else 0) == b
  | .int a, .bl b => a == (if b then 1 else 0)
  | .int a, .int b => decide (a = b)
  | .str a, .str b => decide (a = b)
  | .lst a, .lst b => eqPs a b
  | .tup a, .tup b => eqPs a b
  | _, _ => false
def eqPs : List PD → List PD → Bool
  | [], [] => true
  | x :: xs, y :: ys => eqP x y && eqPs xs ys
  | _, _ => false
end
def eqD (h : M) (x y : D) : Option Bool := match toP h 30 x, toP h 30 y with
  | some a, some b => some (eqP a b)
  | _, _ => none
/-- flat values -/
def flatD : D → Bool
  | .non => true
  | .bl _ => true
  | .int _ => true
  | .str _ => true
  | _ => false
def eqF : D → D → Bool
  | .non, .non => true
  | .bl a, .bl b => a == b
  | .bl a, .int b => (if a then 1 else 0) == b
  | .int a, .bl b => a == (if b then 1 else 0)
  | .int a, .int b => decide (a = b)
  | .str a, .str b => decide (a = b)
  | _, _ => false
def inF (x : D) (ys : List D) : Option Bool := if flatD x = true ∧ ys.all flatD = true then some (ys.any fun y => eqF y x) else none
def intsD : List D → Option (List Int)
  | [] => some []
  | .int i :: r => (intsD r).map (i :: ·)
  | _ => none
def lexLt : List Int → List Int → Bool
  | [], [] => false
  | [], _ :: _ => true
  | _ :: _, [] => false
  | x :: xs, y :: ys => if x = y then lexLt xs ys else decide (x < y)
def inOp (x y : D) (h : M) : Option Bool := match y with
  | .str z => (match x with
    | .str [c] => some (decide (c ∈ z))
    | _ => none)
  | .tup ys => inF x ys
  | .ref a => (match h[a]? with
    | some (.lst ys) => inF x ys
    | _ => none)
  | _ => none
def cmpop (op : COp) (x y : D) (h : M) : Option Bool := match op with
  | .eq => eqD h x y
  | .ne => (eqD h x y).map (!·)
  | .lt => match x, y with
    | .int i, .int j => some (decide (i < j))
    | .str a, .str b => some (decide (a < b))
    | .tup a, .tup b => match intsD a, intsD b with
      | some u, some v => some (lexLt u v)
      | _, _ => none
    | _, _ => none
  | .le => match x, y with
    | .int i, .int j => some (decide (i ≤ j))
    | _, _ => none
  | .gt => match x, y with
    | .int i, .int j => some (decide (j < i))
    | _, _ => none
  | .ge => match x, y with
    | .int i, .int j => some (decide (j ≤ i))
    | _, _ => none
  | .inn => inOp x y h
  | .nin => (inOp x y h).map (!·)
def ix (n : Nat) (i : Int) : Option Nat := if 0 ≤ i then (if i < n then some i.toNat else none) else if -(n : Int) ≤ i then some (i + n).toNat else none
def at? {α : Type} (xs : List α) (i : Int) : Option α := (ix xs.length i).bind fun j => xs[j]?
def index (x y : D) (h : M) : R D := match x, y with
  | .tup xs, .int i => match at? xs i with
    | some d => .ok d h
    | none => .no
  | .str xs, .int i => match at? xs i with
    | some c => if xs.length ≤ LINE then .ok (.str [c]) h else .no
    | none => .no
  | .ref a, .int i => match h[a]? with
    | some (.lst xs) => (match at? xs i with
      | some d => .ok d h
      | none => .no)
    | _ => .no
  | .scr xs, .int i => match at? xs i with
    | some d => .ok d h
    | none => .no
  | _, _ => .no
/-- where a slice begins, ends -/
def sIx (n : Nat) (d : Nat) : Option Int → Nat
  | none => d
  | some i => if i < 0 then (i + n).toNat else min i.toNat n
def cut {α : Type} (xs : List α) (lo hi : Option Int) : List α := (xs.drop (sIx xs.length 0 lo)).take (sIx xs.length xs.length hi - sIx xs.length 0 lo)
def optI : Option D → Option (Option Int)
  | none => some none
  | some (.int i) => some (some i)
  | _ => none
def slice (x : D) (lo hi : Option D) (h : M) : R D := match optI lo, optI hi with
  | some l, some u => (match x with
    | .tup xs => if sIx xs.length 0 l = 0 ∧ sIx xs.length xs.length u = xs.length then .ok x h else .ok (.tup (cut xs l u)) h
    | .str xs => if xs.length ≤ LINE then .ok (.str (cut xs l u)) h else .no
    | .ref a => (match h[a]? with
      | some (.lst xs) => alloc h (.lst (cut xs l u))
      | _ => .no)
    | .scr xs => alloc h (.lst (cut xs l u))
    | _ => .no)
  | _, _ => .no

/-! ### built-in functions, methods -/
inductive Ty where
  | int | bool | str | list | tuple
inductive BF where
  | len | min | max | divmod | int | list | tuple
inductive BM where
  | append | reverse
/-- the kinds of values that isinstance tells apart -/
inductive Kd where
  | non | bl | int | str | tup | lst
def kind (x : D) (h : M) : Option Kd := match x with
  | .non => some .non
  | .bl _ => some .bl
  | .int _ => some .int
  | .str _ => some .str
  | .tup _ => some .tup
  | .scr _ => some .lst
  | .ref a => (match h[a]? with
    | some (.lst _) => some .lst
    | _ => none)
def isKd : Kd → Ty → Bool
  | .int, .int => true
  | .bl, .int => true
  | .bl, .bool => true
  | .str, .str => true
  | .tup, .tuple => true
  | .lst, .list => true
  | _, _ => false
def isTys (x : D) (h : M) (ts : List Ty) : Option Bool := (kind x h).map fun k => ts.any (isKd k)
def maxI (i j : Int) : Int := if j > i then j else i
def minI (i j : Int) : Int := if j < i then j else i
def bcall (f : BF) (xs : List D) (h : M) : R D := match f, xs with
  | .len, [.str x] => if x.length ≤ LINE then .ok (.int x.length) h else .no
  | .len, [.tup x] => .ok (.int x.length) h
  | .len, [.ref a] => match h[a]? with
    | some (.lst x) => .ok (.int x.length) h
    | _ => .no
  | .len, [.scr x] => .ok (.int x.length) h
  | .min, [.int i, .int j] => .ok (.int (minI i j)) h
  | .max, [.int i, .int j] => .ok (.int (maxI i j)) h
  | .max, [.int i, .int j, .int k] => .ok (.int (maxI (maxI i j) k)) h
  | .divmod, [.int i, .int j] => if 0 < j ∧ j.natAbs < 1073741824 then .ok (.tup [.int (i / j), .int (i % j)]) h else .no
  | .int, [.int i] => .ok (.int i) h
  | .int, [.bl b] => .ok (.int (if b then 1 else 0)) h
  | .list, [.tup x] => alloc h (.lst x)
  | .list, [.ref a] => match h[a]? with
    | some (.lst x) => alloc h (.lst x)
    | _ => .no
  | .list, [.scr x] => alloc h (.lst x)
  | .tuple, [.tup x] => .ok (.tup x) h
  | .tuple, [.ref a] => match h[a]? with
    | some (.lst x) => .ok (.tup x) h
    | _ => .no
  | .tuple, [.scr x] => .ok (.tup x) h
  | _, _ => .no
/-- whose methods they are -/
def isLst (x : D) (h : M) : Bool := match x with
  | .ref a => (match h[a]? with
    | some (.lst _) => true
    | _ => false)
  | _ => false
def bmOk (m : BM) (x : D) (h : M) : Bool := match m with
  | .append => isLst x h
  | .reverse => isLst x h
def bmeth (m : BM) (o : D) (xs : List D) (h : M) : R D := match m, o, xs with
  | .append, .ref a, [x] => match h[a]? with
    | some (.lst ys) => if ys.length < LINE then .ok .non (h.set a (.lst (ys ++ [x]))) else .no
    | _ => .no
  | .reverse, .ref a, [] => match h[a]? with
    | some (.lst ys) => .ok .non (h.set a (.lst ys.reverse))
    | _ => .no
  | _, _, _ => .no

/-! ### terms -/
/-- targets -/
inductive IG where
  | nm (i : Nat)
  | tp (gs : List IG)
mutual
inductive IE where
  | c (d : D)
  | var (i : Nat)
  | glob (d : D)
  | bin (op : BOp) (a b : IE)
  | neg (a : IE)
  | cmp (op : COp) (a b : IE)
  | cmp2 (o1 o2 : COp) (a b c : IE)
  | isN (yes : Bool) (a : IE)
  | isB (yes : Bool) (a : IE) (b : Bool)
  | conj (es : List IE)
  | disj (es : List IE)
  | not (a : IE)
  | ife (c a b : IE)
  | tup (es : List IE)
  | lst (es : List IE)
  | idx (a b : IE)
  | slc (a : IE) (lo hi : Option IE)
  | fld (a : IE) (f : Nat)
  | call (f : Nat) (es : List IE)
  | make (c : Nat) (es : List IE)
  | meth (m : Nat) (o : IE) (es : List IE)
  | blt (f : BF) (es : List IE)
  | isi (a : IE) (ts : List Ty)
  | bm (m : BM) (o : IE) (es : List IE)
  | lc (e : IE) (g : IG) (it : II) (cs : List IE) (own : List Nat)
  | exf (f : Nat)
  | exi (cs : List Nat)
inductive II where
  | val (e : IE)
  | rng1 (a : IE)
  | rng2 (a b : IE)
  | zip (a b : IE)
end
mutual
inductive IS where
  | pass
  | nev
  | asg (g : IG) (e : IE)
  | seti (o i e : IE)
  | setf (o : IE) (f : Nat) (e : IE)
  | ex (e : IE)
  | ret (e : IE)
  | retN
  | ife (c : IE) (t e : List IS)
  | forr (g : IG) (it : II) (b : List IS)
  | whl (c : IE) (b : List IS)
  | raise (c : Nat) (es : List IE)
  | tryy (b : List IS) (hs : List IH)
inductive IH where
  | mk (cs : List Nat) (slot : Option Nat) (suite : List IS)
end
structure FnD where
  arity : Nat
  slots : Nat
  dfl : List D
  body : List IS
/-- the program: defs, methods by class, exceptions' fields, exceptions' bases -/
structure Prog where
  fn : Nat → Option FnD
  mt : Nat → Nat → Option Nat
  ini : Nat → Option Nat
  exf : Nat → Option (List Nat)
  sub : Nat → Nat → Bool
/-- what is around -/
structure Env where
  P : Prog
  F : Nat → List D → M → R D
  w : Nat
  cu : Option (Nat × List (Nat × D))

/-! ### what they mean -/
mutual
def asgG : IG → D → Vars → Option Vars
  | .nm i, d, sg => some (sg.set i (some d))
  | .tp gs, .tup xs, sg => asgGs gs xs sg
  | .tp _, _, _ => none
def asgGs : List IG → List D → Vars → Option Vars
  | [], [], sg => some sg
  | g :: gs, x :: xs, sg => (asgG g x sg).bind (asgGs gs xs)
  | _, _, _ => none
end
def wipeV (sg : Vars) : List Nat → Vars
  | [] => sg
  | v :: vs => (wipeV sg vs).set v none
/-- what is walked: these, or the list at a as it stands at each turn -/
inductive It where
  | items (xs : List D)
  | live (a : Nat)
def nth (it : It) (h : M) (k : Nat) : Option (Option D) := match it with
  | .items xs => some xs[k]?
  | .live a => match h[a]? with
    | some (.lst xs) => some xs[k]?
    | _ => none
def rngL (lo hi : Int) : List D := (List.range (hi - lo).toNat).map fun (k : Nat) => D.int (lo + (k : Int))
def itVal (d : D) (h : M) : R It := match d with
  | .tup xs => .ok (.items xs) h
  | .ref a => match h[a]? with
    | some (.lst _) => .ok (.live a) h
    | _ => .no
  | .scr xs => .ok (.items xs) h
  | .str xs => if xs.length ≤ LINE then .ok (.items (xs.map fun c => .str [c])) h else .no
  | _ => .no
def RNG : Int := 1000000
def itRng (x y : D) (h : M) : R It := match x, y with
  | .int i, .int j => if -RNG ≤ i ∧ i ≤ RNG ∧ -RNG ≤ j ∧ j ≤ RNG then .ok (.items (rngL i j)) h else .no
  | _, _ => .no
def itZip (x y : D) (h : M) : R It := match x, y with
  | .tup xs, .tup ys => .ok (.items (List.zipWith (fun a b => .tup [a, b]) xs ys)) h
  | _, _ => .no
/-- a for: turn k, at most so many turns -/
def forF (it : It) (turn : D → Vars → M → S) : Nat → Nat → Vars → M → S
  | 0, _, _, _ => .no
  | w + 1, k, sg, h => match nth it h k with
    | none => .no
    | some none => .ok .nx sg h
    | some (some x) => match turn x sg h with
      | .ok .nx sg' h' => forF it turn w (k + 1) sg' h'
      | .ok .ct sg' h' => forF it turn w (k + 1) sg' h'
      | .ok .brk sg' h' => .ok .nx sg' h'
      | .ok (.ret d) sg' h' => .ok (.ret d) sg' h'
      | .exc c fs sg' h' => .exc c fs sg' h'
      | .no => .no
def whlF (c : Vars → M → R D) (body : Vars → M → S) : Nat → Vars → M → S
  | 0, _, _ => .no
  | w + 1, sg, h => match c sg h with
    | .ok (.bl true) h1 => (match body sg h1 with
      | .ok .nx sg' h' => whlF c body w sg' h'
      | .ok .ct sg' h' => whlF c body w sg' h'
      | .ok .brk sg' h' => .ok .nx sg' h'
      | .ok (.ret d) sg' h' => .ok (.ret d) sg' h'
      | .exc c fs sg' h' => .exc c fs sg' h'
      | .no => .no)
    | .ok (.bl false) h1 => .ok .nx sg h1
    | .exc c fs h1 => .exc c fs sg h1
    | _ => .no
/-- a comprehension's turns: the new list stands at j -/
def lcF (it : It) (j : Nat) (turn : D → M → R (Option D)) : Nat → Nat → M → R D
  | 0, _, _ => .no
  | w + 1, k, h => match nth it h k with
    | none => .no
    | some none => .ok (.ref j) h
    | some (some x) => match turn x h with
      | .ok none h' => lcF it j turn w (k + 1) h'
      | .ok (some d) h' => (match h'[j]? with
        | some (.lst ys) => if ys.length < LINE then lcF it j turn w (k + 1) (h'.set j (.lst (ys ++ [d]))) else .no
        | _ => .no)
      | _ => .no
def find (G : Env) (c : Nat) : List Nat → Bool
  | [] => false
  | k :: r => G.P.sub c k || find G c r

mutual
def evE (G : Env) : IE → Vars → M → R D
  | .c d, _, h => .ok d h
  | .var i, sg, h => match sg[i]? with
    | some (some d) => .ok d h
    | _ => .no
  | .glob d, _, h => .ok d h
  | .bin op a b, sg, h => (evE G a sg h).bind fun x h1 => (evE G b sg h1).bind fun y h2 => binop op x y h2
  | .neg a, sg, h => (evE G a sg h).bind fun x h1 => match x with
    | .int i => .ok (.int (-i)) h1
    | _ => .no
  | .cmp op a b, sg, h => (evE G a sg h).bind fun x h1 => (evE G b sg h1).bind fun y h2 => match cmpop op x y h2 with
    | some r => .ok (.bl r) h2
    | none => .no
  | .cmp2 o1 o2 a b c, sg, h => (evE G a sg h).bind fun x h1 => (evE G b sg h1).bind fun y h2 => match cmpop o1 x y h2 with
    | some true => (evE G c sg h2).bind fun z h3 => (match cmpop o2 y z h3 with
      | some r => .ok (.bl r) h3
      | none => .no)
    | some false => .ok (.bl false) h2
    | none => .no
  | .isN yes a, sg, h => (evE G a sg h).bind fun x h1 => match x with
    | .non => .ok (.bl yes) h1
    | _ => .ok (.bl (!yes)) h1
  | .isB yes a b, sg, h => (evE G a sg h).bind fun x h1 => match x with
    | .bl c => .ok (.bl (if yes = true then c == b else !(c == b))) h1
    | _ => .no
  | .conj es, sg, h => evA G es sg h
  | .disj es, sg, h => evD G es sg h
  | .not a, sg, h => (evE G a sg h).bind fun x h1 => match x with
    | .bl b => .ok (.bl (!b)) h1
    | _ => .no
  | .ife c a b, sg, h => (evE G c sg h).bind fun x h1 => match x with
    | .bl true => evE G a sg h1
    | .bl false => evE G b sg h1
    | _ => .no
  | .tup es, sg, h => (evEs G es sg h).bind fun xs h1 => .ok (.tup xs) h1
  | .lst es, sg, h => (evEs G es sg h).bind fun xs h1 => alloc h1 (.lst xs)
  | .idx a b, sg, h => (evE G a sg h).bind fun x h1 => (evE G b sg h1).bind fun y h2 => index x y h2
  | .slc a lo hi, sg, h => (evE G a sg h).bind fun x h1 => (evO G lo sg h1).bind fun l h2 => (evO G hi sg h2).bind fun u h3 => slice x l u h3
  | .fld a f, sg, h => (evE G a sg h).bind fun x h1 => match x with
    | .ref p => (match h1[p]? with
      | some (.ins _ fs) => (match fget f fs with
        | some d => .ok d h1
        | none => .no)
      | _ => .no)
    | _ => .no
  | .call f es, sg, h => (evEs G es sg h).bind fun xs h1 => G.F f xs h1
  | .make c es, sg, h => (evEs G es sg h).bind fun xs h1 => match G.P.ini c with
    | some f => (G.F f (.ref h1.length :: xs) (h1 ++ [.ins c []])).bind fun x h2 => (match x with
      | .non => .ok (.ref h1.length) h2
      | _ => .no)
    | none => .no
  | .meth m o es, sg, h => (evE G o sg h).bind fun x h1 => match x with
    | .ref p => (match h1[p]? with
      | some (.ins c _) => (match G.P.mt c m with
        | some f => (evEs G es sg h1).bind fun xs h2 => G.F f (.ref p :: xs) h2
        | none => .no)
      | _ => .no)
    | _ => .no
  | .blt f es, sg, h => (evEs G es sg h).bind fun xs h1 => bcall f xs h1
  | .isi a ts, sg, h => (evE G a sg h).bind fun x h1 => match isTys x h1 ts with
    | some b => .ok (.bl b) h1
    | none => .no
  | .bm m o es, sg, h => (evE G o sg h).bind fun x h1 => if bmOk m x h1 = true then (evEs G es sg h1).bind fun xs h2 => bmeth m x xs h2 else .no
  | .lc e g it cs own, sg, h => (evI G it sg h).bind fun J h1 => lcF J h1.length (fun x h2 => match asgG g x (wipeV sg own) with
      | some sg1 => (evCs G cs sg1 h2).bind fun b h3 => (match b with
        | true => (evE G e sg1 h3).bind fun d h4 => .ok (some d) h4
        | false => .ok none h3)
      | none => .no) G.w 0 (h1 ++ [.lst []])
  | .exf f, _, h => match G.cu with
    | some (_, fs) => (match fget f fs with
      | some d => .ok d h
      | none => .no)
    | none => .no
  | .exi cs, _, h => match G.cu with
    | some (c, _) => .ok (.bl (find G c cs)) h
    | none => .no
def evEs (G : Env) : List IE → Vars → M → R (List D)
  | [], _, h => .ok [] h
  | e :: es, sg, h => (evE G e sg h).bind fun x h1 => (evEs G es sg h1).bind fun xs h2 => .ok (x :: xs) h2
def evO (G : Env) : Option IE → Vars → M → R (Option D)
  | none, _, h => .ok none h
  | some e, sg, h => (evE G e sg h).bind fun x h1 => match x with
    | .int i => .ok (some (.int i)) h1
    | _ => .no
def evA (G : Env) : List IE → Vars → M → R D
  | [], _, h => .ok (.bl true) h
  | e :: es, sg, h => (evE G e sg h).bind fun x h1 => match x with
    | .bl true => evA G es sg h1
    | .bl false => .ok (.bl false) h1
    | _ => .no
def evD (G : Env) : List IE → Vars → M → R D
  | [], _, h => .ok (.bl false) h
  | e :: es, sg, h => (evE G e sg h).bind fun x h1 => match x with
    | .bl false => evD G es sg h1
    | .bl true => .ok (.bl true) h1
    | _ => .no
/-- a comprehension's tests -/
def evCs (G : Env) : List IE → Vars → M → R Bool
  | [], _, h => .ok true h
  | c :: cs, sg, h => (evE G c sg h).bind fun x h1 => match x with
    | .bl true => evCs G cs sg h1
    | .bl false => .ok false h1
    | _ => .no
def evI (G : Env) : II → Vars → M → R It
  | .val e, sg, h => (evE G e sg h).bind fun x h1 => itVal x h1
  | .rng1 a, sg, h => (evE G a sg h).bind fun x h1 => itRng (.int 0) x h1
  | .rng2 a b, sg, h => (evE G a sg h).bind fun x h1 => (evE G b sg h1).bind fun y h2 => itRng x y h2
  | .zip a b, sg, h => (evE G a sg h).bind fun x h1 => (evE G b sg h1).bind fun y h2 => itZip x y h2
end

/-- an except clause's name goes -/
def wipeO : Option Nat → Vars → Vars
  | none, sg => sg
  | some i, sg => sg.set i none
def sutS (sl : Option Nat) : S → S
  | .ok f sg h => .ok f (wipeO sl sg) h
  | _ => .no
/-- o.f = d -/
def setFld (o : D) (f : Nat) (d : D) (h : M) : Option M := match o with
  | .ref p => match h[p]? with
    | some (.ins c fs) => if fs.length < 900 then some (h.set p (.ins c (fput f d fs))) else none
    | _ => none
  | _ => none
def setIdx (o i d : D) (h : M) : Option M := match o, i with
  | .ref p, .int k => match h[p]? with
    | some (.lst xs) => (ix xs.length k).map fun j => h.set p (.lst (xs.set j d))
    | _ => none
  | _, _ => none
def pairF : List Nat → List D → Option (List (Nat × D))
  | [], [] => some []
  | f :: fs, d :: ds => (pairF fs ds).map ((f, d) :: ·)
  | _, _ => none
mutual
def evS (G : Env) : IS → Vars → M → S
  | .pass, sg, h => .ok .nx sg h
  | .nev, _, _ => .no
  | .asg g e, sg, h => (evE G e sg h).st sg fun x h1 => match asgG g x sg with
    | some sg1 => .ok .nx sg1 h1
    | none => .no
  | .seti o i e, sg, h => (evE G e sg h).st sg fun x h1 => (evE G o sg h1).st sg fun p h2 => (evE G i sg h2).st sg fun k h3 => match setIdx p k x h3 with
    | some h4 => .ok .nx sg h4
    | none => .no
  | .setf o f e, sg, h => (evE G e sg h).st sg fun x h1 => (evE G o sg h1).st sg fun p h2 => match setFld p f x h2 with
    | some h3 => .ok .nx sg h3
    | none => .no
  | .ex e, sg, h => (evE G e sg h).st sg fun _ h1 => .ok .nx sg h1
  | .ret e, sg, h => (evE G e sg h).st sg fun x h1 => .ok (.ret x) sg h1
  | .retN, sg, h => .ok (.ret .non) sg h
  | .ife c t e, sg, h => (evE G c sg h).st sg fun x h1 => match x with
    | .bl true => evSs G t sg h1
    | .bl false => evSs G e sg h1
    | _ => .no
  | .forr g it b, sg, h => (evI G it sg h).st sg fun J h1 => forF J (fun x sg1 h2 => match asgG g x sg1 with
    | some sg2 => evSs G b sg2 h2
    | none => .no) G.w 0 sg h1
  | .whl c b, sg, h => whlF (evE G c) (evSs G b) G.w sg h
  | .raise c es, sg, h => (evEs G es sg h).st sg fun xs h1 => match G.P.exf c with
    | some fs => (match pairF fs xs with
      | some l => .exc c l sg h1
      | none => .no)
    | none => .exc c [] sg h1
  | .tryy b hs, sg, h => match evSs G b sg h with
    | .exc c fs sg1 h1 => evHs G c fs hs sg1 h1
    | r => r
def evSs (G : Env) : List IS → Vars → M → S
  | [], sg, h => .ok .nx sg h
  | s :: r, sg, h => (evS G s sg h).seq (evSs G r)
def evHs (G : Env) (c : Nat) (fs : List (Nat × D)) : List IH → Vars → M → S
  | [], sg, h => .exc c fs sg h
  | .mk cs sl suite :: r, sg, h => if find G c cs then sutS sl (evSs { G with cu := some (c, fs) } suite (wipeO sl sg) h) else evHs G c fs r sg h
end
def endS (r : S) : R D := match r with
  | .ok .nx _ h => .ok .non h
  | .ok (.ret d) _ h => .ok d h
  | .exc c fs _ h => .exc c fs h
  | _ => .no
/-- a call, at most n calls deep -/
def callN (P : Prog) (w : Nat) : Nat → Nat → List D → M → R D
  | 0, _, _, _ => .no
  | n + 1, f, xs, h => match P.fn f with
    | some fd => if xs.length ≤ fd.arity ∧ fd.arity ≤ xs.length + fd.dfl.length then
        endS (evSs { P := P, F := callN P w n, w := w, cu := none } fd.body ((xs ++ fd.dfl.drop (xs.length + fd.dfl.length - fd.arity)).map some ++ List.replicate (fd.slots - fd.arity) none) h)
      else .no
    | none => .no
end Rm

/- RmB: how the small language's heap lies over the hand layer's. -/
namespace Rm
open PySem PySem.Spec L2

abbrev Fr := PySem.W.Frag
/-- names of a law's text -/
structure Nam where
  /-- names of fields, of methods -/
  flds : List Str
  mths : List Str
  /-- own defs, own classes, own exceptions: their numbers -/
  fns : List (Str × Nat)
  clss : List (Str × Nat)
  excs : List (Str × Nat)
  /-- constants of the module -/
  cons : List (Str × D)
  /-- names of built-in things that the module leaves alone -/
  blts : List Str
/-- and where they stand -/
structure Glo extends Nam where
  fa : Nat → Addr
  ca : Nat → Addr

/-! ### values -/
def TupAt (K : Fr) (ρ : List Addr) (H : Hp) (a : Addr) (ys : List V) : Prop := (SqT K H a ys ∧ (∃ o, H a = some o) ∧ a ∉ ρ) ∨ SqT K (fun _ => none) a ys
def LstAt (K : Fr) (ρ : List Addr) (H : Hp) (a : Addr) (ys : List V) : Prop := (SqL K H a ys ∧ (∃ o, H a = some o) ∧ a ∉ ρ) ∨ SqL K (fun _ => none) a ys
theorem rd_none {a : Addr} {u : HO} (h : Rd (fun _ => none) a u) : False := by
  rcases h with h | ⟨o, h⟩ <;> cases h
theorem TupAt.sq {K : Fr} {ρ : List Addr} {H : Hp} {a : Addr} {ys : List V} (h : TupAt K ρ H a ys) : SqT K H a ys := by
  rcases h with h | h
  · exact h.1
  · rcases h with h | h
    · exact (rd_none h).elim
    · exact .inr h
theorem LstAt.sq {K : Fr} {ρ : List Addr} {H : Hp} {a : Addr} {ys : List V} (h : LstAt K ρ H a ys) : SqL K H a ys := by
  rcases h with h | h
  · exact h.1
  · rcases h with h | h
    · exact (rd_none h).elim
    · exact .inr h
theorem TupAt.of {K : Fr} {ρ : List Addr} {H : Hp} {a : Addr} {ys : List V} (h : SqT K H a ys) (hn : a ∉ ρ) : TupAt K ρ H a ys := by
  rcases h with h | h
  · refine .inl ⟨.inl h, ?_, hn⟩
    rcases h with h | ⟨o, h⟩
    · exact ⟨_, h⟩
    · exact ⟨_, h⟩
  · exact .inr (.inr h)
theorem LstAt.of {K : Fr} {ρ : List Addr} {H : Hp} {a : Addr} {ys : List V} (h : SqL K H a ys) (hn : a ∉ ρ) : LstAt K ρ H a ys := by
  rcases h with h | h
  · refine .inl ⟨.inl h, ?_, hn⟩
    rcases h with h | ⟨o, h⟩
    · exact ⟨_, h⟩
    · exact ⟨_, h⟩
  · exact .inr (.inr h)
mutual
inductive Rel (K : Fr) (ρ : List Addr) (H : Hp) : D → V → Prop
  | non : Rel K ρ H .non .non
  | bl (b : Bool) : Rel K ρ H (.bl b) (.bl b)
  | int (i : Int) : Rel K ρ H (.int i) (.int i)
  | str (x : List Nat) (h : PySem.PyData.strOk ⟨x.toArray⟩ = true) : Rel K ρ H (.str x) (.str ⟨x.toArray⟩)
  | tup {xs : List D} {ys : List V} {a : Addr} (h : TupAt K ρ H a ys) (r : Rels K ρ H xs ys) : Rel K ρ H (.tup xs) (.ref a)
  | scr {xs : List D} {ys : List V} {a : Addr} (h : LstAt K ρ H a ys) (r : Rels K ρ H xs ys) : Rel K ρ H (.scr xs) (.ref a)
  | ref {i : Nat} {a : Addr} (h : ρ[i]? = some a) : Rel K ρ H (.ref i) (.ref a)
inductive Rels (K : Fr) (ρ : List Addr) (H : Hp) : List D → List V → Prop
  | nil : Rels K ρ H [] []
  | cons {x : D} {y : V} {xs : List D} {ys : List V} (h : Rel K ρ H x y) (r : Rels K ρ H xs ys) : Rels K ρ H (x :: xs) (y :: ys)
end
structure Step (ρ : List Addr) (H : Hp) (ρ' : List Addr) (H' : Hp) : Prop where
  pre : ∃ t, ρ' = ρ ++ t
  keep : ∀ a o, H a = some o → a ∉ ρ → H' a = some o
  new : ∀ a, a ∈ ρ' → a ∉ ρ → H a = none
theorem Step.refl (ρ : List Addr) (H : Hp) : Step ρ H ρ H := ⟨⟨[], by simp⟩, fun _ _ e _ => e, fun _ h n => absurd h n⟩
theorem Step.trans {ρ ρ1 ρ2 : List Addr} {H H1 H2 : Hp} (a : Step ρ H ρ1 H1) (b : Step ρ1 H1 ρ2 H2) : Step ρ H ρ2 H2 := by
  obtain ⟨t, e1⟩ := a.pre
  obtain ⟨u, e2⟩ := b.pre
  have noN : ∀ c o, H c = some o → c ∉ ρ → c ∉ ρ1 := fun c o e n m => by
    have z := a.new c m n
    rw [e] at z
    cases z
  refine ⟨⟨t ++ u, by rw [e2, e1, List.append_assoc]⟩, fun c o e n => b.keep c o (a.keep c o e n) (noN c o e n), fun c m n => ?_⟩
  by_cases h1 : c ∈ ρ1
  · exact a.new c h1 n
  · have z := b.new c m h1
    cases q : H c with
    | none => rfl
    | some o =>
      have w := a.keep c o q n
      rw [z] at w
      cases w
theorem Step.at {ρ ρ' : List Addr} {H H' : Hp} (s : Step ρ H ρ' H') {i : Nat} {a : Addr} (h : ρ[i]? = some a) : ρ'[i]? = some a := by
  obtain ⟨t, rfl⟩ := s.pre
  have hi : i < ρ.length := (List.getElem?_eq_some_iff.mp h).1
  rw [List.getElem?_append_left hi]
  exact h
theorem TupAt.mono {K : Fr} {ρ ρ' : List Addr} {H H' : Hp} (s : Step ρ H ρ' H') {a : Addr} {ys : List V} (h : TupAt K ρ H a ys) : TupAt K ρ' H' a ys := by
  rcases h with ⟨h, ⟨o, ho⟩, n⟩ | h
  · refine .inl ⟨?_, ⟨o, s.keep a o ho n⟩, fun m => ?_⟩
    · rcases h with (h | ⟨o', h⟩) | h
      · exact .inl (.inl (s.keep _ _ h n))
      · exact .inl (.inr ⟨o', s.keep _ _ h n⟩)
      · exact .inr h
    · have z := s.new a m n
      rw [ho] at z
      cases z
  · exact .inr h
theorem LstAt.mono {K : Fr} {ρ ρ' : List Addr} {H H' : Hp} (s : Step ρ H ρ' H') {a : Addr} {ys : List V} (h : LstAt K ρ H a ys) : LstAt K ρ' H' a ys := by
  rcases h with ⟨h, ⟨o, ho⟩, n⟩ | h
  · refine .inl ⟨?_, ⟨o, s.keep a o ho n⟩, fun m => ?_⟩
    · rcases h with (h | ⟨o', h⟩) | h
      · exact .inl (.inl (s.keep _ _ h n))
      · exact .inl (.inr ⟨o', s.keep _ _ h n⟩)
      · exact .inr h
    · have z := s.new a m n
      rw [ho] at z
      cases z
  · exact .inr h
mutual
theorem Rel.mono {K : Fr} {ρ ρ' : List Addr} {H H' : Hp} (s : Step ρ H ρ' H') : ∀ {x : D} {v : V}, Rel K ρ H x v → Rel K ρ' H' x v
  | _, _, .non => .non
  | _, _, .bl b => .bl b
  | _, _, .int i => .int i
  | _, _, .str x h => .str x h
  | _, _, .tup h r => .tup (h.mono s) (r.mono s)
  | _, _, .scr h r => .scr (h.mono s) (r.mono s)
  | _, _, .ref h => .ref (s.at h)
theorem Rels.mono {K : Fr} {ρ ρ' : List Addr} {H H' : Hp} (s : Step ρ H ρ' H') : ∀ {xs : List D} {vs : List V}, Rels K ρ H xs vs → Rels K ρ' H' xs vs
  | _, _, .nil => .nil
  | _, _, .cons h r => .cons (h.mono s) (r.mono s)
end
section
variable {K : Fr} {ρ ρ' : List Addr} {H H' : Hp}
theorem Rels.length : ∀ {xs : List D} {vs : List V}, Rels K ρ H xs vs → xs.length = vs.length
  | _, _, .nil => rfl
  | _, _, .cons _ r => congrArg Nat.succ r.length
theorem Rels.get : ∀ {xs : List D} {vs : List V} {i : Nat} {x : D}, Rels K ρ H xs vs → xs[i]? = some x → ∃ v, vs[i]? = some v ∧ Rel K ρ H x v
  | _, _, i, x, .nil, e => by simp at e
  | _, _, 0, x, .cons h r, e => by simp at e; subst e; exact ⟨_, rfl, h⟩
  | _, _, i + 1, x, .cons h r, e => by
    obtain ⟨v, h1, h2⟩ := Rels.get (i := i) r (by simpa using e)
    exact ⟨v, by simpa using h1, h2⟩
theorem Rels.get' : ∀ {xs : List D} {vs : List V} {i : Nat} {v : V}, Rels K ρ H xs vs → vs[i]? = some v → ∃ x, xs[i]? = some x ∧ Rel K ρ H x v
  | _, _, i, x, .nil, e => by simp at e
  | _, _, 0, x, .cons h r, e => by simp at e; subst e; exact ⟨_, rfl, h⟩
  | _, _, i + 1, x, .cons h r, e => by
    obtain ⟨v, h1, h2⟩ := Rels.get' (i := i) r (by simpa using e)
    exact ⟨v, by simpa using h1, h2⟩
theorem Rels.none_of {xs : List D} {vs : List V} {i : Nat} (r : Rels K ρ H xs vs) (e : xs[i]? = none) : vs[i]? = none := by
  have h1 := r.length
  have h2 : xs.length ≤ i := List.getElem?_eq_none_iff.mp e
  exact List.getElem?_eq_none_iff.mpr (by omega)
theorem Rels.append : ∀ {xs zs : List D} {vs ws : List V}, Rels K ρ H xs vs → Rels K ρ H zs ws → Rels K ρ H (xs ++ zs) (vs ++ ws)
  | _, _, _, _, .nil, s => s
  | _, _, _, _, .cons h r, s => .cons h (r.append s)
theorem Rels.set : ∀ {xs : List D} {vs : List V} (i : Nat) {x : D} {v : V}, Rels K ρ H xs vs → Rel K ρ H x v → Rels K ρ H (xs.set i x) (vs.set i v)
  | _, _, _, _, _, .nil, _ => .nil
  | _, _, 0, _, _, .cons _ r, q => .cons q r
  | _, _, i + 1, _, _, .cons h r, q => .cons h (r.set i q)
theorem Rels.take : ∀ {xs : List D} {vs : List V} (n : Nat), Rels K ρ H xs vs → Rels K ρ H (xs.take n) (vs.take n)
  | _, _, 0, _ => by simpa using Rels.nil
  | _, _, _ + 1, .nil => .nil
  | _, _, n + 1, .cons h r => .cons h (r.take n)
theorem Rels.drop : ∀ {xs : List D} {vs : List V} (n : Nat), Rels K ρ H xs vs → Rels K ρ H (xs.drop n) (vs.drop n)
  | _, _, 0, r => r
  | _, _, _ + 1, .nil => .nil
  | _, _, n + 1, .cons _ r => r.drop n
theorem Rels.reverse : ∀ {xs : List D} {vs : List V}, Rels K ρ H xs vs → Rels K ρ H xs.reverse vs.reverse
  | _, _, .nil => .nil
  | _, _, .cons h r => by
    rw [List.reverse_cons, List.reverse_cons]
    exact r.reverse.append (.cons h .nil)
theorem Rels.flatten : ∀ (n : Nat) {xs : List D} {vs : List V}, Rels K ρ H xs vs → Rels K ρ H (List.replicate n xs).flatten (List.replicate n vs).flatten
  | 0, _, _, _ => .nil
  | n + 1, _, _, r => by
    rw [List.replicate_succ, List.replicate_succ, List.flatten_cons, List.flatten_cons]
    exact r.append (Rels.flatten n r)
theorem Rels.ints : ∀ {xs : List D} {vs : List V} {ns : List Int}, Rels K ρ H xs vs → intsD xs = some ns → vs = ns.map V.int
  | _, _, _, .nil, e => by
    cases e
    rfl
  | _, _, ns, .cons h r, e => by
    cases h with
    | int i =>
      unfold intsD at e
      obtain ⟨m, e1, e2⟩ := Option.map_eq_some_iff.mp e
      rw [← e2, r.ints e1]
      rfl
    | _ => cases e
theorem Rels.of_ints : ∀ (ns : List Int), Rels K ρ H (ns.map D.int) (ns.map V.int)
  | [] => .nil
  | i :: r => .cons (.int i) (Rels.of_ints r)
end

theorem nd_at {α : Type} {l : List α} (hN : l.Nodup) {i j : Nat} {x : α} (a : l[i]? = some x) (b : l[j]? = some x) : i = j := by
  obtain ⟨h1, e1⟩ := List.getElem?_eq_some_iff.mp a
  obtain ⟨h2, e2⟩ := List.getElem?_eq_some_iff.mp b
  exact (List.getElem_inj hN).mp (e1.trans e2.symm)

/-! ### objects -/
inductive FRel (G : Glo) (K : Fr) (ρ : List Addr) (H : Hp) : List (Nat × D) → List (Str × V) → Prop
  | nil : FRel G K ρ H [] []
  | cons {f : Nat} {n : Str} {d : D} {v : V} {fs : List (Nat × D)} {gs : List (Str × V)} (hn : G.flds[f]? = some n) (h : Rel K ρ H d v) (r : FRel G K ρ H fs gs) : FRel G K ρ H ((f, d) :: fs) ((n, v) :: gs)
inductive ORel (G : Glo) (K : Fr) (ρ : List Addr) (H : Hp) : O → Addr → Prop
  | lst {xs : List D} {ys : List V} {a : Addr} (h : H a = some (.lst ys)) (r : Rels K ρ H xs ys) : ORel G K ρ H (.lst xs) a
  | ins {c : Nat} {fs : List (Nat × D)} {gs : List (Str × V)} {a dx : Addr} (h : H a = some (.ins (G.ca c) dx gs)) (hc : ∃ x, (x, c) ∈ G.clss) (r : FRel G K ρ H fs gs) : ORel G K ρ H (.ins c fs) a
theorem FRel.mono {G : Glo} {K : Fr} {ρ ρ' : List Addr} {H H' : Hp} (s : Step ρ H ρ' H') : ∀ {fs : List (Nat × D)} {gs : List (Str × V)}, FRel G K ρ H fs gs → FRel G K ρ' H' fs gs
  | _, _, .nil => .nil
  | _, _, .cons hn h r => .cons hn (h.mono s) (r.mono s)
theorem ORel.some {G : Glo} {K : Fr} {ρ : List Addr} {H : Hp} {o : O} {a : Addr} (r : ORel G K ρ H o a) : ∃ u, H a = some u := by
  cases r with
  | lst h r => exact ⟨_, h⟩
  | ins h hc r => exact ⟨_, h⟩
structure Sim (G : Glo) (K : Fr) (ρ : List Addr) (h : M) (H : Hp) : Prop where
  len : ρ.length = h.length
  nd : ρ.Nodup
  obj : ∀ (i : Nat) (o : O) (a : Addr), h[i]? = some o → ρ[i]? = some a → ORel G K ρ H o a
section
variable {G : Glo} {K : Fr} {ρ ρ' : List Addr} {h h' : M} {H H' : Hp}
theorem Sim.at (s : Sim G K ρ h H) {i : Nat} {a : Addr} (e : ρ[i]? = some a) : ∃ o, h[i]? = some o ∧ ORel G K ρ H o a := by
  have hi : i < ρ.length := (List.getElem?_eq_some_iff.mp e).1
  rw [s.len] at hi
  exact ⟨h[i], List.getElem?_eq_getElem hi, s.obj i _ a (List.getElem?_eq_getElem hi) e⟩
theorem Sim.there (s : Sim G K ρ h H) {a : Addr} (m : a ∈ ρ) : ∃ u, H a = some u := by
  obtain ⟨i, e⟩ := List.getElem?_of_mem m
  obtain ⟨o, _, r⟩ := s.at e
  exact r.some
theorem Sim.fresh (s : Sim G K ρ h H) {p : Addr} (hp : H p = none) : p ∉ ρ := fun m => by
  obtain ⟨u, e⟩ := s.there m
  rw [hp] at e
  cases e
/-- something new that is not kept by the small heap -/
theorem Step.other {p : Addr} {o : HO} (hp : H p = none) (hn : p ∉ ρ) : Step ρ H ρ (upd H p o) :=
  ⟨⟨[], by simp⟩, fun a u e _ => by rw [upd_ne (ne_of_none e hp)]; exact e, fun a m n => absurd m n⟩
theorem Sim.other (s : Sim G K ρ h H) {p : Addr} {o : HO} (hp : H p = none) : Sim G K ρ h (upd H p o) := by
  have st : Step ρ H ρ (upd H p o) := Step.other hp (s.fresh hp)
  refine ⟨s.len, s.nd, fun i u a e1 e2 => ?_⟩
  have r := s.obj i u a e1 e2
  cases r with
  | lst h r => exact .lst (by rw [upd_ne (ne_of_none h hp)]; exact h) (r.mono st)
  | ins h hc r => exact .ins (by rw [upd_ne (ne_of_none h hp)]; exact h) hc (r.mono st)
/-- a new object of the small heap -/
theorem Step.alloc {p : Addr} {o : HO} (hp : H p = none) (hn : p ∉ ρ) : Step ρ H (ρ ++ [p]) (upd H p o) := by
  refine ⟨⟨[p], rfl⟩, fun a u e _ => by rw [upd_ne (ne_of_none e hp)]; exact e, fun a m n => ?_⟩
  rcases List.mem_append.mp m with m | m
  · exact absurd m n
  · rw [List.mem_singleton.mp m]
    exact hp
theorem Sim.push (s : Sim G K ρ h H) {p : Addr} {u : HO} {o : O} (hp : H p = none) (r : ORel G K (ρ ++ [p]) (upd H p u) o p) : Sim G K (ρ ++ [p]) (h ++ [o]) (upd H p u) := by
  have hn := s.fresh hp
  have st : Step ρ H (ρ ++ [p]) (upd H p u) := Step.alloc hp hn
  refine ⟨by rw [List.length_append, List.length_append, s.len]; rfl, ?_, fun i v a e1 e2 => ?_⟩
  · rw [List.nodup_append]
    refine ⟨s.nd, by simp, fun a ha b hb e => ?_⟩
    rw [List.mem_singleton.mp hb] at e
    exact hn (e ▸ ha)
  · by_cases hi : i < ρ.length
    · rw [List.getElem?_append_left (by rw [← s.len]; exact hi)] at e1
      rw [List.getElem?_append_left hi] at e2
      have q := s.obj i v a e1 e2
      cases q with
      | lst h r => exact .lst (by rw [upd_ne (ne_of_none h hp)]; exact h) (r.mono st)
      | ins h hc r => exact .ins (by rw [upd_ne (ne_of_none h hp)]; exact h) hc (r.mono st)
    · have hl : i = ρ.length := by
        have := (List.getElem?_eq_some_iff.mp e2).1
        rw [List.length_append] at this
        simp at this
        omega
      subst hl
      rw [List.getElem?_append_right (Nat.le_refl _)] at e2
      rw [s.len, List.getElem?_append_right (Nat.le_refl _)] at e1
      simp at e1 e2
      subst e1 e2
      exact r
/-- an object of the small heap is written -/
theorem Step.write {p : Addr} {u : HO} (hp : p ∈ ρ) : Step ρ H ρ (upd H p u) :=
  ⟨⟨[], by simp⟩, fun a v e n => by rw [upd_ne (fun z : a = p => n (by rw [z]; exact hp))]; exact e, fun a m n => absurd m n⟩
theorem Sim.write (s : Sim G K ρ h H) {i : Nat} {p : Addr} {u : HO} {o : O} (hi : ρ[i]? = some p) (r : ORel G K ρ (upd H p u) o p) : Sim G K ρ (h.set i o) (upd H p u) := by
  have hp : p ∈ ρ := List.mem_of_getElem? hi
  have st : Step ρ H ρ (upd H p u) := Step.write hp
  have il : i < h.length := by rw [← s.len]; exact (List.getElem?_eq_some_iff.mp hi).1
  refine ⟨by rw [List.length_set]; exact s.len, s.nd, fun j v a e1 e2 => ?_⟩
  by_cases hj : i = j
  · subst hj
    rw [List.getElem?_set_self il] at e1
    cases e1
    rw [hi] at e2
    cases e2
    exact r
  · rw [List.getElem?_set_ne hj] at e1
    have ne : a ≠ p := fun z => by
      subst z
      exact hj (nd_at s.nd hi e2)
    have q := s.obj j v a e1 e2
    cases q with
    | lst h r => exact .lst (by rw [upd_ne ne]; exact h) (r.mono st)
    | ins h hc r => exact .ins (by rw [upd_ne ne]; exact h) hc (r.mono st)
/-- back from a caller's heap: what the small heap keeps, kept as it is -/
theorem Sim.lst (s : Sim G K ρ h H) {i : Nat} {a : Addr} {xs : List D} (e1 : ρ[i]? = some a) (e2 : h[i]? = some (.lst xs)) : ∃ ys, H a = some (.lst ys) ∧ Rels K ρ H xs ys := by
  have q := s.obj i _ a e2 e1
  cases q with
  | lst h r => exact ⟨_, h, r⟩
theorem Sim.ins (s : Sim G K ρ h H) {i : Nat} {a : Addr} {c : Nat} {fs : List (Nat × D)} (e1 : ρ[i]? = some a) (e2 : h[i]? = some (.ins c fs)) : ∃ dx gs, H a = some (.ins (G.ca c) dx gs) ∧ (∃ x, (x, c) ∈ G.clss) ∧ FRel G K ρ H fs gs := by
  have q := s.obj i _ a e2 e1
  cases q with
  | ins h hc r => exact ⟨_, _, h, hc, r⟩
end

/-! ### slots -/
def SRel (K : Fr) (ρ : List Addr) (H : Hp) (sg : Vars) (σ : St) : Prop := sg.length = σ.length ∧ ∀ (i : Nat) (d : D), sg[i]? = some (some d) → ∃ v, σ[i]? = some (some v) ∧ Rel K ρ H d v
theorem SRel.mono {K : Fr} {ρ ρ' : List Addr} {H H' : Hp} (s : Step ρ H ρ' H') {sg : Vars} {σ : St} (r : SRel K ρ H sg σ) : SRel K ρ' H' sg σ :=
  ⟨r.1, fun i d e => let ⟨v, e1, e2⟩ := r.2 i d e; ⟨v, e1, e2.mono s⟩⟩
theorem SRel.set {K : Fr} {ρ : List Addr} {H : Hp} {sg : Vars} {σ : St} (r : SRel K ρ H sg σ) (i : Nat) {d : D} {v : V} (q : Rel K ρ H d v) : SRel K ρ H (sg.set i (some d)) (σ.set i (some v)) := by
  refine ⟨by rw [List.length_set, List.length_set]; exact r.1, fun j e h => ?_⟩
  by_cases hj : i = j
  · subst hj
    have hi : i < sg.length := by
      have := (List.getElem?_eq_some_iff.mp h).1
      rw [List.length_set] at this
      exact this
    rw [List.getElem?_set_self hi] at h
    have e' : d = e := by
      injection h with h
      injection h
    subst e'
    exact ⟨v, List.getElem?_set_self (by rw [← r.1]; exact hi), q⟩
  · rw [List.getElem?_set_ne hj] at h
    obtain ⟨w, e1, e2⟩ := r.2 j e h
    exact ⟨w, by rw [List.getElem?_set_ne hj]; exact e1, e2⟩
theorem SRel.unset {K : Fr} {ρ : List Addr} {H : Hp} {sg : Vars} {σ : St} (r : SRel K ρ H sg σ) (i : Nat) {v : Option V} (hi : sg[i]? = some none ∨ sg[i]? = none) : SRel K ρ H sg (σ.set i v) := by
  refine ⟨by rw [List.length_set]; exact r.1, fun j e h => ?_⟩
  by_cases hj : i = j
  · subst hj
    rcases hi with hi | hi <;> rw [hi] at h <;> cases h
  · rw [List.getElem?_set_ne hj]
    exact r.2 j e h
theorem SRel.wipe {K : Fr} {ρ : List Addr} {H : Hp} {sg : Vars} {σ : St} (r : SRel K ρ H sg σ) : ∀ vs : List Nat, SRel K ρ H (wipeV sg vs) (wipe σ vs)
  | [] => r
  | v :: vs => by
    have q := SRel.wipe r vs
    unfold wipeV L2.wipe
    refine ⟨by rw [List.length_set, List.length_set]; exact q.1, fun j e h => ?_⟩
    by_cases hj : v = j
    · subst hj
      have hi : v < (wipeV sg vs).length := by
        have := (List.getElem?_eq_some_iff.mp h).1
        rw [List.length_set] at this
        exact this
      rw [List.getElem?_set_self hi] at h
      cases h
    · rw [List.getElem?_set_ne hj] at h ⊢
      exact q.2 j e h

/-! ### ends -/
/-- an exception of the class c with these fields -/
def ExcAt (G : Glo) (K : Fr) (ρ : List Addr) (H : Hp) (c : Nat) (fs : List (Nat × D)) (cls : Value) (d : Option Addr) : Prop :=
  cls = .ref (G.ca c) ∧ (∃ x, (x, c) ∈ G.excs) ∧ ((fs = [] ∧ d = none) ∨ ∃ dd gs, d = some dd ∧ dd ∉ ρ ∧ H dd = some (.xd gs) ∧ FRel G K ρ H fs gs)
def Out {α : Type} (G : Glo) (K : Fr) (W : WX) (ρ : List Addr) (H : Hp) (σ : St) (r : R α) (k : α → M → List Addr → Hp → Prop) : Prop := match r with
  | .ok a h' => ∀ ρ' H', Step ρ H ρ' H' → Sim G K ρ' h' H' → k a h' ρ' H'
  | .exc c fs h' => ∀ ρ' H' cls d, Step ρ H ρ' H' → Sim G K ρ' h' H' → ExcAt G K ρ' H' c fs cls d → W cls d σ H'
  | .no => False
section
variable {α β : Type} {G : Glo} {K : Fr} {W : WX} {ρ : List Addr} {H : Hp} {σ : St}
theorem Out.bind {r : R α} {f : α → M → R β} {k : β → M → List Addr → Hp → Prop} (h : Out G K W ρ H σ (r.bind f) k) : Out G K W ρ H σ r fun a h1 ρ1 H1 => Out G K W ρ1 H1 σ (f a h1) k := by
  cases r with
  | ok a h1 =>
    intro ρ1 H1 s1 m1
    have h' : Out G K W ρ H σ (f a h1) k := h
    show Out G K W ρ1 H1 σ (f a h1) k
    cases e : f a h1 with
    | ok b h2 =>
      rw [e] at h'
      exact fun ρ2 H2 s2 m2 => h' ρ2 H2 (s1.trans s2) m2
    | exc c fs h2 =>
      rw [e] at h'
      exact fun ρ2 H2 cls d s2 m2 x => h' ρ2 H2 cls d (s1.trans s2) m2 x
    | no =>
      rw [e] at h'
      exact h'
  | exc c fs h1 => exact h
  | no => exact h
theorem Out.imp {r : R α} {k k' : α → M → List Addr → Hp → Prop} (h : Out G K W ρ H σ r k) (i : ∀ a h' ρ' H', Step ρ H ρ' H' → Sim G K ρ' h' H' → k a h' ρ' H' → k' a h' ρ' H') : Out G K W ρ H σ r k' := by
  cases r with
  | ok a h1 => exact fun ρ1 H1 s1 m1 => i _ _ _ _ s1 m1 (h ρ1 H1 s1 m1)
  | exc c fs h1 => exact h
  | no => exact h
theorem Out.ok {a : α} {h : M} {k : α → M → List Addr → Hp → Prop} (s : Sim G K ρ h H) (q : Out G K W ρ H σ (.ok a h) k) : k a h ρ H := q ρ H (Step.refl _ _) s
end
end Rm

/- RmC: the operators of the small language by the hand layer's rules. -/
namespace Rm
open PySem PySem.Spec L2

def opB : BOp → Operator
  | .add => .Add | .sub => .Sub | .mul => .Mult | .fdiv => .FloorDiv | .mod => .Mod | .pow => .Pow
def opC : COp → CmpOp
  | .lt => .Lt | .le => .LtE | .gt => .Gt | .ge => .GtE | .eq => .Eq | .ne => .NotEq | .inn => .In | .nin => .NotIn
/-- an operation on two values, by the small language's own -/
def RB (G : Glo) (K : Fr) (m : D → D → M → R D) : R2 := fun x y H Q => ∃ (ρ : List Addr) (h : M) (dx dy : D) (W : WX) (σ0 : L2.St), Sim G K ρ h H ∧ Rel K ρ H dx x ∧ Rel K ρ H dy y ∧ Out G K W ρ H σ0 (m dx dy h) fun d _ ρ' H' => ∀ v, Rel K ρ' H' d v → Q v H'
theorem line_le {n : Nat} (h : n ≤ LINE) : n ≤ sizeLine := Nat.le_trans h (by decide)
theorem line_lt {n : Nat} (h : n < LINE) : n < sizeLine := Nat.lt_of_lt_of_le h (by decide)
theorem big_log {n : Nat} (h : n < BIG) : n.log2 < 400000 := by
  unfold BIG at h
  by_cases h0 : n = 0
  · subst h0
    decide
  · exact (Nat.log2_lt h0).mpr h
theorem dbig_log {n : Nat} (h : n < DBIG) : n.log2 < 9000 := by
  unfold DBIG at h
  by_cases h0 : n = 0
  · subst h0
    decide
  · exact Nat.lt_of_lt_of_le ((Nat.log2_lt h0).mpr h) (by decide)
theorem strOk_app {a b : List Nat} (ha : PyData.strOk ⟨a.toArray⟩ = true) (hb : PyData.strOk ⟨b.toArray⟩ = true) : PyData.strOk ⟨(a ++ b).toArray⟩ = true := by
  unfold PyData.strOk at *
  simp only [List.all_toArray, List.all_append, Bool.and_eq_true] at *
  exact ⟨ha, hb⟩
theorem str_app {a b : List Nat} : (⟨a.toArray⟩ : Str) ++ (⟨b.toArray⟩ : Str) = ⟨(a ++ b).toArray⟩ := by
  show Str.mk (a.toArray ++ b.toArray) = _
  rw [List.append_toArray]
theorem str_len {a : List Nat} : (⟨a.toArray⟩ : Str).length = a.length := by
  show a.toArray.size = _
  rw [List.size_toArray]
section
variable {G : Glo} {X : Cx} {ρ : List Addr} {h : M} {H : Hp} {σ0 : L2.St} {W : WX}
/-- a new list -/
theorem alloc_lst {xs : List D} {ys : List V} {Q : VK} {p : Addr} (s : Sim G X.K ρ h H) (r : Rels X.K ρ H xs ys) (hp : H p = none)
    (o : Out G X.K W ρ H σ0 (alloc h (.lst xs)) fun d _ ρ' H' => ∀ v, Rel X.K ρ' H' d v → Q v H') : Q (.ref p) (upd H p (.lst ys)) := by
  have hn := s.fresh hp
  have st : Step ρ H (ρ ++ [p]) (upd H p (.lst ys)) := Step.alloc hp hn
  have s2 := s.push (o := .lst xs) (u := .lst ys) hp (.lst upd_same (r.mono st))
  refine o _ _ st s2 _ (.ref ?_)
  rw [← s.len, List.getElem?_append_right (Nat.le_refl _)]
  simp
/-- a new tuple -/
theorem new_tup {xs : List D} {ys : List V} {Q : VK} {p : Addr} (s : Sim G X.K ρ h H) (r : Rels X.K ρ H xs ys) (hp : H p = none)
    (o : Out G X.K W ρ H σ0 (.ok (.tup xs) h) fun d _ ρ' H' => ∀ v, Rel X.K ρ' H' d v → Q v H') : Q (.ref p) (upd H p (.tup ys)) := by
  have hn := s.fresh hp
  have st : Step ρ H ρ (upd H p (.tup ys)) := Step.other hp hn
  exact o _ _ st (s.other hp) _ (.tup (.of (SqT.of upd_same) hn) (r.mono st))
theorem out_ok {d : D} {Q : VK} {v : V} (s : Sim G X.K ρ h H) (r : Rel X.K ρ H d v) (o : Out G X.K W ρ H σ0 (.ok d h) fun d _ ρ' H' => ∀ v, Rel X.K ρ' H' d v → Q v H') : Q v H := o ρ H (Step.refl _ _) s v r
end
section
variable {G : Glo} {X : Cx}
theorem op_bin (op : BOp) : OpR X (binaryOp (opB op)) (RB G X.K (binop op)) := by
  intro pins s σ H x y v u Q I rx ry hh
  obtain ⟨ρ, h, dx, dy, W, σ0, sm, hx, hy, o⟩ := hh
  cases op with
  | add =>
    cases hx with
    | int i =>
      cases hy with
      | int j => exact op_add pins s σ H _ _ v u Q I rx ry ⟨i, j, rfl, rfl, out_ok (X := X) sm (.int _) o⟩
      | _ => exact (show False from o).elim
    | str a ha =>
      cases hy with
      | str b hb =>
        unfold binop at o
        by_cases c : a.length + b.length ≤ LINE
        · simp only [c, if_true] at o
          refine op_add_str pins s σ H _ _ v u Q I rx ry ⟨_, _, rfl, rfl, ?_, ?_⟩
          · rw [str_len, str_len]
            exact line_le c
          · rw [str_app]
            exact out_ok (X := X) sm (.str _ (strOk_app ha hb)) o
        · simp only [c, if_false] at o
          exact (show False from o).elim
      | _ => exact (show False from o).elim
    | @tup a xa pa h1 r1 =>
      cases hy with
      | @tup b xb pb h2 r2 =>
        unfold binop at o
        by_cases c : a.length + b.length ≤ LINE
        · simp only [c, if_true] at o
          have l1 := r1.length
          have l2 := r2.length
          refine op_catA pins s σ H _ _ v u Q I rx ry ⟨_, _, _, _, rfl, rfl, h1.sq, h2.sq, by rw [← l1, ← l2]; exact line_le c, fun e => ?_, fun _ e => ?_, fun _ _ p hp => new_tup (X := X) sm (r1.append r2) hp o⟩
          · rw [e] at l1
            have ea : a = [] := List.length_eq_zero_iff.mp l1
            subst ea
            rw [List.nil_append] at o
            exact out_ok (X := X) sm (.tup h2 r2) o
          · rw [e] at l2
            have eb : b = [] := List.length_eq_zero_iff.mp l2
            subst eb
            rw [List.append_nil] at o
            exact out_ok (X := X) sm (.tup h1 r1) o
        · simp only [c, if_false] at o
          exact (show False from o).elim
      | _ => exact (show False from o).elim
    | @ref a pa ha =>
      cases hy with
      | @ref b pb hb =>
        unfold binop at o
        obtain ⟨oa, ea, _⟩ := sm.at ha
        obtain ⟨ob, eb, _⟩ := sm.at hb
        simp only [ea, eb] at o
        cases oa with
        | lst xs =>
          cases ob with
          | lst ys =>
            simp only at o
            obtain ⟨xv, e1, r1⟩ := sm.lst ha ea
            obtain ⟨yv, e2, r2⟩ := sm.lst hb eb
            have l1 := r1.length
            have l2 := r2.length
            by_cases c : xs.length + ys.length ≤ LINE
            · simp only [c, if_true] at o
              exact op_cat pins s σ H _ _ v u Q I rx ry ⟨_, _, _, _, rfl, rfl, e1, e2, by rw [← l1, ← l2]; exact line_le c, fun p hp => alloc_lst (X := X) sm (r1.append r2) hp o⟩
            · simp only [c, if_false] at o
              exact (show False from o).elim
          | _ => exact (show False from o).elim
        | _ => cases ob <;> exact (show False from o).elim
      | _ => exact (show False from o).elim
    | _ => exact (show False from o).elim
  | sub =>
    cases hx with
    | int i =>
      cases hy with
      | int j => exact op_sub pins s σ H _ _ v u Q I rx ry ⟨i, j, rfl, rfl, out_ok (X := X) sm (.int _) o⟩
      | _ => exact (show False from o).elim
    | _ => exact (show False from o).elim
  | mul =>
    cases hx with
    | int i =>
      cases hy with
      | int j =>
        unfold binop at o
        by_cases c : i.natAbs < BIG ∧ j.natAbs < BIG
        · simp only [c, and_self, if_true] at o
          have h1 := big_log c.1
          have h2 := big_log c.2
          exact op_mulW pins s σ H _ _ v u Q I rx ry ⟨i, j, rfl, rfl, by unfold CMulW; omega, out_ok (X := X) sm (.int _) o⟩
        · simp only [c, if_false] at o
          exact (show False from o).elim
      | _ => exact (show False from o).elim
    | @ref a pa ha =>
      cases hy with
      | int k =>
        unfold binop at o
        obtain ⟨oa, ea, _⟩ := sm.at ha
        simp only [ea] at o
        cases oa with
        | lst xs =>
          simp only at o
          obtain ⟨xv, e1, r1⟩ := sm.lst ha ea
          have l1 := r1.length
          by_cases c : 0 ≤ k ∧ k ≤ LINE ∧ xs.length * k.toNat ≤ LINE
          · simp only [c, and_self, if_true] at o
            have hk : (k : Int) ≤ 1000000 := c.2.1
            exact op_rep pins s σ H _ _ v u Q I rx ry ⟨_, k, _, rfl, rfl, e1, by omega, by omega, by rw [← l1]; exact line_le c.2.2, fun p hp => alloc_lst (X := X) sm (Rels.flatten _ r1) hp o⟩
          · simp only [c, if_false] at o
            exact (show False from o).elim
        | _ => exact (show False from o).elim
      | _ => exact (show False from o).elim
    | _ => exact (show False from o).elim
  | fdiv =>
    cases hx with
    | int i =>
      cases hy with
      | int j =>
        unfold binop at o
        by_cases c : 0 < j ∧ j.natAbs < DBIG
        · simp only [c, and_self, if_true] at o
          exact op_fdivW pins s σ H _ _ v u Q I rx ry ⟨i, j, rfl, rfl, ⟨c.1, dbig_log c.2⟩, out_ok (X := X) sm (.int _) o⟩
        · simp only [c, if_false] at o
          exact (show False from o).elim
      | _ => exact (show False from o).elim
    | _ => exact (show False from o).elim
  | mod =>
    cases hx with
    | int i =>
      cases hy with
      | int j =>
        unfold binop at o
        by_cases c : 0 < j
        · simp only [c, if_true] at o
          exact op_mod pins s σ H _ _ v u Q I rx ry ⟨i, j, rfl, rfl, c, out_ok (X := X) sm (.int _) o⟩
        · simp only [c, if_false] at o
          exact (show False from o).elim
      | _ => exact (show False from o).elim
    | _ => exact (show False from o).elim
  | pow =>
    cases hx with
    | int i =>
      cases hy with
      | int j =>
        unfold binop at o
        by_cases c : 0 ≤ j ∧ j ≤ 1000000 ∧ i.natAbs < 2 ^ 64
        · simp only [c, and_self, if_true] at o
          exact op_pow pins s σ H _ _ v u Q I rx ry ⟨i, j, rfl, rfl, c, out_ok (X := X) sm (.int _) o⟩
        · simp only [c, if_false] at o
          exact (show False from o).elim
      | _ => exact (show False from o).elim
    | _ => exact (show False from o).elim

end

/-! ### == -/
mutual
def ofP : PD → PyData
  | .non => .none
  | .bl b => .bool b
  | .int i => .int i
  | .str x => .str ⟨x.toArray⟩
  | .lst xs => .list (ofPs xs)
  | .tup xs => .tuple (ofPs xs)
def ofPs : List PD → List PyData
  | [] => []
  | x :: xs => ofP x :: ofPs xs
end
theorem str_inj {a b : List Nat} : (⟨a.toArray⟩ : Str) = ⟨b.toArray⟩ ↔ a = b := by
  constructor
  · intro e
    injection e with e
    simpa using congrArg Array.toList e
  · intro e
    rw [e]
theorem str_beq {a b : List Nat} : ((⟨a.toArray⟩ : Str) == ⟨b.toArray⟩) = decide (a = b) := by
  rw [Bool.eq_iff_iff, beq_iff_eq, decide_eq_true_iff]
  exact str_inj
mutual
theorem eqP_eqv : ∀ (a b : PD), PyData.eqv (ofP a) (ofP b) = eqP a b
  | a, b => by
    cases a <;> cases b <;> simp only [ofP, eqP, PyData.eqv] <;> first
      | rfl
      | exact str_beq
      | exact eqPs_eqv _ _
      | (rw [Bool.eq_iff_iff]; simp)
theorem eqPs_eqv : ∀ (a b : List PD), PyData.eqvAll (ofPs a) (ofPs b) = eqPs a b
  | [], [] => by simp only [ofPs, eqPs, PyData.eqvAll]
  | x :: xs, y :: ys => by
    simp only [ofPs, eqPs, PyData.eqvAll]
    rw [eqP_eqv x y, eqPs_eqv xs ys]
  | [], _ :: _ => by simp only [ofPs, eqPs, PyData.eqvAll]
  | _ :: _, [] => by simp only [ofPs, eqPs, PyData.eqvAll]
end
structure DpOk (K : Fr) (H : Hp) (n : Nat) (v : V) (p : PD) : Prop where
  dp : Dp K H v (ofP p)
  lay : PyData.canLay0 (ofP p) = true
  dep : PyData.depth (ofP p) ≤ n
structure DpsOk (K : Fr) (H : Hp) (n : Nat) (vs : List V) (ps : List PD) : Prop where
  dp : DpAll K H vs (ofPs ps)
  lay : PyData.canLayAll0 (ofPs ps) = true
  dep : PyData.depthAll (ofPs ps) ≤ n
theorem toPs_ok {G : Glo} {K : Fr} {ρ : List Addr} {h : M} {H : Hp} {n : Nat} (ih : ∀ {d : D} {v : V} {p : PD}, Rel K ρ H d v → toP h n d = some p → DpOk K H n v p) :
    ∀ {ds : List D} {vs : List V} {ps : List PD}, Rels K ρ H ds vs → ds.mapM (toP h n) = some ps → DpsOk K H n vs ps
  | _, _, ps, .nil, e => by
    simp at e
    subst e
    exact ⟨.nil, by simp only [ofPs, PyData.canLayAll0], by simp only [ofPs, PyData.depthAll]; omega⟩
  | _, _, ps, .cons r rs, e => by
    rw [List.mapM_cons] at e
    obtain ⟨p, e1, e⟩ := Option.bind_eq_some_iff.mp e
    obtain ⟨q, e2, e⟩ := Option.bind_eq_some_iff.mp e
    have e : some (p :: q) = some ps := e
    cases e
    have a := ih r e1
    have b := toPs_ok (G := G) ih rs e2
    refine ⟨.cons a.dp b.dp, ?_, ?_⟩
    · simp only [ofPs, PyData.canLayAll0, a.lay, b.lay, Bool.and_self]
    · simp only [ofPs, PyData.depthAll]
      have := a.dep
      have := b.dep
      omega
theorem toP_ok {G : Glo} {K : Fr} {ρ : List Addr} {h : M} {H : Hp} (sm : Sim G K ρ h H) : ∀ {n : Nat} {d : D} {v : V} {p : PD}, Rel K ρ H d v → toP h n d = some p → DpOk K H n v p
  | 0, d, v, p, r, e => by cases e
  | n + 1, d, v, p, r, e => by
    cases r with
    | non => cases e; exact ⟨.non, rfl, Nat.zero_le _⟩
    | bl b => cases e; exact ⟨.bl b, rfl, Nat.zero_le _⟩
    | int i => cases e; exact ⟨.int i, rfl, Nat.zero_le _⟩
    | str x hx => cases e; exact ⟨.str _, by simp only [ofP, PyData.canLay0]; exact hx, Nat.zero_le _⟩
    | tup h1 r1 =>
      obtain ⟨q, e1, e2⟩ := Option.map_eq_some_iff.mp (show Option.map PD.tup (List.mapM (toP h n) _) = some p from e)
      subst e2
      have z := toPs_ok (G := G) (fun r e => toP_ok sm r e) r1 e1
      exact ⟨.tup h1.sq z.dp, by simp only [ofP, PyData.canLay0]; exact z.lay, by simp only [ofP, PyData.depth]; have := z.dep; omega⟩
    | scr h1 r1 => cases e
    | @ref i a ha =>
      have e : (match h[i]? with
        | some (.lst xs) => (xs.mapM (toP h n)).map .lst
        | _ => none) = some p := e
      obtain ⟨o, eo, _⟩ := sm.at ha
      rw [eo] at e
      cases o with
      | lst xs =>
        obtain ⟨q, e1, e2⟩ := Option.map_eq_some_iff.mp e
        subst e2
        obtain ⟨ys, e3, r3⟩ := sm.lst ha eo
        have z := toPs_ok (G := G) (fun r e => toP_ok sm r e) r3 e1
        exact ⟨.lst (SqL.of e3) z.dp, by simp only [ofP, PyData.canLay0]; exact z.lay, by simp only [ofP, PyData.depth]; have := z.dep; omega⟩
      | ins c fs => cases e
theorem DpOk.shaped {K : Fr} {H : Hp} {v : V} {p : PD} (d : DpOk K H 30 v p) : SeqAt.shaped (ofP p) = true := by
  have := d.dep
  unfold SeqAt.shaped
  rw [d.lay, Bool.true_and, decide_eq_true_iff]
  omega
/-! ### in -/
theorem flat_rel {K : Fr} {ρ : List Addr} {H : Hp} {d : D} {v : V} (r : Rel K ρ H d v) (f : flatD d = true) : flatV v = true := by
  cases r <;> first | rfl | cases f
theorem flat_rels {K : Fr} {ρ : List Addr} {H : Hp} : ∀ {ds : List D} {vs : List V}, Rels K ρ H ds vs → ds.all flatD = true → vs.all flatV = true
  | _, _, .nil, _ => rfl
  | _, _, .cons r rs, f => by
    rw [List.all_cons, Bool.and_eq_true] at f ⊢
    exact ⟨flat_rel r f.1, flat_rels rs f.2⟩
theorem eqF_rel {K : Fr} {ρ : List Addr} {H : Hp} {d e : D} {v w : V} (r : Rel K ρ H d v) (q : Rel K ρ H e w) (f : flatD d = true) (g : flatD e = true) : eqV v w = eqF d e := by
  cases r <;> cases q <;> simp only [eqV, eqF] <;> first
    | exact str_beq
    | rfl
    | exact (Bool.noConfusion (show false = true from f))
    | exact (Bool.noConfusion (show false = true from g))
    | (rw [Bool.eq_iff_iff]; simp)
theorem anyF_rel {K : Fr} {ρ : List Addr} {H : Hp} {d : D} {v : V} (q : Rel K ρ H d v) (g : flatD d = true) : ∀ {ds : List D} {vs : List V}, Rels K ρ H ds vs → ds.all flatD = true → (vs.any fun y => eqV y v) = ds.any fun y => eqF y d
  | _, _, .nil, _ => rfl
  | _, _, .cons r rs, f => by
    rw [List.all_cons, Bool.and_eq_true] at f
    rw [List.any_cons, List.any_cons, eqF_rel r q f.1 g, anyF_rel q g rs f.2]
theorem inF_rel {K : Fr} {ρ : List Addr} {H : Hp} {d : D} {v : V} {ds : List D} {vs : List V} {b : Bool} (q : Rel K ρ H d v) (r : Rels K ρ H ds vs) (e : inF d ds = some b) : flatV v = true ∧ vs.all flatV = true ∧ inV v vs = b := by
  unfold inF at e
  by_cases c : flatD d = true ∧ ds.all flatD = true
  · rw [if_pos c] at e
    injection e with e
    exact ⟨flat_rel q c.1, flat_rels r c.2, by unfold inV; rw [anyF_rel q c.1 r c.2]; exact e⟩
  · rw [if_neg c] at e
    cases e
theorem lexLt_eq : ∀ (a b : List Int), HT.lexLt a b = lexLt a b
  | [], [] => rfl
  | [], _ :: _ => rfl
  | _ :: _, [] => rfl
  | x :: xs, y :: ys => by
    rw [HT.lexLt_cons]
    show _ = if x = y then lexLt xs ys else decide (x < y)
    rw [lexLt_eq xs ys]
/-- a comparison on two values -/
def RCm (G : Glo) (K : Fr) (m : D → D → M → Option Bool) : R2 := fun x y H Q => ∃ (ρ : List Addr) (h : M) (dx dy : D) (b : Bool), Sim G K ρ h H ∧ Rel K ρ H dx x ∧ Rel K ρ H dy y ∧ m dx dy h = some b ∧ Q (.bl b) H
section
variable {G : Glo} {X : Cx}
theorem str_toList {a : List Nat} : (⟨a.toArray⟩ : Str).cps.toList = a := rfl
theorem in_ok {pins : List (Addr × Obj)} {s : Shared} {σ : L2.St} {H : Hp} {x y : V} {v u : Value} {Q : VK} {ρ : List Addr} {h : M} {dx dy : D} {b : Bool} (I : Inv X pins σ H s) (rx : RelV x v) (ry : RelV y u) (sm : Sim G X.K ρ h H) (hx : Rel X.K ρ H dx x) (hy : Rel X.K ρ H dy y)
    (e : inOp dx dy h = some b) : (Q (.bl b) H → wpAny (model X.prog X.w) X.A (compareOp .In v u) (EP X pins σ Q) X.xe s) ∧ (Q (.bl (!b)) H → wpAny (model X.prog X.w) X.A (compareOp .NotIn v u) (EP X pins σ Q) X.xe s) := by
  have seq : ∀ {ys : List D} {vs : List V} {p : Addr}, y = .ref p → (SqL X.K H p vs ∨ SqT X.K H p vs) → Rels X.K ρ H ys vs → inF dx ys = some b →
      (Q (.bl b) H → wpAny (model X.prog X.w) X.A (compareOp .In v u) (EP X pins σ Q) X.xe s) ∧ (Q (.bl (!b)) H → wpAny (model X.prog X.w) X.A (compareOp .NotIn v u) (EP X pins σ Q) X.xe s) := by
    intro ys vs p ey hs r ei
    obtain ⟨f1, f2, f3⟩ := inF_rel hx r ei
    exact ⟨fun q => op_in_seq pins s σ H _ _ v _ Q I rx ry ⟨p, vs, ey, hs, f1, f2, by rw [f3]; exact q⟩, fun q => op_notIn_seq pins s σ H _ _ v _ Q I rx ry ⟨p, vs, ey, hs, f1, f2, by rw [f3]; exact q⟩⟩
  cases hy with
  | str z hz =>
    cases hx with
    | str a ha =>
      match a, e with
      | [c], e =>
        have e : some (decide (c ∈ z)) = some b := e
        injection e with e
        subst e
        exact ⟨fun q => op_in_sign pins s σ H _ _ v u Q I rx ry ⟨c, _, rfl, rfl, q⟩, fun q => op_notIn_sign pins s σ H _ _ v u Q I rx ry ⟨c, _, rfl, rfl, q⟩⟩
    | _ => cases e
  | tup h1 r1 => exact seq rfl (.inr h1.sq) r1 e
  | @ref i a ha =>
    have e : (match h[i]? with
      | some (.lst ys) => inF dx ys
      | _ => none) = some b := e
    obtain ⟨o, eo, _⟩ := sm.at ha
    rw [eo] at e
    cases o with
    | lst xs =>
      obtain ⟨ys, e3, r3⟩ := sm.lst ha eo
      exact seq rfl (.inl (SqL.of e3)) r3 e
    | ins c fs => cases e
  | _ => cases e
theorem op_cmp (hu : X.A.units + 64 < cLine) (op : COp) : OpR X (compareOp (opC op)) (RCm G X.K (cmpop op)) := by
  intro pins s σ H x y v u Q I rx ry hh
  obtain ⟨ρ, h, dx, dy, b, sm, hx, hy, e, q⟩ := hh
  cases op with
  | eq =>
    have e : eqD h dx dy = some b := e
    unfold eqD at e
    cases e1 : toP h 30 dx with
    | none => rw [e1] at e; cases e
    | some p =>
      cases e2 : toP h 30 dy with
      | none => rw [e1, e2] at e; cases e
      | some p2 =>
        rw [e1, e2] at e
        injection e with e
        have a := toP_ok sm hx e1
        have c := toP_ok sm hy e2
        exact op_eqD hu pins s σ H _ _ v u Q I rx ry ⟨_, _, a.dp, c.dp, a.shaped, c.shaped, by rw [eqP_eqv, e]; exact q⟩
  | ne =>
    have e : (eqD h dx dy).map (!·) = some b := e
    obtain ⟨b', e, eb⟩ := Option.map_eq_some_iff.mp e
    unfold eqD at e
    cases e1 : toP h 30 dx with
    | none => rw [e1] at e; cases e
    | some p =>
      cases e2 : toP h 30 dy with
      | none => rw [e1, e2] at e; cases e
      | some p2 =>
        rw [e1, e2] at e
        injection e with e
        have a := toP_ok sm hx e1
        have c := toP_ok sm hy e2
        exact op_neD hu pins s σ H _ _ v u Q I rx ry ⟨_, _, a.dp, c.dp, a.shaped, c.shaped, by rw [eqP_eqv, e, eb]; exact q⟩
  | lt =>
    cases hx with
    | int i =>
      cases hy with
      | int j => cases e; exact op_lt pins s σ H _ _ v u Q I rx ry ⟨i, j, rfl, rfl, q⟩
      | _ => cases e
    | str a ha =>
      cases hy with
      | str c hc => cases e; exact op_lt_str pins s σ H _ _ v u Q I rx ry ⟨_, _, rfl, rfl, q⟩
      | _ => cases e
    | @tup a xa pa h1 r1 =>
      cases hy with
      | @tup c xc pc h2 r2 =>
        unfold cmpop at e
        simp only at e
        cases e1 : intsD a with
        | none => rw [e1] at e; cases e
        | some m =>
          cases e2 : intsD c with
          | none => rw [e1, e2] at e; cases e
          | some m2 =>
            rw [e1, e2] at e
            injection e with e
            have z1 := r1.ints e1
            have z2 := r2.ints e2
            refine op_ltT (by omega) pins s σ H _ _ v u Q I rx ry ⟨_, _, m, m2, rfl, rfl, by rw [← z1]; exact h1.sq, by rw [← z2]; exact h2.sq, ?_⟩
            rw [lexLt_eq, e]
            exact q
      | _ => cases e
    | _ => cases e
  | le =>
    cases hx with
    | int i =>
      cases hy with
      | int j => cases e; exact op_le pins s σ H _ _ v u Q I rx ry ⟨i, j, rfl, rfl, q⟩
      | _ => cases e
    | _ => cases e
  | gt =>
    cases hx with
    | int i =>
      cases hy with
      | int j => cases e; exact op_gt pins s σ H _ _ v u Q I rx ry ⟨i, j, rfl, rfl, q⟩
      | _ => cases e
    | _ => cases e
  | ge =>
    cases hx with
    | int i =>
      cases hy with
      | int j => cases e; exact op_ge pins s σ H _ _ v u Q I rx ry ⟨i, j, rfl, rfl, q⟩
      | _ => cases e
    | _ => cases e
  | inn =>
    obtain ⟨hn, q2⟩ := in_ok (b := b) I rx ry sm hx hy e
    exact hn q
  | nin =>
    have e : (inOp dx dy h).map (!·) = some b := e
    obtain ⟨b', e, eb⟩ := Option.map_eq_some_iff.mp e
    obtain ⟨_, hn⟩ := in_ok (b := b') I rx ry sm hx hy e
    exact hn (by show Q (.bl (!b')) H; rw [eb]; exact q)
end
end Rm

/- RmD: items, slices, built-in functions and methods of the small language by the hand layer's rules. -/
namespace Rm
open PySem PySem.Spec L2

theorem ix_eq (n : Nat) (i : Int) : ix n i = ixN n i := rfl
theorem sIx_eq (n d : Nat) (o : Option Int) : sIx n d o = HT.sIx n d o := by
  cases o <;> rfl
theorem at_rel {K : Fr} {ρ : List Addr} {H : Hp} {ds : List D} {vs : List V} {i : Int} {d : D} (r : Rels K ρ H ds vs) (e : at? ds i = some d) : ∃ v, atI vs i = some v ∧ Rel K ρ H d v := by
  unfold at? at e
  obtain ⟨j, e1, e2⟩ := Option.bind_eq_some_iff.mp e
  obtain ⟨v, e3, e4⟩ := r.get e2
  refine ⟨v, ?_, e4⟩
  unfold atI
  rw [← r.length, ← ix_eq, e1]
  exact e3
theorem cut_rel {K : Fr} {ρ : List Addr} {H : Hp} {ds : List D} {vs : List V} {lo hi : Option Int} (r : Rels K ρ H ds vs) : Rels K ρ H (cut ds lo hi) (cutV vs lo hi) := by
  unfold cut cutV
  rw [sIx_eq, sIx_eq, r.length]
  exact (r.drop _).take _
theorem strOk_mem {xs : List Nat} : PyData.strOk ⟨xs.toArray⟩ = true ↔ ∀ c ∈ xs, c < 0x110000 := by
  unfold PyData.strOk
  simp [List.all_toArray]
theorem at_mem {α : Type} {xs : List α} {i : Int} {c : α} (e : at? xs i = some c) : c ∈ xs := by
  unfold at? at e
  obtain ⟨j, e1, e2⟩ := Option.bind_eq_some_iff.mp e
  exact List.mem_of_getElem? e2
theorem cut_mem {α : Type} {xs : List α} {lo hi : Option Int} {c : α} (h : c ∈ cut xs lo hi) : c ∈ xs := List.mem_of_mem_drop (List.mem_of_mem_take h)
section
variable {G : Glo} {X : Cx}
theorem ix_all : IxR X (RB G X.K index) := by
  intro value sl pins s σ H x y v u Q I rx ry hh hs
  obtain ⟨ρ, h, dx, dy, W, σ0, sm, hx, hy, o⟩ := hh
  cases hx with
  | @tup a xa pa h1 r1 =>
    cases hy with
    | int i =>
      unfold index at o
      simp only at o
      cases e : at? a i with
      | none => rw [e] at o; exact (show False from o).elim
      | some d =>
        rw [e] at o
        obtain ⟨w, e1, r2⟩ := at_rel r1 e
        exact ix_tup value sl pins s σ H _ _ v u Q I rx ry ⟨_, _, i, w, rfl, rfl, h1.sq, e1, out_ok (X := X) sm r2 o⟩ hs
    | _ => exact (show False from o).elim
  | @scr a xa pa h1 r1 =>
    cases hy with
    | int i =>
      unfold index at o
      simp only at o
      cases e : at? a i with
      | none => rw [e] at o; exact (show False from o).elim
      | some d =>
        rw [e] at o
        obtain ⟨w, e1, r2⟩ := at_rel r1 e
        exact ix_list value sl pins s σ H _ _ v u Q I rx ry ⟨_, _, i, w, rfl, rfl, h1.sq, e1, out_ok (X := X) sm r2 o⟩ hs
    | _ => exact (show False from o).elim
  | @str a ha =>
    cases hy with
    | int i =>
      unfold index at o
      simp only at o
      cases e : at? a i with
      | none => rw [e] at o; exact (show False from o).elim
      | some d =>
        rw [e] at o
        by_cases c : a.length ≤ LINE
        · simp only [c, if_true] at o
          refine ix_str value sl pins s σ H _ _ v u Q I rx ry ⟨_, i, d, rfl, rfl, by rw [str_len]; exact line_le c, e, ?_⟩ hs
          refine out_ok (X := X) sm (.str [d] ?_) o
          rw [strOk_mem]
          intro c hc
          rw [List.mem_singleton.mp hc]
          exact strOk_mem.mp ha d (at_mem e)
        · simp only [c, if_false] at o
          exact (show False from o).elim
    | _ => exact (show False from o).elim
  | @ref k a ha =>
    cases hy with
    | int i =>
      unfold index at o
      obtain ⟨oa, ea, _⟩ := sm.at ha
      simp only [ea] at o
      cases oa with
      | lst xs =>
        simp only at o
        obtain ⟨ys, e3, r3⟩ := sm.lst ha ea
        cases e : at? xs i with
        | none => rw [e] at o; exact (show False from o).elim
        | some d =>
          rw [e] at o
          obtain ⟨w, e1, r2⟩ := at_rel r3 e
          exact ix_list value sl pins s σ H _ _ v u Q I rx ry ⟨_, _, i, w, rfl, rfl, SqL.of e3, e1, out_ok (X := X) sm r2 o⟩ hs
      | ins c fs => exact (show False from o).elim
    | _ => exact (show False from o).elim
  | _ => exact (show False from o).elim
/-- a slice by values -/
def RSl (G : Glo) (K : Fr) : V → Option Int → Option Int → Hp → VK → Prop := fun x lo hi H Q => ∃ (ρ : List Addr) (h : M) (dx : D) (l u : Option D) (W : WX) (σ0 : L2.St), Sim G K ρ h H ∧ Rel K ρ H dx x ∧ optI l = some lo ∧ optI u = some hi ∧ Out G K W ρ H σ0 (slice dx l u h) fun d _ ρ' H' => ∀ v, Rel K ρ' H' d v → Q v H'
theorem sl_all : SlR X (RSl G X.K) := by
  intro pins s σ H x v vl vu lo hi sl Q I rx hs pl pu hh
  obtain ⟨ρ, h, dx, l, u, W, σ0, sm, hx, el, eu, o⟩ := hh
  unfold slice at o
  rw [el, eu] at o
  cases hx with
  | @tup a xa pa h1 r1 =>
    simp only at o
    have ll := r1.length
    refine sl_tupA pins s σ H _ v vl vu lo hi sl Q I rx hs pl pu ⟨_, _, rfl, h1.sq, fun c => ?_, fun c p hp => ?_⟩
    · rw [← ll, ← sIx_eq, ← sIx_eq] at c
      simp only [c, and_self, if_true] at o
      exact out_ok (X := X) sm (.tup h1 r1) o
    · rw [← ll, ← sIx_eq, ← sIx_eq] at c
      simp only [c, if_false] at o
      exact new_tup (X := X) sm (cut_rel r1) hp o
  | @scr a xa pa h1 r1 =>
    simp only at o
    exact sl_list pins s σ H _ v vl vu lo hi sl Q I rx hs pl pu ⟨_, _, rfl, h1.sq, fun p hp => alloc_lst (X := X) sm (cut_rel r1) hp o⟩
  | @str a ha =>
    simp only at o
    by_cases c : a.length ≤ LINE
    · simp only [c, if_true] at o
      refine sl_str pins s σ H _ v vl vu lo hi sl Q I rx hs pl pu ⟨_, rfl, by rw [str_len]; exact line_le c, ?_⟩
      have e : cutS ⟨a.toArray⟩ lo hi = ⟨(cut a lo hi).toArray⟩ := by
        unfold cutS cut
        rw [str_len, sIx_eq, sIx_eq]
      rw [e]
      refine out_ok (X := X) sm (.str _ ?_) o
      rw [strOk_mem]
      exact fun c hc => strOk_mem.mp ha c (cut_mem hc)
    · simp only [c, if_false] at o
      exact (show False from o).elim
  | @ref k a ha =>
    obtain ⟨oa, ea, _⟩ := sm.at ha
    simp only [ea] at o
    cases oa with
    | lst xs =>
      simp only at o
      obtain ⟨ys, e3, r3⟩ := sm.lst ha ea
      exact sl_list pins s σ H _ v vl vu lo hi sl Q I rx hs pl pu ⟨_, _, rfl, SqL.of e3, fun p hp => alloc_lst (X := X) sm (cut_rel r3) hp o⟩
    | ins c fs => exact (show False from o).elim
  | _ => exact (show False from o).elim

/-! ### built-in functions -/
def bfV : BF → Value
  | .len => .builtin "len" | .min => .builtin "min" | .max => .builtin "max" | .divmod => .builtin "divmod" | .int => .type "int" | .list => .type "list" | .tuple => .type "tuple"
def RL (G : Glo) (K : Fr) (m : List D → M → R D) : List V → Hp → VK → Prop := fun xs H Q => ∃ (ρ : List Addr) (h : M) (ds : List D) (W : WX) (σ0 : L2.St), Sim G K ρ h H ∧ Rels K ρ H ds xs ∧ Out G K W ρ H σ0 (m ds h) fun d _ ρ' H' => ∀ v, Rel K ρ' H' d v → Q v H'
theorem max3_int (i j k : Int) : nuMax3 (.int i) (.int j) (.int k) = some (.int (maxI (maxI i j) k)) := by
  have e : ∀ a b : Int, nuMax2 (.int a) (.int b) = some (.int (maxI a b)) := fun a b => by
    unfold nuMax2 maxI
    show some (if decide (a < b) = true then V.int b else V.int a) = _
    by_cases c : a < b
    · rw [if_pos (decide_eq_true c), if_pos c]
    · rw [if_neg (by simpa using c), if_neg c]
  unfold nuMax3
  rw [e]
  exact e _ _
theorem call_bf (hc : X.calm = true) (f : BF) : CallR X (bfV f) (RL G X.K (bcall f)) := by
  intro pins s σ H xs us Q I rv hh
  obtain ⟨ρ, h, ds, W, σ0, sm, hr, o⟩ := hh
  cases f with
  | len =>
    cases hr with
    | nil => exact (show False from o).elim
    | cons hx hr =>
      cases hr with
      | cons hy hr => cases hx <;> exact (show False from o).elim
      | nil =>
        cases hx with
        | @str a ha =>
          unfold bcall at o
          by_cases c : a.length ≤ LINE
          · simp only [c, if_true] at o
            refine call_len_str pins s σ H _ us Q I rv ⟨_, rfl, by rw [str_len]; exact line_le c, ?_⟩
            rw [str_len]
            exact out_ok (X := X) sm (.int _) o
          · simp only [c, if_false] at o
            exact (show False from o).elim
        | @tup a xa pa h1 r1 =>
          refine call_len_seq pins s σ H _ us Q I rv ⟨_, _, rfl, .inr h1.sq, ?_⟩
          rw [← r1.length]
          exact out_ok (X := X) sm (.int _) o
        | @scr a xa pa h1 r1 =>
          refine call_len_seq pins s σ H _ us Q I rv ⟨_, _, rfl, .inl h1.sq, ?_⟩
          rw [← r1.length]
          exact out_ok (X := X) sm (.int _) o
        | @ref k a ha =>
          unfold bcall at o
          obtain ⟨oa, ea, _⟩ := sm.at ha
          simp only [ea] at o
          cases oa with
          | lst xs =>
            simp only at o
            obtain ⟨ys, e3, r3⟩ := sm.lst ha ea
            refine call_len_seq pins s σ H _ us Q I rv ⟨_, _, rfl, .inl (SqL.of e3), ?_⟩
            rw [← r3.length]
            exact out_ok (X := X) sm (.int _) o
          | ins c fs => exact (show False from o).elim
        | _ => exact (show False from o).elim
  | min =>
    match ds, hr, o with
    | [.int i, .int j], .cons hx (.cons hy .nil), o =>
      cases hx
      cases hy
      exact call_min2 hc pins s σ H _ us Q I rv ⟨i, j, rfl, out_ok (X := X) sm (.int _) o⟩
  | max =>
    match ds, hr, o with
    | [.int i, .int j], .cons hx (.cons hy .nil), o =>
      cases hx
      cases hy
      exact call_max2 hc pins s σ H _ us Q I rv ⟨i, j, rfl, out_ok (X := X) sm (.int _) o⟩
    | [.int i, .int j, .int k], .cons hx (.cons hy (.cons hz .nil)), o =>
      cases hx
      cases hy
      cases hz
      exact call_max3Nu hc pins s σ H _ us Q I rv ⟨_, _, _, _, rfl, max3_int i j k, out_ok (X := X) sm (.int _) o⟩
  | divmod =>
    match ds, hr, o with
    | [.int i, .int j], .cons hx (.cons hy .nil), o =>
      cases hx
      cases hy
      unfold bcall at o
      by_cases c : 0 < j ∧ j.natAbs < 1073741824
      · simp only [c, and_self, if_true] at o
        exact call_divmod pins s σ H _ us Q I rv ⟨i, j, rfl, ⟨c.1, by omega⟩, fun p hp => new_tup (X := X) sm (.cons (.int _) (.cons (.int _) .nil)) hp o⟩
      · simp only [c, if_false] at o
        exact (show False from o).elim
  | int =>
    match ds, hr, o with
    | [.int i], .cons hx .nil, o =>
      cases hx
      exact call_int1 pins s σ H _ us Q I rv (.inl ⟨i, rfl, out_ok (X := X) sm (.int _) o⟩)
    | [.bl b], .cons hx .nil, o =>
      cases hx
      exact call_int1 pins s σ H _ us Q I rv (.inr ⟨b, rfl, out_ok (X := X) sm (.int _) o⟩)
  | list =>
    match ds, hr, o with
    | [.tup a], .cons hx .nil, o =>
      cases hx with
      | tup h1 r1 => exact call_list_of pins s σ H _ us Q I rv ⟨_, _, rfl, .inr h1.sq, fun p hp => alloc_lst (X := X) sm r1 hp o⟩
    | [.scr a], .cons hx .nil, o =>
      cases hx with
      | scr h1 r1 => exact call_list_of pins s σ H _ us Q I rv ⟨_, _, rfl, .inl h1.sq, fun p hp => alloc_lst (X := X) sm r1 hp o⟩
    | [.ref k], .cons hx .nil, o =>
      cases hx with
      | ref ha =>
        unfold bcall at o
        obtain ⟨oa, ea, _⟩ := sm.at ha
        simp only [ea] at o
        cases oa with
        | lst xs =>
          simp only at o
          obtain ⟨ys, e3, r3⟩ := sm.lst ha ea
          exact call_list_of pins s σ H _ us Q I rv ⟨_, _, rfl, .inl (SqL.of e3), fun p hp => alloc_lst (X := X) sm r3 hp o⟩
        | ins c fs => exact (show False from o).elim
  | tuple =>
    match ds, hr, o with
    | [.tup a], .cons hx .nil, o =>
      cases hx with
      | tup h1 r1 => exact call_tuple_of pins s σ H _ us Q I rv ⟨_, _, rfl, .inr ⟨h1.sq, out_ok (X := X) sm (.tup h1 r1) o⟩⟩
    | [.scr a], .cons hx .nil, o =>
      cases hx with
      | scr h1 r1 => exact call_tuple_of pins s σ H _ us Q I rv ⟨_, _, rfl, .inl ⟨h1.sq, fun p hp => new_tup (X := X) sm r1 hp o⟩⟩
    | [.ref k], .cons hx .nil, o =>
      cases hx with
      | ref ha =>
        unfold bcall at o
        obtain ⟨oa, ea, _⟩ := sm.at ha
        simp only [ea] at o
        cases oa with
        | lst xs =>
          simp only at o
          obtain ⟨ys, e3, r3⟩ := sm.lst ha ea
          exact call_tuple_of pins s σ H _ us Q I rv ⟨_, _, rfl, .inl ⟨SqL.of e3, fun p hp => new_tup (X := X) sm r3 hp o⟩⟩
        | ins c fs => exact (show False from o).elim

/-! ### methods of lists -/
theorem lst_write {ρ : List Addr} {h : M} {H : Hp} {i : Nat} {a : Addr} {xs : List D} {ys : List V} {W : WX} {σ0 : L2.St} {Q : VK} {d : D} {v : V} (s : Sim G X.K ρ h H) (hi : ρ[i]? = some a) (r : Rels X.K ρ H xs ys) (rv : ∀ ρ' H', Step ρ H ρ' H' → Rel X.K ρ' H' d v)
    (o : Out G X.K W ρ H σ0 (.ok d (h.set i (.lst xs))) fun d _ ρ' H' => ∀ v, Rel X.K ρ' H' d v → Q v H') : Q v (upd H a (.lst ys)) := by
  have st : Step ρ H ρ (upd H a (.lst ys)) := Step.write (List.mem_of_getElem? hi)
  exact o _ _ st (s.write hi (.lst upd_same (r.mono st))) _ (rv _ _ st)
theorem mt_app : MtR X "list.append" (fun x xs H Q => ∃ (ρ : List Addr) (h : M) (dx : D) (ds : List D) (W : WX) (σ0 : L2.St), Sim G X.K ρ h H ∧ Rel X.K ρ H dx x ∧ Rels X.K ρ H ds xs ∧ Out G X.K W ρ H σ0 (bmeth .append dx ds h) fun d _ ρ' H' => ∀ v, Rel X.K ρ' H' d v → Q v H') := by
  intro pins s σ H x xs v us Q I rx rv hh
  obtain ⟨ρ, h, dx, ds, W, σ0, sm, hx, hr, o⟩ := hh
  match dx, hx, ds, hr, o with
  | .ref k, .ref ha, [d], .cons hy .nil, o =>
    unfold bmeth at o
    obtain ⟨oa, ea, _⟩ := sm.at ha
    simp only [ea] at o
    cases oa with
    | lst zs =>
      simp only at o
      obtain ⟨ys, e3, r3⟩ := sm.lst ha ea
      by_cases c : zs.length < LINE
      · simp only [c, if_true] at o
        exact mt_append pins s σ H _ _ v us Q I rx rv ⟨_, _, _, rfl, rfl, e3, by rw [← r3.length]; exact line_lt c, lst_write (X := X) sm ha (r3.append (.cons hy .nil)) (fun _ _ _ => .non) o⟩
      · simp only [c, if_false] at o
        exact (show False from o).elim
    | ins c fs => exact (show False from o).elim
theorem mt_rev : MtR X "list.reverse" (fun x xs H Q => ∃ (ρ : List Addr) (h : M) (dx : D) (ds : List D) (W : WX) (σ0 : L2.St), Sim G X.K ρ h H ∧ Rel X.K ρ H dx x ∧ Rels X.K ρ H ds xs ∧ Out G X.K W ρ H σ0 (bmeth .reverse dx ds h) fun d _ ρ' H' => ∀ v, Rel X.K ρ' H' d v → Q v H') := by
  intro pins s σ H x xs v us Q I rx rv hh
  obtain ⟨ρ, h, dx, ds, W, σ0, sm, hx, hr, o⟩ := hh
  match dx, hx, ds, hr, o with
  | .ref k, .ref ha, [], .nil, o =>
    unfold bmeth at o
    obtain ⟨oa, ea, _⟩ := sm.at ha
    simp only [ea] at o
    cases oa with
    | lst zs =>
      simp only at o
      obtain ⟨ys, e3, r3⟩ := sm.lst ha ea
      exact mt_reverse pins s σ H _ _ v us Q I rx rv ⟨_, _, rfl, rfl, e3, lst_write (X := X) sm ha r3.reverse (fun _ _ _ => .non) o⟩
    | ins c fs => exact (show False from o).elim
end
end Rm

/- RmE: expressions of the small language by the hand layer's judgements. -/
namespace Rm
open PySem PySem.Spec L2

/-- what a reading leans on -/
structure Zz where
  G : Glo
  K : Fr
  cu : Option (Nat × List (Nat × D))
  U : Value × Option Addr
  W : WX
def CuAt (Z : Zz) (ρ : List Addr) (H : Hp) : Prop := ∀ c fs, Z.cu = some (c, fs) → ExcAt Z.G Z.K ρ H c fs Z.U.1 Z.U.2
structure St (Z : Zz) (ρ : List Addr) (h : M) (sg : Vars) (σ : L2.St) (H : Hp) : Prop where
  sim : Sim Z.G Z.K ρ h H
  sl : SRel Z.K ρ H sg σ
  cu : CuAt Z ρ H
theorem ExcAt.mono {G : Glo} {K : Fr} {ρ ρ' : List Addr} {H H' : Hp} (s : Step ρ H ρ' H') {c : Nat} {fs : List (Nat × D)} {cls : Value} {d : Option Addr} (x : ExcAt G K ρ H c fs cls d) : ExcAt G K ρ' H' c fs cls d := by
  obtain ⟨a, b, e⟩ := x
  refine ⟨a, b, ?_⟩
  rcases e with e | ⟨dd, gs, e1, n, e2, e3⟩
  · exact .inl e
  · refine .inr ⟨dd, gs, e1, fun m => ?_, s.keep _ _ e2 n, e3.mono s⟩
    have z := s.new dd m n
    rw [e2] at z
    cases z
theorem CuAt.mono {Z : Zz} {ρ ρ' : List Addr} {H H' : Hp} (s : Step ρ H ρ' H') (x : CuAt Z ρ H) : CuAt Z ρ' H' := fun c fs e => (x c fs e).mono s
theorem St.go {Z : Zz} {ρ ρ' : List Addr} {h h' : M} {sg : Vars} {σ : L2.St} {H H' : Hp} (x : St Z ρ h sg σ H) (s : Step ρ H ρ' H') (m : Sim Z.G Z.K ρ' h' H') : St Z ρ' h' sg σ H' := ⟨m, x.sl.mono s, x.cu.mono s⟩
abbrev Kt := D → M → List Addr → Hp → Prop
/-- readings: of an expression, of a test, of a list of arguments -/
def TI (Z : Zz) (m : Vars → M → R D) : TE := fun σ H Q => ∃ ρ h sg, St Z ρ h sg σ H ∧ Out Z.G Z.K Z.W ρ H σ (m sg h) fun d _ ρ' H' => ∀ v, Rel Z.K ρ' H' d v → Q v H'
def TTI (Z : Zz) (m : Vars → M → R D) : TT := fun σ H Q => ∃ ρ h sg, St Z ρ h sg σ H ∧ Out Z.G Z.K Z.W ρ H σ (m sg h) fun d _ ρ' H' => ∃ b, d = .bl b ∧ Q b H'
def TAI (Z : Zz) (m : Vars → M → R (List D)) : TA := fun σ H Q => ∃ ρ h sg, St Z ρ h sg σ H ∧ Out Z.G Z.K Z.W ρ H σ (m sg h) fun ds _ ρ' H' => ∀ vs, Rels Z.K ρ' H' ds vs → Q vs H'
section
variable {X : Cx} {e : Expr} {t t' : TE}
theorem pe_weak (h : PE X e t) (w : ∀ σ H Q, t' σ H Q → t σ H Q) : PE X e t' := ⟨fun pins s σ H Q I q => h.run pins s σ H Q I (w σ H Q q)⟩
theorem pt_weak {u u' : TT} (h : PT X e u) (w : ∀ σ H Q, u' σ H Q → u σ H Q) : PT X e u' := ⟨fun pins s σ H Q I q => h.run pins s σ H Q I (w σ H Q q)⟩
theorem pa_weak {es : List Expr} {u u' : TA} (h : PA X es u) (w : ∀ σ H Q, u' σ H Q → u σ H Q) : PA X es u' := ⟨fun pos pins s σ H Q I q => h.run pos pins s σ H Q I (w σ H Q q)⟩
end
section
variable {Z : Zz} {σ : L2.St} {H : Hp}
theorem ti_go {m : Vars → M → R D} {q : V → Hp → Prop} {ρ : List Addr} {h : M} {sg : Vars} {k : Kt} (s : St Z ρ h sg σ H) (o : Out Z.G Z.K Z.W ρ H σ (m sg h) k)
    (w : ∀ d h' ρ' H', Step ρ H ρ' H' → St Z ρ' h' sg σ H' → k d h' ρ' H' → ∀ v, Rel Z.K ρ' H' d v → q v H') : TI Z m σ H q := ⟨ρ, h, sg, s, o.imp fun d h1 ρ1 H1 st sm x v r => w d h1 ρ1 H1 st (s.go st sm) x v r⟩
theorem tti_go {m : Vars → M → R D} {q : Bool → Hp → Prop} {ρ : List Addr} {h : M} {sg : Vars} {k : Kt} (s : St Z ρ h sg σ H) (o : Out Z.G Z.K Z.W ρ H σ (m sg h) k)
    (w : ∀ d h' ρ' H', Step ρ H ρ' H' → St Z ρ' h' sg σ H' → k d h' ρ' H' → ∃ b, d = .bl b ∧ q b H') : TTI Z m σ H q := ⟨ρ, h, sg, s, o.imp fun d h1 ρ1 H1 st sm x => w d h1 ρ1 H1 st (s.go st sm) x⟩
theorem tai_go {m : Vars → M → R (List D)} {q : List V → Hp → Prop} {ρ : List Addr} {h : M} {sg : Vars} {k : List D → M → List Addr → Hp → Prop} (s : St Z ρ h sg σ H) (o : Out Z.G Z.K Z.W ρ H σ (m sg h) k)
    (w : ∀ ds h' ρ' H', Step ρ H ρ' H' → St Z ρ' h' sg σ H' → k ds h' ρ' H' → ∀ vs, Rels Z.K ρ' H' ds vs → q vs H') : TAI Z m σ H q := ⟨ρ, h, sg, s, o.imp fun d h1 ρ1 H1 st sm x v r => w d h1 ρ1 H1 st (s.go st sm) x v r⟩
/-- what is given at once -/
theorem ti_ok {Q : VK} {d : D} {v : V} {ρ : List Addr} {h : M} {sg : Vars} (s : St Z ρ h sg σ H) (r : Rel Z.K ρ H d v) (o : Out Z.G Z.K Z.W ρ H σ (.ok d h) fun d _ ρ' H' => ∀ v, Rel Z.K ρ' H' d v → Q v H') : Q v H := o ρ H (Step.refl _ _) s.sim v r
/-- a value that is a truth, as a test -/
theorem ti_tt {m : Vars → M → R D} {Q : Bool → Hp → Prop} (x : TTI Z m σ H Q) : TI Z m σ H fun v H1 => ∃ b, v = .bl b ∧ Q b H1 := by
  obtain ⟨ρ, h, sg, s, o⟩ := x
  refine ⟨ρ, h, sg, s, o.imp fun d h1 ρ1 H1 st sm k v r => ?_⟩
  obtain ⟨b, rfl, q⟩ := k
  cases r
  exact ⟨b, rfl, q⟩
end
/-- what is around a def's text: Zz but for K -/
structure Yy where
  G : Glo
  cu : Option (Nat × List (Nat × D))
  U : Value × Option Addr
  W : WX
abbrev zz (Y : Yy) (X : Cx) : Zz := ⟨Y.G, X.K, Y.cu, Y.U, Y.W⟩
section
variable {Y : Yy} {X : Cx} {pos : Pos}
/-! ### names, constants -/
def mC (d : D) (_ : Vars) (h : M) : R D := .ok d h
theorem s_c {d : D} {v : V} {e : Expr} (h : PE X e (tC v)) (r : ∀ ρ H, Rel X.K ρ H d v) : PE X e (TI (zz Y X) (mC d)) := pe_weak h fun σ H Q x => by
  obtain ⟨ρ, h, sg, s, o⟩ := x
  exact ti_ok s (r ρ H) o
def mVar (i : Nat) (sg : Vars) (h : M) : R D := match sg[i]? with
  | some (some d) => .ok d h
  | _ => .no
theorem s_var {i : Nat} {x : Str} {p : Pos} (h : PE X (.Name x p) (tVar i)) : PE X (.Name x p) (TI (zz Y X) (mVar i)) := pe_weak h fun σ H Q x => by
  obtain ⟨ρ, h, sg, s, o⟩ := x
  unfold mVar at o
  cases e : sg[i]? with
  | none => rw [e] at o; exact (show False from o).elim
  | some y =>
    cases y with
    | none => rw [e] at o; exact (show False from o).elim
    | some d =>
      rw [e] at o
      obtain ⟨v, e1, r⟩ := s.sl.2 i d e
      exact ⟨v, e1, ti_ok s r o⟩
/-! ### operators -/
variable {a b c : Expr} {ma mb mc : Vars → M → R D}
def mBin (op : BOp) (ma mb : Vars → M → R D) (sg : Vars) (h : M) : R D := (ma sg h).bind fun x h1 => (mb sg h1).bind fun y h2 => binop op x y h2
theorem s_bin (op : BOp) (ha : PE X a (TI (zz Y X) ma)) (hb : PE X b (TI (zz Y X) mb)) : PE X (.BinOp a (opB op) b pos) (TI (zz Y X) (mBin op ma mb)) :=
  pe_weak (pe_op (op_bin (G := Y.G) op) ha hb) fun σ H Q ⟨ρ, h, sg, s, o⟩ => ti_go s o.bind fun d1 h1 ρ1 H1 st1 s1 k1 v1 r1 => ti_go s1 (Out.bind k1) fun d2 h2 ρ2 H2 st2 s2 k2 v2 r2 =>
    ⟨ρ2, h2, d1, d2, _, _, s2.sim, r1.mono st2, r2, k2⟩
def mNeg (ma : Vars → M → R D) (sg : Vars) (h : M) : R D := (ma sg h).bind fun x h1 => match x with
  | .int i => .ok (.int (-i)) h1
  | _ => .no
theorem s_neg (ha : PE X a (TI (zz Y X) ma)) : PE X (.UnaryOp .USub a pos) (TI (zz Y X) (mNeg ma)) :=
  pe_weak (pe_un un_neg ha) fun σ H Q ⟨ρ, h, sg, s, o⟩ => ti_go s o.bind fun d1 h1 ρ1 H1 st1 s1 k1 v1 r1 => by
    cases r1 with
    | int i => exact ⟨i, rfl, ti_ok s1 (.int _) k1⟩
    | _ => exact (show False from k1).elim
def mCmp (op : COp) (ma mb : Vars → M → R D) (sg : Vars) (h : M) : R D := (ma sg h).bind fun x h1 => (mb sg h1).bind fun y h2 => match cmpop op x y h2 with
  | some r => .ok (.bl r) h2
  | none => .no
theorem s_cmp (hu : X.A.units + 64 < cLine) (op : COp) (ha : PE X a (TI (zz Y X) ma)) (hb : PE X b (TI (zz Y X) mb)) (hm : behindInMarks (opC op) b = false) : PE X (.Compare a [opC op] [b] pos) (TI (zz Y X) (mCmp op ma mb)) :=
  pe_weak (pe_cmpR (op_cmp (G := Y.G) hu op) ha hb hm) fun σ H Q ⟨ρ, h, sg, s, o⟩ => ti_go s o.bind fun d1 h1 ρ1 H1 st1 s1 k1 v1 r1 => ti_go s1 (Out.bind k1) fun d2 h2 ρ2 H2 st2 s2 k2 v2 r2 => by
    cases e : cmpop op d1 d2 h2 with
    | none => rw [e] at k2; exact (show False from k2).elim
    | some b =>
      rw [e] at k2
      exact ⟨ρ2, h2, d1, d2, b, s2.sim, r1.mono st2, r2, e, ti_ok s2 (.bl _) k2⟩
theorem t_cmp (hu : X.A.units + 64 < cLine) (op : COp) (ha : PE X a (TI (zz Y X) ma)) (hb : PE X b (TI (zz Y X) mb)) (hm : behindInMarks (opC op) b = false) : PT X (.Compare a [opC op] [b] pos) (TTI (zz Y X) (mCmp op ma mb)) :=
  pt_weak (pt_cmpR (op_cmp (G := Y.G) hu op) ha hb hm) fun σ H Q ⟨ρ, h, sg, s, o⟩ => ti_go s o.bind fun d1 h1 ρ1 H1 st1 s1 k1 v1 r1 => ti_go s1 (Out.bind k1) fun d2 h2 ρ2 H2 st2 s2 k2 v2 r2 => by
    cases e : cmpop op d1 d2 h2 with
    | none => rw [e] at k2; exact (show False from k2).elim
    | some b =>
      rw [e] at k2
      obtain ⟨b', e', q⟩ := Out.ok s2.sim k2
      cases e'
      exact ⟨ρ2, h2, d1, d2, b, s2.sim, r1.mono st2, r2, e, b, rfl, q⟩
def mCmp2 (o1 o2 : COp) (ma mb mc : Vars → M → R D) (sg : Vars) (h : M) : R D := (ma sg h).bind fun x h1 => (mb sg h1).bind fun y h2 => match cmpop o1 x y h2 with
  | some true => (mc sg h2).bind fun z h3 => (match cmpop o2 y z h3 with
    | some r => .ok (.bl r) h3
    | none => .no)
  | some false => .ok (.bl false) h2
  | none => .no
theorem chain_go {σ : L2.St} {H : Hp} {Q : VK} {o1 o2 : COp} {ρ : List Addr} {h : M} {sg : Vars} (s : St (zz Y X) ρ h sg σ H) {k : Kt} (kq : ∀ b h' ρ' H', Sim Y.G X.K ρ' h' H' → k (.bl b) h' ρ' H' → Q (.bl b) H') (o : Out Y.G X.K Y.W ρ H σ (mCmp2 o1 o2 ma mb mc sg h) k) :
    tChain (RCm Y.G X.K (cmpop o1)) (RCm Y.G X.K (cmpop o2)) (TI (zz Y X) ma) (TI (zz Y X) mb) (TI (zz Y X) mc) σ H Q :=
  ti_go s o.bind fun d1 h1 ρ1 H1 st1 s1 k1 v1 r1 => ti_go s1 (Out.bind k1) fun d2 h2 ρ2 H2 st2 s2 k2 v2 r2 => by
    cases e : cmpop o1 d1 d2 h2 with
    | none => rw [e] at k2; exact (show False from k2).elim
    | some b =>
      rw [e] at k2
      cases b with
      | false =>
        refine ⟨ρ2, h2, d1, d2, false, s2.sim, r1.mono st2, r2, e, false, rfl, ?_⟩
        rw [if_neg Bool.false_ne_true]
        exact kq false h2 ρ2 H2 s2.sim (Out.ok s2.sim k2)
      | true =>
        refine ⟨ρ2, h2, d1, d2, true, s2.sim, r1.mono st2, r2, e, true, rfl, ?_⟩
        rw [if_pos rfl]
        refine ti_go s2 (Out.bind k2) fun d3 h3 ρ3 H3 st3 s3 k3 v3 r3 => ?_
        cases e3 : cmpop o2 d2 d3 h3 with
        | none => rw [e3] at k3; exact (show False from k3).elim
        | some b =>
          rw [e3] at k3
          exact ⟨ρ3, h3, d2, d3, b, s3.sim, r2.mono st3, r3, e3, kq b h3 ρ3 H3 s3.sim (Out.ok s3.sim k3)⟩
theorem s_cmp2 (hu : X.A.units + 64 < cLine) (o1 o2 : COp) (ha : PE X a (TI (zz Y X) ma)) (hb : PE X b (TI (zz Y X) mb)) (hc : PE X c (TI (zz Y X) mc)) (hm : lastMarks [opC o1, opC o2] [b, c] = false) :
    PE X (.Compare a [opC o1, opC o2] [b, c] pos) (TI (zz Y X) (mCmp2 o1 o2 ma mb mc)) :=
  pe_weak (pe_chain (op_cmp (G := Y.G) hu o1) (op_cmp (G := Y.G) hu o2) ha hb hc hm) fun σ H Q ⟨ρ, h, sg, s, o⟩ => chain_go s (fun b h' ρ' H' sm k => k _ (.bl b)) o
theorem t_cmp2 (hu : X.A.units + 64 < cLine) (o1 o2 : COp) (ha : PE X a (TI (zz Y X) ma)) (hb : PE X b (TI (zz Y X) mb)) (hc : PE X c (TI (zz Y X) mc)) (hm : lastMarks [opC o1, opC o2] [b, c] = false) :
    PT X (.Compare a [opC o1, opC o2] [b, c] pos) (TTI (zz Y X) (mCmp2 o1 o2 ma mb mc)) :=
  pt_weak (pt_chain (op_cmp (G := Y.G) hu o1) (op_cmp (G := Y.G) hu o2) ha hb hc hm) fun σ H Q ⟨ρ, h, sg, s, o⟩ => chain_go s (fun b h' ρ' H' sm k => by
    obtain ⟨b', e, q⟩ := k
    cases e
    exact ⟨b, rfl, q⟩) o
def mIsN (yes : Bool) (ma : Vars → M → R D) (sg : Vars) (h : M) : R D := (ma sg h).bind fun x h1 => match x with
  | .non => .ok (.bl yes) h1
  | _ => .ok (.bl (!yes)) h1
def opN : Bool → CmpOp
  | true => .Is
  | false => .IsNot
theorem op_N (yes : Bool) : OpR X (compareOp (opN yes)) (fun x y H Q => y = .non ∧ Q (.bl (if yes = true then decide (x = .non) else !decide (x = .non))) H) := by
  cases yes
  · exact op_notN
  · exact op_isN
theorem isN_go {d : D} {v : V} {ρ : List Addr} {H : Hp} {yes : Bool} {h : M} (r : Rel X.K ρ H d v) : (match d with
    | .non => R.ok (D.bl yes) h
    | _ => .ok (.bl (!yes)) h) = .ok (.bl (if yes = true then decide (v = .non) else !decide (v = .non))) h := by
  cases r <;> cases yes <;> rfl
theorem s_isN (yes : Bool) {j : Nat} {p : Pos} (ha : PE X a (TI (zz Y X) ma)) : PE X (.Compare a [opN yes] [.Constant .none j p] pos) (TI (zz Y X) (mIsN yes ma)) :=
  pe_weak (pe_cmpR (op_N yes) ha pe_non (by cases yes <;> exact nomark _)) fun σ H Q ⟨ρ, h, sg, s, o⟩ => ti_go s o.bind fun d1 h1 ρ1 H1 st1 s1 k1 v1 r1 => by
    rw [isN_go r1] at k1
    exact ⟨rfl, ti_ok s1 (.bl _) k1⟩
theorem t_isN (yes : Bool) {j : Nat} {p : Pos} (ha : PE X a (TI (zz Y X) ma)) : PT X (.Compare a [opN yes] [.Constant .none j p] pos) (TTI (zz Y X) (mIsN yes ma)) :=
  pt_weak (pt_cmpR (op_N yes) ha pe_non (by cases yes <;> exact nomark _)) fun σ H Q ⟨ρ, h, sg, s, o⟩ => ti_go s o.bind fun d1 h1 ρ1 H1 st1 s1 k1 v1 r1 => by
    rw [isN_go r1] at k1
    obtain ⟨b, e, q⟩ := Out.ok s1.sim k1
    cases e
    exact ⟨rfl, _, rfl, q⟩
def mIsB (yes : Bool) (b : Bool) (ma : Vars → M → R D) (sg : Vars) (h : M) : R D := (ma sg h).bind fun x h1 => match x with
  | .bl c => .ok (.bl (if yes = true then c == b else !(c == b))) h1
  | _ => .no
theorem bool_beq (a b : Bool) : (Value.bool a == Value.bool b) = (a == b) := by
  cases a <;> cases b <;> rfl
theorem op_isBl (yes : Bool) : OpR X (compareOp (opN yes)) (fun x y H Q => ∃ c b, x = .bl c ∧ y = .bl b ∧ Q (.bl (if yes = true then c == b else !(c == b))) H) := by
  intro pins s σ H x y v u Q I rx ry h
  obtain ⟨c, b, rfl, rfl, q⟩ := h
  cases rx
  cases ry
  cases yes
  · exact wpAny_isNot_plain rfl ⟨_, H, I, by rw [bool_beq] <;> rfl, q⟩
  · exact wpAny_is_plain rfl ⟨_, H, I, by rw [bool_beq] <;> rfl, q⟩
theorem s_isB (yes b : Bool) {j : Nat} {p : Pos} (ha : PE X a (TI (zz Y X) ma)) : PE X (.Compare a [opN yes] [.Constant (.bool b) j p] pos) (TI (zz Y X) (mIsB yes b ma)) :=
  pe_weak (pe_cmpR (op_isBl yes) ha pe_bl (by cases yes <;> exact nomark _)) fun σ H Q ⟨ρ, h, sg, s, o⟩ => ti_go s o.bind fun d1 h1 ρ1 H1 st1 s1 k1 v1 r1 => by
    cases r1 with
    | bl c => exact ⟨c, b, rfl, rfl, ti_ok s1 (.bl _) k1⟩
    | _ => exact (show False from k1).elim
theorem t_isB (yes b : Bool) {j : Nat} {p : Pos} (ha : PE X a (TI (zz Y X) ma)) : PT X (.Compare a [opN yes] [.Constant (.bool b) j p] pos) (TTI (zz Y X) (mIsB yes b ma)) :=
  pt_weak (pt_cmpR (op_isBl yes) ha pe_bl (by cases yes <;> exact nomark _)) fun σ H Q ⟨ρ, h, sg, s, o⟩ => ti_go s o.bind fun d1 h1 ρ1 H1 st1 s1 k1 v1 r1 => by
    cases r1 with
    | bl c =>
      obtain ⟨b', e, q⟩ := Out.ok s1.sim k1
      cases e
      exact ⟨c, b, rfl, rfl, _, rfl, q⟩
    | _ => exact (show False from k1).elim
/-- a value as a test -/
theorem t_val (ha : PE X a (TI (zz Y X) ma)) (he : ∀ whole, isTrue a X.env whole = (do let v ← whole; standAt a.pos; holding [v] (truthy v))) : PT X a (TTI (zz Y X) ma) :=
  pt_weak (pt_val ha he) fun σ H Q x => ti_tt x

/-! ### and, or, not -/
def mNot (ma : Vars → M → R D) (sg : Vars) (h : M) : R D := (ma sg h).bind fun x h1 => match x with
  | .bl b => .ok (.bl (!b)) h1
  | _ => .no
theorem s_not (ha : PE X a (TI (zz Y X) ma)) : PE X (.UnaryOp .Not a pos) (TI (zz Y X) (mNot ma)) :=
  pe_weak (pe_not ha) fun σ H Q ⟨ρ, h, sg, s, o⟩ => ti_go s o.bind fun d1 h1 ρ1 H1 st1 s1 k1 v1 r1 => by
    cases r1 with
    | bl b => exact ⟨b, rfl, ti_ok s1 (.bl _) k1⟩
    | _ => exact (show False from k1).elim
theorem t_not (ha : PT X a (TTI (zz Y X) ma)) : PT X (.UnaryOp .Not a pos) (TTI (zz Y X) (mNot ma)) :=
  pt_weak (pt_not ha) fun σ H Q ⟨ρ, h, sg, s, o⟩ => tti_go s o.bind fun d1 h1 ρ1 H1 st1 s1 k1 => by
    cases d1 with
    | bl b =>
      obtain ⟨b', e, q⟩ := Out.ok s1.sim k1
      cases e
      exact ⟨b, rfl, q⟩
    | _ => exact (show False from k1).elim
def mAnd (ma mb : Vars → M → R D) (sg : Vars) (h : M) : R D := (ma sg h).bind fun x h1 => match x with
  | .bl true => mb sg h1
  | .bl false => .ok (.bl false) h1
  | _ => .no
def mOr (ma mb : Vars → M → R D) (sg : Vars) (h : M) : R D := (ma sg h).bind fun x h1 => match x with
  | .bl false => mb sg h1
  | .bl true => .ok (.bl true) h1
  | _ => .no
variable {rest : List Expr}
theorem s_and (ha : PE X a (TI (zz Y X) ma)) (hb : PE X (.BoolOp .And (b :: rest) pos) (TI (zz Y X) mb)) : PE X (.BoolOp .And (a :: b :: rest) pos) (TI (zz Y X) (mAnd ma mb)) :=
  pe_weak (pe_and ha hb) fun σ H Q ⟨ρ, h, sg, s, o⟩ => ti_go s o.bind fun d1 h1 ρ1 H1 st1 s1 k1 v1 r1 => by
    cases r1 with
    | bl b =>
      refine ⟨b, rfl, ?_⟩
      cases b with
      | true => exact ⟨ρ1, h1, sg, s1, k1⟩
      | false => exact ti_ok s1 (.bl _) k1
    | _ => exact (show False from k1).elim
theorem s_or (ha : PE X a (TI (zz Y X) ma)) (hb : PE X (.BoolOp .Or (b :: rest) pos) (TI (zz Y X) mb)) : PE X (.BoolOp .Or (a :: b :: rest) pos) (TI (zz Y X) (mOr ma mb)) :=
  pe_weak (pe_or ha hb) fun σ H Q ⟨ρ, h, sg, s, o⟩ => ti_go s o.bind fun d1 h1 ρ1 H1 st1 s1 k1 v1 r1 => by
    cases r1 with
    | bl b =>
      refine ⟨b, rfl, ?_⟩
      cases b with
      | false => exact ⟨ρ1, h1, sg, s1, k1⟩
      | true => exact ti_ok s1 (.bl _) k1
    | _ => exact (show False from k1).elim
theorem w_and (ha : PT X a (TTI (zz Y X) ma)) (hb : PW X (.BoolOp .And (b :: rest) pos) (TTI (zz Y X) mb)) : PW X (.BoolOp .And (a :: b :: rest) pos) (TTI (zz Y X) (mAnd ma mb)) := by
  refine ⟨fun wh pins s0 σ H Q I x => (pw_and ha hb).run wh pins s0 σ H Q I ?_⟩
  obtain ⟨ρ, h, sg, s, o⟩ := x
  exact tti_go s o.bind fun d1 h1 ρ1 H1 st1 s1 k1 => by
    cases d1 with
    | bl b =>
      refine ⟨b, rfl, ?_⟩
      cases b with
      | true => exact ⟨ρ1, h1, sg, s1, k1⟩
      | false =>
        obtain ⟨b', e, q⟩ := Out.ok s1.sim k1
        cases e
        exact q
    | _ => exact (show False from k1).elim
theorem w_or (ha : PT X a (TTI (zz Y X) ma)) (hb : PW X (.BoolOp .Or (b :: rest) pos) (TTI (zz Y X) mb)) : PW X (.BoolOp .Or (a :: b :: rest) pos) (TTI (zz Y X) (mOr ma mb)) := by
  refine ⟨fun wh pins s0 σ H Q I x => (pw_or ha hb).run wh pins s0 σ H Q I ?_⟩
  obtain ⟨ρ, h, sg, s, o⟩ := x
  exact tti_go s o.bind fun d1 h1 ρ1 H1 st1 s1 k1 => by
    cases d1 with
    | bl b =>
      refine ⟨b, rfl, ?_⟩
      cases b with
      | false => exact ⟨ρ1, h1, sg, s1, k1⟩
      | true =>
        obtain ⟨b', e, q⟩ := Out.ok s1.sim k1
        cases e
        exact q
    | _ => exact (show False from k1).elim
def mIf (mc ma mb : Vars → M → R D) (sg : Vars) (h : M) : R D := (mc sg h).bind fun x h1 => match x with
  | .bl true => ma sg h1
  | .bl false => mb sg h1
  | _ => .no
theorem s_ife (hc : PT X c (TTI (zz Y X) mc)) (ha : PE X a (TI (zz Y X) ma)) (hb : PE X b (TI (zz Y X) mb)) : PE X (.IfExp c a b pos) (TI (zz Y X) (mIf mc ma mb)) :=
  pe_weak (pe_ifExp hc ha hb) fun σ H Q ⟨ρ, h, sg, s, o⟩ => tti_go s o.bind fun d1 h1 ρ1 H1 st1 s1 k1 => by
    cases d1 with
    | bl b =>
      refine ⟨b, rfl, ?_⟩
      cases b with
      | true => exact ⟨ρ1, h1, sg, s1, k1⟩
      | false => exact ⟨ρ1, h1, sg, s1, k1⟩
    | _ => exact (show False from k1).elim

/-! ### argument lists, displays -/
variable {es : List Expr} {mas : Vars → M → R (List D)}
def mNil (_ : Vars) (h : M) : R (List D) := .ok [] h
def mCons (ma : Vars → M → R D) (mas : Vars → M → R (List D)) (sg : Vars) (h : M) : R (List D) := (ma sg h).bind fun x h1 => (mas sg h1).bind fun xs h2 => .ok (x :: xs) h2
theorem a_nil : PA X [] (TAI (zz Y X) mNil) := pa_weak pa_nil fun σ H Q ⟨ρ, h, sg, s, o⟩ => Out.ok s.sim o _ .nil
theorem a_cons (ha : PE X a (TI (zz Y X) ma)) (hr : PA X es (TAI (zz Y X) mas)) (hs : starEach (a :: es) X.env = (false, eval a X.env) :: starEach es X.env) : PA X (a :: es) (TAI (zz Y X) (mCons ma mas)) :=
  pa_weak (pa_cons ha hr hs) fun σ H Q ⟨ρ, h, sg, s, o⟩ => ti_go s o.bind fun d1 h1 ρ1 H1 st1 s1 k1 v1 r1 => tai_go s1 (Out.bind k1) fun ds h2 ρ2 H2 st2 s2 k2 vs r2 => Out.ok s2.sim k2 _ (.cons (r1.mono st2) r2)
def mTup (mas : Vars → M → R (List D)) (sg : Vars) (h : M) : R D := (mas sg h).bind fun xs h1 => .ok (.tup xs) h1
def mLst (mas : Vars → M → R (List D)) (sg : Vars) (h : M) : R D := (mas sg h).bind fun xs h1 => alloc h1 (.lst xs)
def Few (mas : Vars → M → R (List D)) : Prop := ∀ sg h ds h', mas sg h = .ok ds h' → ds.length ≤ 1000
theorem few_out {α : Type} {G : Glo} {K : Fr} {W : WX} {ρ : List Addr} {H : Hp} {σ : L2.St} {r : R α} {k : α → M → List Addr → Hp → Prop} (o : Out G K W ρ H σ r k) : Out G K W ρ H σ r fun a h' ρ' H' => r = .ok a h' ∧ k a h' ρ' H' := by
  cases r with
  | ok a h1 => exact fun ρ1 H1 s1 m1 => ⟨rfl, o ρ1 H1 s1 m1⟩
  | exc c fs h1 => exact o
  | no => exact o
theorem s_tup {x1 : Nat} (ha : PA X es (TAI (zz Y X) mas)) (hf : Few mas) : PE X (.Tuple es x1 pos) (TI (zz Y X) (mTup mas)) :=
  pe_weak (pe_tup ha) fun σ H Q ⟨ρ, h, sg, s, o⟩ => tai_go s (few_out o.bind) fun ds h1 ρ1 H1 st1 s1 k1 vs r1 => by
    obtain ⟨e, k1⟩ := k1
    have hl := hf _ _ _ _ e
    rw [r1.length] at hl
    exact ⟨Nat.le_trans hl (by decide), fun p hp => new_tup (X := X) s1.sim r1 hp k1⟩
theorem s_lst (ha : PA X es (TAI (zz Y X) mas)) (hf : Few mas) : PE X (.List es pos) (TI (zz Y X) (mLst mas)) :=
  pe_weak (pe_lst ha) fun σ H Q ⟨ρ, h, sg, s, o⟩ => tai_go s (few_out o.bind) fun ds h1 ρ1 H1 st1 s1 k1 vs r1 => by
    obtain ⟨e, k1⟩ := k1
    have hl := hf _ _ _ _ e
    rw [r1.length] at hl
    exact ⟨Nat.le_trans hl (by decide), fun p hp => alloc_lst (X := X) s1.sim r1 hp k1⟩
def mIdx (ma mb : Vars → M → R D) (sg : Vars) (h : M) : R D := (ma sg h).bind fun x h1 => (mb sg h1).bind fun y h2 => index x y h2
theorem s_idx (ha : PE X a (TI (zz Y X) ma)) (hb : PE X b (TI (zz Y X) mb)) (hp : PlainIx b) : PE X (.Subscript a b pos) (TI (zz Y X) (mIdx ma mb)) :=
  pe_weak (pe_ix (ix_all (G := Y.G)) ha hb hp) fun σ H Q ⟨ρ, h, sg, s, o⟩ => ti_go s o.bind fun d1 h1 ρ1 H1 st1 s1 k1 v1 r1 => ti_go s1 (Out.bind k1) fun d2 h2 ρ2 H2 st2 s2 k2 v2 r2 =>
    ⟨ρ2, h2, d1, d2, _, _, s2.sim, r1.mono st2, r2, k2⟩
/-- a slice's part -/
def TOI (Z : Zz) (m : Vars → M → R (Option D)) : TO := fun σ H Q => ∃ ρ h sg, St Z ρ h sg σ H ∧ Out Z.G Z.K Z.W ρ H σ (m sg h) fun d _ ρ' H' => ∃ o, optI d = some o ∧ Q o H'
variable {ml mu : Vars → M → R (Option D)} {lo hi : Option Expr}
def mONone (_ : Vars) (h : M) : R (Option D) := .ok none h
def mOSome (ma : Vars → M → R D) (sg : Vars) (h : M) : R (Option D) := (ma sg h).bind fun x h1 => match x with
    | .int i => .ok (some (.int i)) h1
    | _ => .no
theorem o_none : PO X none (TOI (zz Y X) mONone) := ⟨fun pins s0 σ H Q I ⟨ρ, h, sg, s, o⟩ => po_none.run pins s0 σ H Q I (by
  obtain ⟨o', e, q⟩ := Out.ok s.sim o
  cases e
  exact q)⟩
theorem o_some (ha : PE X a (TI (zz Y X) ma)) : PO X (some a) (TOI (zz Y X) (mOSome ma)) := ⟨fun pins s0 σ H Q I ⟨ρ, h, sg, s, o⟩ => (po_some ha).run pins s0 σ H Q I (ti_go s o.bind fun d1 h1 ρ1 H1 st1 s1 k1 v1 r1 => by
  cases r1 with
  | int i =>
    obtain ⟨o', e, q⟩ := Out.ok s1.sim k1
    cases e
    exact ⟨i, rfl, q⟩
  | _ => exact (show False from k1).elim)⟩
def mSlc (ma : Vars → M → R D) (ml mu : Vars → M → R (Option D)) (sg : Vars) (h : M) : R D := (ma sg h).bind fun x h1 => (ml sg h1).bind fun l h2 => (mu sg h2).bind fun u h3 => slice x l u h3
theorem slice_opt {x : D} {l u : Option D} {h : M} (hx : slice x l u h ≠ .no) : (∃ o, optI l = some o) ∧ ∃ o, optI u = some o := by
  unfold slice at hx
  cases e1 : optI l with
  | none => rw [e1] at hx; exact absurd rfl hx
  | some a =>
    cases e2 : optI u with
    | none => rw [e1, e2] at hx; exact absurd rfl hx
    | some b => exact ⟨⟨a, rfl⟩, ⟨b, rfl⟩⟩
theorem s_slc {p2 : Pos} (ha : PE X a (TI (zz Y X) ma)) (hl : PO X lo (TOI (zz Y X) ml)) (hh : PO X hi (TOI (zz Y X) mu))
    (ol : ∀ sg h d h', ml sg h = .ok d h' → ∃ o, optI d = some o) (ou : ∀ sg h d h', mu sg h = .ok d h' → ∃ o, optI d = some o) : PE X (.Subscript a (.Slice lo hi none p2) pos) (TI (zz Y X) (mSlc ma ml mu)) :=
  pe_weak (pe_slice (sl_all (G := Y.G)) ha hl hh) fun σ H Q ⟨ρ, h, sg, s, o⟩ => ti_go s o.bind fun d1 h1 ρ1 H1 st1 s1 k1 v1 r1 =>
    ⟨ρ1, h1, sg, s1, (few_out (Out.bind k1)).imp fun l h2 ρ2 H2 st2 sm2 ⟨el, k2⟩ => by
      obtain ⟨lo', e1⟩ := ol _ _ _ _ el
      refine ⟨lo', e1, ρ2, h2, sg, s1.go st2 sm2, (few_out (Out.bind k2)).imp fun u h3 ρ3 H3 st3 sm3 ⟨eu, k3⟩ => ?_⟩
      obtain ⟨hi', e2⟩ := ou _ _ _ _ eu
      exact ⟨hi', e2, ρ3, h3, d1, l, u, _, _, sm3, r1.mono (st2.trans st3), e1, e2, k3⟩⟩
/-! ### built-in functions -/
variable {x : Str} {p : Pos}
def mBlt (f : BF) (mas : Vars → M → R (List D)) (sg : Vars) (h : M) : R D := (mas sg h).bind fun xs h1 => bcall f xs h1
def bfN : BF → Str
  | .len => "len" | .min => "min" | .max => "max" | .divmod => "divmod" | .int => "int" | .list => "list" | .tuple => "tuple"
theorem s_blt (f : BF) (hc : X.calm = true) (hg : Gl X (bfN f)) (hm : X.mg (bfN f) = none) (ha : PA X (a :: es) (TAI (zz Y X) mas)) (he : starEach (a :: es) X.env = (false, eval a X.env) :: starEach es X.env) (hpl : (backTo pos (starEach es X.env)).any (·.1) = false) :
    PE X (.Call (.Name (bfN f) p) (a :: es) [] pos) (TI (zz Y X) (mBlt f mas)) := by
  have hh := call_bf (G := Y.G) hc f
  have go : ∀ σ H Q, TI (zz Y X) (mBlt f mas) σ H Q → tCB (RL Y.G X.K (bcall f)) (TAI (zz Y X) mas) σ H Q := fun σ H Q ⟨ρ, h, sg, s, o⟩ => tai_go s o.bind fun ds h1 ρ1 H1 st1 s1 k1 vs r1 => ⟨ρ1, h1, ds, _, _, s1.sim, r1, k1⟩
  cases f with
  | len => exact pe_weak (pe_callB hh hg hm (by decide +kernel) ha (by decide +kernel) (by decide +kernel) he hpl) go
  | min => exact pe_weak (pe_callB hh hg hm (by decide +kernel) ha (by decide +kernel) (by decide +kernel) he hpl) go
  | max => exact pe_weak (pe_callB hh hg hm (by decide +kernel) ha (by decide +kernel) (by decide +kernel) he hpl) go
  | divmod => exact pe_weak (pe_callB hh hg hm (by decide +kernel) ha (by decide +kernel) (by decide +kernel) he hpl) go
  | int => exact pe_weak (pe_callTy hh hg hm (by decide +kernel) ha (by decide +kernel) (by decide +kernel) he hpl) go
  | list => exact pe_weak (pe_callTy hh hg hm (by decide +kernel) ha (by decide +kernel) (by decide +kernel) he hpl) go
  | tuple => exact pe_weak (pe_callTy hh hg hm (by decide +kernel) ha (by decide +kernel) (by decide +kernel) he hpl) go
end
end Rm

/- RmF: isinstance, fields, methods of lists, calls, instances, comprehensions. -/
namespace Rm
open PySem PySem.Spec L2

/-! ### plain arguments -/
def plainE : Expr → Bool
  | .Starred _ _ => false
  | .Set _ _ _ => false
  | .Slice _ _ _ _ => false
  | .Call (.Name x _) [] [] _ => !(x == ("super" : Str))
  | _ => true
theorem star_plain {e : Expr} {es : List Expr} {env : PySem.Env} (h : plainE e = true) : starEach (e :: es) env = (false, eval e env) :: starEach es env := by
  cases e <;> first | rfl | cases h
theorem star_any {pos : Pos} {env : PySem.Env} : ∀ {es : List Expr}, es.all plainE = true → (backTo pos (starEach es env)).any (·.1) = false
  | [], _ => rfl
  | e :: es, h => by
    rw [List.all_cons, Bool.and_eq_true] at h
    rw [star_plain h.1]
    show (false || (backTo pos (starEach es env)).any (·.1)) = false
    rw [star_any h.2] <;> rfl
theorem star_all {pos : Pos} {env : PySem.Env} : ∀ {es : List Expr}, es.all plainE = true → (backTo pos (starEach es env)).all (fun x => !x.1) = true
  | [], _ => rfl
  | e :: es, h => by
    rw [List.all_cons, Bool.and_eq_true] at h
    rw [star_plain h.1]
    show (true && (backTo pos (starEach es env)).all (fun x => !x.1)) = true
    rw [star_all h.2] <;> rfl
theorem attr_plain {o : Expr} {f : Str} {env : PySem.Env} (h : plainE o = true) : attributeBase o f env (eval o env) = eval o env := by
  unfold attributeBase
  split
  · rename_i id p pos
    have h1 : (!(id == ("super" : Str))) = true := h
    have h2 : (id != ("super" : Str)) = true := h1
    simp only [h2, Bool.true_or, if_true]
  · rfl
theorem mark_plain {op : CmpOp} {b : Expr} (h : plainE b = true) : behindInMarks op b = false := by
  cases b <;> first | rfl | cases h
theorem plain_ix {b : Expr} (h : plainE b = true) : PlainIx b := by
  intro o i
  cases b <;> first | rfl | cases h
theorem fold_plain {e : Expr} {env : PySem.Env} (h : plainE e = true) : ∀ x, foldedSetIterable e env x = pure x := by
  intro x
  cases e <;> first | rfl | cases h
theorem tree_meth {o : Expr} {m : Str} {apos pos : Pos} {args : List Expr} {env : PySem.Env} (ho : plainE o = true) (ha : args.all plainE = true) (hn : args.length < 30) (hl : (apos.endLine == pos.line) = true) :
    eval (.Call (.Attribute o m apos) args [] pos) env = (do
      let ov ← eval o env
      standAt apos.atName
      let (f, first) ← holding [ov] (getMethod ov m (plainOf o env))
      callWith pos f first (backTo pos (starEach args env)) (backToKw pos (keywordEach [] env))) := by
  show (do
    let ov ← attributeBase o m env (eval o env)
    standAt apos.atName
    methodCall o m apos pos env ov (args.length + 0) (backTo pos (starEach args env)) (backToKw pos (keywordEach [] env))) = _
  rw [attr_plain ho]
  have hf : methodCallForm (args.length + 0) (backTo pos (starEach args env)) (backToKw pos (keywordEach [] env)) = true := by
    unfold methodCallForm
    rw [star_all ha]
    show (true && true && decide (args.length + 0 + 0 < 30)) = true
    rw [decide_eq_true (by omega)] <;> rfl
  congr 1
  funext ov
  congr 1
  funext _
  exact mcall_line hf hl

/-! ### what the text says of defs and classes -/
/-- how defs stand in the model -/
structure Tab where
  fd : Nat → FuncData
  ps : Nat → List Str
structure GOk (G : Glo) (P : Prog) (T : Tab) (K : Fr) (mg : Str → Option Value) : Prop where
  fnd : G.flds.Nodup
  dis : ∀ m, m ∈ G.mths → m ∉ G.flds
  fn : ∀ x f, (x, f) ∈ G.fns → mg x = some (.ref (G.fa f)) ∧ PySem.W.keepIn K (.ref (G.fa f)) = true
  bind : ∀ f fd, P.fn f = some fd → (T.ps f).length = fd.arity ∧ ∀ j, j ≤ fd.dfl.length → ∃ dvs ds, Vals dvs ds ∧ Binds K (T.fd f) (T.ps f) ds ∧ ∀ ρ H, Rels K ρ H (fd.dfl.drop j) dvs
  cls : ∀ x c, (x, c) ∈ G.clss → mg x = some (.ref (G.ca c)) ∧ Cls K (G.ca c) ∧ PySem.W.keepIn K (.ref (G.ca c)) = true ∧ ∀ f, f ∈ G.flds → NoAttr K (G.ca c) f
  mt : ∀ x c m mn f, (x, c) ∈ G.clss → P.mt c m = some f → G.mths[m]? = some mn → Meth K (G.ca c) mn (G.fa f)
  ini : ∀ x c f, (x, c) ∈ G.clss → P.ini c = some f → Mk K (G.ca c) (G.fa f)
  blt : ∀ x, x ∈ G.blts → mg x = none
  con : ∀ x d, (x, d) ∈ G.cons → ∃ u v, mg x = some u ∧ RelV v u ∧ ∀ ρ H, Rel K ρ H d v
/-- a call's promise -/
def spI (G : Glo) (P : Prog) (w : Nat) (K : Fr) (n f : Nat) (ar : Nat) : Sp := fun vs H Q E => vs.length = ar ∧ ∃ ρ h ds, Sim G K ρ h H ∧ Rels K ρ H ds vs ∧
  Out G K (fun cls d _ H' => E cls d H') ρ H [] (callN P w n f ds h) fun d _ ρ' H' => ∀ v, Rel K ρ' H' d v → Q v H'
def FH (G : Glo) (P : Prog) (T : Tab) (w n : Nat) (prog : Program) (wd : World) (K : Fr) (mg : Str → Option Value) (base : Heap) : Prop :=
  ∀ f fd, P.fn f = some fd → FnOk prog wd K mg base (L2.CX prog wd) (2 * n + 2) (G.fa f) (T.fd f) (T.ps f) (spI G P w K n f fd.arity)
theorem callN_pad {P : Prog} {w n f : Nat} {fd : FnD} {xs : List D} {h : M} (e : P.fn f = some fd) (hl : xs.length ≤ fd.arity) (hd : fd.arity ≤ xs.length + fd.dfl.length) :
    callN P w n f (xs ++ fd.dfl.drop (xs.length + fd.dfl.length - fd.arity)) h = callN P w n f xs h := by
  cases n with
  | zero => rfl
  | succ n =>
    have l2 : (xs ++ fd.dfl.drop (xs.length + fd.dfl.length - fd.arity)).length = fd.arity := by
      rw [List.length_append, List.length_drop]
      omega
    unfold callN
    rw [e]
    simp only
    have c1 : (xs ++ fd.dfl.drop (xs.length + fd.dfl.length - fd.arity)).length ≤ fd.arity ∧ fd.arity ≤ (xs ++ fd.dfl.drop (xs.length + fd.dfl.length - fd.arity)).length + fd.dfl.length := by
      rw [l2]
      omega
    have c2 : xs.length ≤ fd.arity ∧ fd.arity ≤ xs.length + fd.dfl.length := ⟨hl, hd⟩
    rw [if_pos c1, if_pos c2, l2]
    have e2 : fd.arity + fd.dfl.length - fd.arity = fd.dfl.length := by omega
    rw [e2, List.drop_length, List.append_nil]
theorem callN_len {P : Prog} {w n f : Nat} {fd : FnD} {xs : List D} {h : M} (e : P.fn f = some fd) (hx : callN P w n f xs h ≠ .no) : xs.length ≤ fd.arity ∧ fd.arity ≤ xs.length + fd.dfl.length := by
  cases n with
  | zero => exact absurd rfl hx
  | succ n =>
    by_cases c : xs.length ≤ fd.arity ∧ fd.arity ≤ xs.length + fd.dfl.length
    · exact c
    · unfold callN at hx
      rw [e] at hx
      simp only [if_neg c] at hx
      exact absurd rfl hx
theorem callN_fn {P : Prog} {w n f : Nat} {xs : List D} {h : M} (hx : callN P w n f xs h ≠ .no) : ∃ fd, P.fn f = some fd := by
  cases e : P.fn f with
  | some fd => exact ⟨fd, rfl⟩
  | none =>
    cases n with
    | zero => exact absurd rfl hx
    | succ n =>
      unfold callN at hx
      rw [e] at hx
      exact absurd rfl hx
theorem Out.yes {α : Type} {G : Glo} {K : Fr} {W : WX} {ρ : List Addr} {H : Hp} {σ : L2.St} {r : R α} {k : α → M → List Addr → Hp → Prop} (o : Out G K W ρ H σ r k) : r ≠ .no := by
  intro e
  rw [e] at o
  exact o
/-- another wish about exceptions, other slots -/
theorem Out.wish {α : Type} {G : Glo} {K : Fr} {W W' : WX} {ρ : List Addr} {H : Hp} {σ σ' : L2.St} {r : R α} {k : α → M → List Addr → Hp → Prop} (o : Out G K W ρ H σ r k) (i : ∀ cls d H', W cls d σ H' → W' cls d σ' H') : Out G K W' ρ H σ' r k := by
  cases r with
  | ok a h1 => exact o
  | exc c fs h1 => exact fun ρ1 H1 cls d s1 m1 x => i _ _ _ (o ρ1 H1 cls d s1 m1 x)
  | no => exact o
/-! ### the context of a def's text -/
structure Sta where
  N : List Str
  sc : Scope
  calm : Bool
  blk : Bool
  fn : Str → Bool
structure Cxt (G : Glo) (P : Prog) (T : Tab) (w n : Nat) (cu : Option (Nat × List (Nat × D))) (U : Value × Option Addr) (t : Sta) (X : Cx) (W : WX) : Prop where
  gk : GOk G P T X.K X.mg
  fh : FH G P T w n X.prog X.w X.K X.mg X.base
  hN : X.N = t.N
  nd : t.N.Nodup
  hsc : X.env.scope = t.sc
  hc : t.calm = true → X.calm = true
  room : t.calm = true → Room (2 * n + 3) X.A
  un : X.A.units + 64 < cLine
  tk : Takes X W
  hfn : X.fn = t.fn
  po : t.blk = false → PassesOwn (model X.prog X.w) X.A X.env X.xe
abbrev gam (P : Prog) (w n : Nat) (cu : Option (Nat × List (Nat × D))) : Env := { P := P, F := callN P w n, w := w, cu := cu }
section
variable {G : Glo} {P : Prog} {T : Tab} {w n : Nat} {cu : Option (Nat × List (Nat × D))} {U : Value × Option Addr} {t : Sta} {X : Cx} {W : WX} {pos p : Pos} {x : Str}
  {a : Expr} {es : List Expr} {ma : Vars → M → R D} {mas : Vars → M → R (List D)}
/-- a def is called with values -/
theorem run_go (C : Cxt G P T w n cu U t X W) (hcalm : t.calm = true) {f : Nat} {pins : List (Addr × Obj)} {s0 : Shared} {σ : L2.St} {H : Hp} {Q : VK} {ρ : List Addr} {h : M} {sg : Vars} {ds : List D} {vs : List V} {us : List Value} (I : Inv X pins σ H s0)
    (s : St (zz ⟨G, cu, U, W⟩ X) ρ h sg σ H) (r : Rels X.K ρ H ds vs) (rv : Vals vs us) (o : Out G X.K W ρ H σ (callN P w n f ds h) fun d _ ρ' H' => ∀ v, Rel X.K ρ' H' d v → Q v H') :
    wpAny (model X.prog X.w) X.A (call (.ref (G.fa f)) us) (EP X pins σ Q) X.xe s0 := by
  obtain ⟨fd, e⟩ := callN_fn o.yes
  obtain ⟨l1, l2⟩ := callN_len e o.yes
  obtain ⟨hp, hb⟩ := C.gk.bind f fd e
  obtain ⟨dvs, dus, rd, bd, rr⟩ := hb (ds.length + fd.dfl.length - fd.arity) (by omega)
  have r2 := r.append (rr ρ H)
  have hl : (vs ++ dvs).length = fd.arity := by
    rw [← r2.length, List.length_append, List.length_drop]
    omega
  have r3 : Vals (vs ++ dvs) (us ++ dus) := rv.append rd
  have hl2 : (us ++ dus).length = (T.ps f).length := by rw [← r3.length, hl, hp]
  have F := C.fh f fd e
  have hs : spI G P w X.K n f fd.arity (vs ++ dvs) H Q fun cls d H' => W cls d σ H' := by
    refine ⟨hl, ρ, h, _, s.sim, r2, ?_⟩
    rw [callN_pad e l1 l2]
    exact o.wish fun cls d H' x => x
  refine wpAny_call (codeAny_mono (F.run X.A X.stack s0 H ⟨us, []⟩ (us ++ dus) (vs ++ dvs) Q (fun cls d H' => W cls d σ H') ((C.room hcalm).mono (by omega)) I.env0 (bd s0 us I.kIn hl2) r3 hs) fun r s' hq => ?_)
  cases r with
  | error er => exact C.tk _ _ (XE.of_call I (fun cls d H' x => x) hq)
  | ok fl =>
    cases fl with
    | ret u => exact I.after hq
    | next => exact False.elim hq
    | brk => exact False.elim hq
    | cont => exact False.elim hq
def mCall (P : Prog) (w n f : Nat) (mas : Vars → M → R (List D)) (sg : Vars) (h : M) : R D := (mas sg h).bind fun xs h1 => callN P w n f xs h1
theorem s_call (C : Cxt G P T w n cu U t X W) (hcalm : t.calm = true) {f : Nat} (hf : (x, f) ∈ G.fns) (hg : Gl X x) (hdb : (x == ("__debug__" : Str)) = false) (ha : PA X (a :: es) (TAI (zz ⟨G, cu, U, W⟩ X) mas)) (hp : (a :: es).all plainE = true) :
    PE X (.Call (.Name x p) (a :: es) [] pos) (TI (zz ⟨G, cu, U, W⟩ X) (mCall P w n f mas)) := by
  obtain ⟨hm, hk⟩ := C.gk.fn x f hf
  refine ⟨fun pins s0 σ H Q I ⟨ρ, h, sg, s, o⟩ => ?_⟩
  refine wpAny_Call_Name_kw (ld_glob I hg hm ?_ hdb)
  have key := ha.run pos pins s0 σ H (fun vs H1 => ∃ ρ1 h1 ds, St (zz ⟨G, cu, U, W⟩ X) ρ1 h1 sg σ H1 ∧ Rels X.K ρ1 H1 ds vs ∧ Out G X.K W ρ1 H1 σ (callN P w n f ds h1) fun d _ ρ' H' => ∀ v, Rel X.K ρ' H' d v → Q v H') I
    (tai_go s o.bind fun ds h1 ρ1 H1 st1 s1 k1 vs r1 => ⟨ρ1, h1, ds, s1, r1, k1⟩)
  rw [List.all_cons, Bool.and_eq_true] at hp
  refine PySem.W.callWith_K (h₀ := X.base) I.ok.mod.kin hk (thn key fun us s1 ⟨vs, H1, I1, rv, ρ1, h1, ds, s1', r1, k1⟩ => ⟨I1.kIn, ?_⟩) (star_plain hp.1) (star_any hp.2)
  exact run_go C hcalm I1 s1' r1 rv k1
theorem s_call0 (C : Cxt G P T w n cu U t X W) (hcalm : t.calm = true) {f : Nat} (hf : (x, f) ∈ G.fns) (hg : Gl X x) (hdb : (x == ("__debug__" : Str)) = false) :
    PE X (.Call (.Name x p) [] [] pos) (TI (zz ⟨G, cu, U, W⟩ X) (mCall P w n f mNil)) := by
  obtain ⟨hm, hk⟩ := C.gk.fn x f hf
  refine ⟨fun pins s0 σ H Q I ⟨ρ, h, sg, s, o⟩ => ?_⟩
  refine wpAny_Call_Name_kw (ld_glob I hg hm ?_ hdb)
  exact PySem.W.callWith_K0 I.kIn hk (run_go (us := []) C hcalm I s .nil .nil o)
/-! ### methods -/
def mMeth (P : Prog) (w n m : Nat) (mo : Vars → M → R D) (mas : Vars → M → R (List D)) (sg : Vars) (h : M) : R D := (mo sg h).bind fun x h1 => match x with
  | .ref p => (match h1[p]? with
    | some (.ins c _) => (match P.mt c m with
      | some f => (mas sg h1).bind fun xs h2 => callN P w n f (.ref p :: xs) h2
      | none => .no)
    | _ => .no)
  | _ => .no
theorem FRel.look {G : Glo} {K : Fr} {ρ : List Addr} {H : Hp} (nd : G.flds.Nodup) {f : Nat} {nm : Str} (hn : G.flds[f]? = some nm) : ∀ {fs : List (Nat × D)} {gs : List (Str × V)}, FRel G K ρ H fs gs →
    (∀ d, fget f fs = some d → ∃ v, gs.lookup nm = some v ∧ Rel K ρ H d v) ∧ (fget f fs = none → gs.lookup nm = none)
  | _, _, .nil => ⟨fun d e => (by cases e), fun _ => rfl⟩
  | _, _, .cons (f := g) (n := gn) (d := d0) (v := v0) (fs := fs) (gs := gs) h r q => by
    have ih := FRel.look nd hn q
    by_cases e : g = f
    · subst e
      rw [hn] at h
      cases h
      refine ⟨fun d e => ?_, fun e => ?_⟩
      · have e : (if g = g then some d0 else fget g fs) = some d := e
        rw [if_pos rfl] at e
        cases e
        exact ⟨v0, by simp [List.lookup], r⟩
      · have e : (if g = g then some d0 else fget g fs) = none := e
        rw [if_pos rfl] at e
        cases e
    · have ne : nm ≠ gn := fun z => by
        subst z
        exact e (nd_at nd h hn)
      have hb : (nm == gn) = false := beq_eq_false_iff_ne.mpr ne
      refine ⟨fun d e' => ?_, fun e' => ?_⟩
      · have e' : (if g = f then some d0 else fget f fs) = some d := e'
        rw [if_neg e] at e'
        obtain ⟨v, h1, h2⟩ := ih.1 d e'
        exact ⟨v, by rw [List.lookup_cons, hb]; exact h1, h2⟩
      · have e' : (if g = f then some d0 else fget f fs) = none := e'
        rw [if_neg e] at e'
        rw [List.lookup_cons, hb]
        exact ih.2 e'
theorem FRel.notin {G : Glo} {K : Fr} {ρ : List Addr} {H : Hp} {nm : Str} (hn : nm ∉ G.flds) : ∀ {fs : List (Nat × D)} {gs : List (Str × V)}, FRel G K ρ H fs gs → gs.lookup nm = none
  | _, _, .nil => rfl
  | _, _, .cons (n := gn) h r q => by
    have ne : nm ≠ gn := fun z => by
      subst z
      exact hn (List.mem_of_getElem? h)
    have hb : (nm == gn) = false := beq_eq_false_iff_ne.mpr ne
    rw [List.lookup_cons, hb]
    exact FRel.notin hn q
variable {o : Expr} {mo : Vars → M → R D} {apos : Pos}
theorem meth_go (C : Cxt G P T w n cu U t X W) {m : Nat} {mn : Str} (hm : G.mths[m]? = some mn) {σ : L2.St} {H : Hp} {ρ : List Addr} {h : M} {sg : Vars} {d : D} {v : V} {k : Kt} (s : St (zz ⟨G, cu, U, W⟩ X) ρ h sg σ H) (r : Rel X.K ρ H d v)
    (o : Out G X.K W ρ H σ (match (generalizing := false) d with
      | .ref p => (match h[p]? with
        | some (.ins c _) => (match P.mt c m with
          | some f => (mas sg h).bind fun xs h2 => callN P w n f (.ref p :: xs) h2
          | none => .no)
        | _ => .no)
      | _ => (.no : R D)) k) :
    ∃ p a c dx gs f, d = .ref p ∧ v = .ref a ∧ ρ[p]? = some a ∧ H a = some (.ins (G.ca c) dx gs) ∧ Cls X.K (G.ca c) ∧ Meth X.K (G.ca c) mn (G.fa f) ∧ gs.lookup mn = none ∧ Out G X.K W ρ H σ ((mas sg h).bind fun xs h2 => callN P w n f (.ref p :: xs) h2) k := by
  cases r with
  | @ref p a hp =>
    simp only at o
    obtain ⟨ob, eo, _⟩ := s.sim.at hp
    rw [eo] at o
    cases ob with
    | ins c fs =>
      simp only at o
      obtain ⟨dx, gs, e1, ⟨x, hx⟩, e3⟩ := s.sim.ins hp eo
      obtain ⟨_, hc, _⟩ := C.gk.cls x c hx
      cases ef : P.mt c m with
      | none => rw [ef] at o; exact (show False from o).elim
      | some f =>
        rw [ef] at o
        exact ⟨p, a, c, dx, gs, f, rfl, rfl, hp, e1, hc, C.gk.mt x c m mn f hx ef hm, e3.notin (C.gk.dis mn (List.mem_of_getElem? hm)), o⟩
    | lst xs => exact (show False from o).elim
  | _ => exact (show False from o).elim
theorem s_meth (C : Cxt G P T w n cu U t X W) (hcalm : t.calm = true) {m : Nat} {mn : Str} (hm : G.mths[m]? = some mn) (ho : PE X o (TI (zz ⟨G, cu, U, W⟩ X) mo)) (ha : PA X (a :: es) (TAI (zz ⟨G, cu, U, W⟩ X) mas)) (hpo : plainE o = true) (hp : (a :: es).all plainE = true)
    (hn : (a :: es).length < 30) (hl : (apos.endLine == pos.line) = true) : PE X (.Call (.Attribute o mn apos) (a :: es) [] pos) (TI (zz ⟨G, cu, U, W⟩ X) (mMeth P w n m mo mas)) := by
  refine ⟨fun pins s0 σ H Q I ⟨ρ, h, sg, s, oo⟩ => ?_⟩
  have ko := ho.run pins s0 σ H (fun v H1 => ∃ ρ1 h1 p a c dx gs f, St (zz ⟨G, cu, U, W⟩ X) ρ1 h1 sg σ H1 ∧ v = .ref a ∧ ρ1[p]? = some a ∧ H1 a = some (.ins (G.ca c) dx gs) ∧ Cls X.K (G.ca c) ∧ Meth X.K (G.ca c) mn (G.fa f) ∧ gs.lookup mn = none ∧
      Out G X.K W ρ1 H1 σ ((mas sg h1).bind fun xs h2 => callN P w n f (.ref p :: xs) h2) fun d _ ρ' H' => ∀ v, Rel X.K ρ' H' d v → Q v H') I
    (ti_go s oo.bind fun d h1 ρ1 H1 st1 s1 k1 v r1 => by
      obtain ⟨p, a, c, dx, gs, f, e0, e1, e2, e3, e4, e5, e6, e7⟩ := meth_go C hm s1 r1 k1
      exact ⟨ρ1, h1, p, a, c, dx, gs, f, s1, e1, e2, e3, e4, e5, e6, e7⟩)
  refine PySem.W.methodCall_KW (pl := plainOf o X.env) (thn ko fun u s1 ⟨v, H1, I1, rv, ρ1, h1, q, a', c, dx, gs, f, s1', e1, e2, e3, e4, e5, e6, e7⟩ => ?_) (tree_meth hpo hp hn hl)
  subst e1
  obtain rfl : u = Value.ref a' := rv
  refine getmeth_ok I1 e3 e4 e5 e6 ?_
  have key := ha.run pos pins s1 σ H1 (fun vs H2 => ∃ ρ2 h2 ds, St (zz ⟨G, cu, U, W⟩ X) ρ2 h2 sg σ H2 ∧ Rels X.K ρ2 H2 ds vs ∧ ρ2[q]? = some a' ∧ Out G X.K W ρ2 H2 σ (callN P w n f (.ref q :: ds) h2) fun d _ ρ' H' => ∀ v, Rel X.K ρ' H' d v → Q v H') I1
    (tai_go s1' e7.bind fun ds h2 ρ2 H2 st2 s2 k2 vs r2 => ⟨ρ2, h2, ds, s2, r2, st2.at e2, k2⟩)
  rw [List.all_cons, Bool.and_eq_true] at hp
  refine PySem.W.callWith_K (first := [.ref a']) (h₀ := X.base) I.ok.mod.kin e5.kp (thn key fun us s2 ⟨vs, H2, I2, rv2, ρ2, h2, ds, s2', r2, ea, k2⟩ => ⟨I2.kIn, ?_⟩) (star_plain hp.1) (star_any hp.2)
  exact run_go (us := .ref a' :: us) C hcalm I2 s2' (.cons (.ref ea) r2) (.cons rfl rv2) k2
theorem s_meth0 (C : Cxt G P T w n cu U t X W) (hcalm : t.calm = true) {m : Nat} {mn : Str} (hm : G.mths[m]? = some mn) (ho : PE X o (TI (zz ⟨G, cu, U, W⟩ X) mo)) (hpo : plainE o = true)
    (hl : (apos.endLine == pos.line) = true) : PE X (.Call (.Attribute o mn apos) [] [] pos) (TI (zz ⟨G, cu, U, W⟩ X) (mMeth P w n m mo mNil)) := by
  refine ⟨fun pins s0 σ H Q I ⟨ρ, h, sg, s, oo⟩ => ?_⟩
  have ko := ho.run pins s0 σ H (fun v H1 => ∃ ρ1 h1 p a c dx gs f, St (zz ⟨G, cu, U, W⟩ X) ρ1 h1 sg σ H1 ∧ v = .ref a ∧ ρ1[p]? = some a ∧ H1 a = some (.ins (G.ca c) dx gs) ∧ Cls X.K (G.ca c) ∧ Meth X.K (G.ca c) mn (G.fa f) ∧ gs.lookup mn = none ∧
      Out G X.K W ρ1 H1 σ ((mNil sg h1).bind fun xs h2 => callN P w n f (.ref p :: xs) h2) fun d _ ρ' H' => ∀ v, Rel X.K ρ' H' d v → Q v H') I
    (ti_go s oo.bind fun d h1 ρ1 H1 st1 s1 k1 v r1 => by
      obtain ⟨p, a, c, dx, gs, f, e0, e1, e2, e3, e4, e5, e6, e7⟩ := meth_go C hm s1 r1 k1
      exact ⟨ρ1, h1, p, a, c, dx, gs, f, s1, e1, e2, e3, e4, e5, e6, e7⟩)
  refine PySem.W.methodCall_KW (pl := plainOf o X.env) (thn ko fun u s1 ⟨v, H1, I1, rv, ρ1, h1, q, a', c, dx, gs, f, s1', e1, e2, e3, e4, e5, e6, e7⟩ => ?_) (tree_meth hpo rfl (by decide) hl)
  subst e1
  obtain rfl : u = Value.ref a' := rv
  refine getmeth_ok I1 e3 e4 e5 e6 ?_
  exact PySem.W.callWith_K0 (first := [.ref a']) I1.kIn e5.kp (run_go (us := [.ref a']) C hcalm I1 s1' (.cons (.ref e2) .nil) (.cons rfl .nil) e7)
/-! ### fields -/
def mFld (f : Nat) (ma : Vars → M → R D) (sg : Vars) (h : M) : R D := (ma sg h).bind fun x h1 => match x with
  | .ref p => (match h1[p]? with
    | some (.ins _ fs) => (match fget f fs with
      | some d => .ok d h1
      | none => .no)
    | _ => .no)
  | _ => .no
theorem s_fld (C : Cxt G P T w n cu U t X W) {f : Nat} {fn : Str} (hf : G.flds[f]? = some fn) (ha : PE X a (TI (zz ⟨G, cu, U, W⟩ X) ma)) (hp : plainE a = true) : PE X (.Attribute a fn pos) (TI (zz ⟨G, cu, U, W⟩ X) (mFld f ma)) :=
  pe_weak (pe_fld ha (attr_plain hp)) fun σ H Q ⟨ρ, h, sg, s, o⟩ => ti_go s o.bind fun d1 h1 ρ1 H1 st1 s1 k1 v1 r1 => by
    cases r1 with
    | @ref p a' hp' =>
      simp only at k1
      obtain ⟨ob, eo, _⟩ := s1.sim.at hp'
      rw [eo] at k1
      cases ob with
      | ins c fs =>
        simp only at k1
        obtain ⟨dx, gs, e1, ⟨x, hx⟩, e3⟩ := s1.sim.ins hp' eo
        obtain ⟨_, hc, _, hno⟩ := C.gk.cls x c hx
        cases eg : fget f fs with
        | none => rw [eg] at k1; exact (show False from k1).elim
        | some d =>
          rw [eg] at k1
          obtain ⟨v, h2, h3⟩ := (e3.look C.gk.fnd hf).1 d eg
          exact ⟨a', _, dx, gs, v, rfl, e1, hc, hno fn (List.mem_of_getElem? hf), h2, ti_ok s1 h3 k1⟩
      | lst xs => exact (show False from k1).elim
    | _ => exact (show False from k1).elim
/-! ### new instances -/
def mMake (P : Prog) (w n c : Nat) (mas : Vars → M → R (List D)) (sg : Vars) (h : M) : R D := (mas sg h).bind fun xs h1 => match P.ini c with
  | some f => (callN P w n f (.ref h1.length :: xs) (h1 ++ [.ins c []])).bind fun x h2 => (match x with
    | .non => .ok (.ref h1.length) h2
    | _ => .no)
  | none => .no
theorem make_go (C : Cxt G P T w n cu U t X W) (hcalm : t.calm = true) {c f : Nat} (hx : (x, c) ∈ G.clss) (ef : P.ini c = some f) {pins : List (Addr × Obj)} {s0 : Shared} {σ : L2.St} {H : Hp} {Q : VK} {ρ : List Addr} {h : M} {sg : Vars} {ds : List D} {vs : List V} {us : List Value} (I : Inv X pins σ H s0)
    (s : St (zz ⟨G, cu, U, W⟩ X) ρ h sg σ H) (r : Rels X.K ρ H ds vs) (rv : Vals vs us)
    (o : Out G X.K W ρ H σ ((callN P w n f (.ref h.length :: ds) (h ++ [.ins c []])).bind fun x h2 => (match x with
      | .non => .ok (.ref h.length) h2
      | _ => .no)) fun d _ ρ' H' => ∀ v, Rel X.K ρ' H' d v → Q v H') :
    wpAny (model X.prog X.w) X.A (call (.ref (G.ca c)) us) (EP X pins σ Q) X.xe s0 := by
  have Mk' := C.gk.ini x c f hx ef
  have o1 := o.bind
  obtain ⟨fd, e⟩ := callN_fn o1.yes
  obtain ⟨l1, l2⟩ := callN_len e o1.yes
  obtain ⟨hp, hb⟩ := C.gk.bind f fd e
  obtain ⟨dvs, dus, rd, bd, rr⟩ := hb ((D.ref h.length :: ds).length + fd.dfl.length - fd.arity) (by omega)
  have F := C.fh f fd e
  -- the new instance
  have nx : H (s0.heap.objs.size + 1) = none := I.hok.fresh (Nat.le_succ _)
  have nd : H s0.heap.objs.size = none := I.hok.fresh (Nat.le_refl _)
  have ndx : s0.heap.objs.size ≠ s0.heap.objs.size + 1 := Nat.ne_of_lt (Nat.lt_succ_self _)
  generalize hD : s0.heap.objs.size = dx at nx nd ndx
  have sm1 : Sim G X.K ρ h (upd H dx (.own (dx + 1))) := s.sim.other nd
  have nx1 : upd H dx (.own (dx + 1)) (dx + 1) = none := by rw [upd_ne (Ne.symm ndx)]; exact nx
  have sm2 : Sim G X.K (ρ ++ [dx + 1]) (h ++ [.ins c []]) (upd (upd H dx (.own (dx + 1))) (dx + 1) (.ins (G.ca c) dx [])) := sm1.push nx1 (.ins upd_same ⟨x, hx⟩ .nil)
  have st1 : Step ρ H ρ (upd H dx (.own (dx + 1))) := Step.other nd (s.sim.fresh nd)
  have st2 : Step ρ (upd H dx (.own (dx + 1))) (ρ ++ [dx + 1]) (upd (upd H dx (.own (dx + 1))) (dx + 1) (.ins (G.ca c) dx [])) := Step.alloc nx1 (sm1.fresh nx1)
  have st := st1.trans st2
  have at_ : (ρ ++ [dx + 1])[h.length]? = some (dx + 1) := by
    rw [← s.sim.len, List.getElem?_append_right (Nat.le_refl _)]
    simp
  have r2 : Rels X.K (ρ ++ [dx + 1]) (upd (upd H dx (.own (dx + 1))) (dx + 1) (.ins (G.ca c) dx [])) ((D.ref h.length :: ds) ++ fd.dfl.drop ((D.ref h.length :: ds).length + fd.dfl.length - fd.arity)) ((V.ref (dx + 1) :: vs) ++ dvs) :=
    (Rels.cons (.ref at_) (r.mono st)).append (rr _ _)
  have hl : ((V.ref (dx + 1) :: vs) ++ dvs).length = fd.arity := by
    rw [← r2.length, List.length_append, List.length_drop]
    omega
  have hq : spI G P w X.K n f fd.arity ((V.ref (dx + 1) :: vs) ++ dvs) (upd (upd H dx (.own (dx + 1))) (dx + 1) (.ins (G.ca c) dx [])) (fun v H2 => v = .non ∧ Q (.ref (dx + 1)) H2) (fun cls d H' => W cls d σ H') := by
    refine ⟨hl, _, _, _, sm2, r2, ?_⟩
    rw [callN_pad e l1 l2]
    have o2 : Out G X.K W (ρ ++ [dx + 1]) (upd (upd H dx (.own (dx + 1))) (dx + 1) (.ins (G.ca c) dx [])) σ (callN P w n f (.ref h.length :: ds) (h ++ [.ins c []])) fun d h' ρ' H' => ∀ v, Rel X.K ρ' H' d v → v = .non ∧ Q (.ref (dx + 1)) H' := by
      cases er : callN P w n f (.ref h.length :: ds) (h ++ [.ins c []]) with
      | no => rw [er] at o1; exact o1
      | exc c' fs' h' =>
        rw [er] at o1
        exact fun ρ' H' cls d s' m' x' => o1 ρ' H' cls d (st.trans s') m' x'
      | ok d h' =>
        rw [er] at o1
        intro ρ' H' s' m' v rv'
        have q := o1 ρ' H' (st.trans s') m'
        cases rv' with
        | non =>
          have q2 := Out.ok m' q
          exact ⟨rfl, q2 _ (.ref (s'.at at_))⟩
        | _ => exact (show False from q).elim
    exact o2.wish fun cls d H' x' => x'
  have rroom : Room (2 * n + 2 + 1) X.A := (C.room hcalm).mono (by omega)
  have I2 := Inv.made (C := G.ca c) I
  rw [hD] at I2
  have r3 : Vals (V.ref (dx + 1) :: (vs ++ dvs)) (Value.ref (dx + 1) :: (us ++ dus)) := .cons rfl (rv.append rd)
  have hl2 : (Value.ref (dx + 1) :: us ++ dus).length = (T.ps f).length := by
    have z := r3.length
    have z2 : (Value.ref (dx + 1) :: us ++ dus).length = (V.ref (dx + 1) :: (vs ++ dvs)).length := z.symm
    rw [z2, hp]
    exact hl
  refine wpAny_call (make_map (f := G.fa f) I.kIn Mk'.makes Mk'.init (beq_iff_eq.mp Mk'.fn) ?_)
  rw [hD]
  refine codeAny_mono (F.run _ X.stack _ _ ⟨Value.ref (dx + 1) :: us, []⟩ (Value.ref (dx + 1) :: (us ++ dus)) _ _ (fun cls d H' => W cls d σ H') (rroom.make (G.ca c) us []) (I2.env0.make (G.ca c) us []) (bd _ (Value.ref (dx + 1) :: us) I2.kIn hl2) r3 hq) fun r s' hq' => ?_
  cases r with
  | error er => exact C.tk _ _ (XE.of_call I2 (fun cls d H' x => x) hq')
  | ok fl =>
    cases fl with
    | ret u =>
      obtain ⟨v, H', I3, rv', ev, q3⟩ := I2.after hq'
      subst ev
      exact ⟨rv', ⟨V.ref (dx + 1), H', I3, rfl, q3⟩⟩
    | next => exact False.elim hq'
    | brk => exact False.elim hq'
    | cont => exact False.elim hq'
theorem s_make (C : Cxt G P T w n cu U t X W) (hcalm : t.calm = true) {c : Nat} (hx : (x, c) ∈ G.clss) (hg : Gl X x) (hdb : (x == ("__debug__" : Str)) = false) (ha : PA X (a :: es) (TAI (zz ⟨G, cu, U, W⟩ X) mas)) (hp : (a :: es).all plainE = true) :
    PE X (.Call (.Name x p) (a :: es) [] pos) (TI (zz ⟨G, cu, U, W⟩ X) (mMake P w n c mas)) := by
  refine ⟨fun pins s0 σ H Q I ⟨ρ, h, sg, s, o⟩ => ?_⟩
  refine wpAny_Call_Name_kw (ld_glob I hg (C.gk.cls x c hx).1 ?_ hdb)
  cases ef : P.ini c with
  | none =>
    unfold mMake at o
    rw [ef] at o
    have key := ha.run pos pins s0 σ H (fun vs H1 => False) I (tai_go s o.bind fun ds h1 ρ1 H1 st1 s1 k1 vs r1 => k1)
    rw [List.all_cons, Bool.and_eq_true] at hp
    exact PySem.W.callWith_K (h₀ := X.base) I.ok.mod.kin (C.gk.cls x c hx).2.2.1 (thn key fun us s1 ⟨vs, H1, I1, rv, k1⟩ => k1.elim) (star_plain hp.1) (star_any hp.2)
  | some f =>
    unfold mMake at o
    rw [ef] at o
    have key := ha.run pos pins s0 σ H (fun vs H1 => ∃ ρ1 h1 ds, St (zz ⟨G, cu, U, W⟩ X) ρ1 h1 sg σ H1 ∧ Rels X.K ρ1 H1 ds vs ∧ Out G X.K W ρ1 H1 σ ((callN P w n f (.ref h1.length :: ds) (h1 ++ [.ins c []])).bind fun x h2 => (match x with
      | .non => .ok (.ref h1.length) h2
      | _ => .no)) fun d _ ρ' H' => ∀ v, Rel X.K ρ' H' d v → Q v H') I
      (tai_go s o.bind fun ds h1 ρ1 H1 st1 s1 k1 vs r1 => ⟨ρ1, h1, ds, s1, r1, k1⟩)
    rw [List.all_cons, Bool.and_eq_true] at hp
    refine PySem.W.callWith_K (h₀ := X.base) I.ok.mod.kin (C.gk.ini x c f hx ef).kp (thn key fun us s1 ⟨vs, H1, I1, rv, ρ1, h1, ds, s1', r1, k1⟩ => ⟨I1.kIn, ?_⟩) (star_plain hp.1) (star_any hp.2)
    exact make_go C hcalm hx ef I1 s1' r1 rv k1
theorem s_make0 (C : Cxt G P T w n cu U t X W) (hcalm : t.calm = true) {c : Nat} (hx : (x, c) ∈ G.clss) (hg : Gl X x) (hdb : (x == ("__debug__" : Str)) = false) :
    PE X (.Call (.Name x p) [] [] pos) (TI (zz ⟨G, cu, U, W⟩ X) (mMake P w n c mNil)) := by
  refine ⟨fun pins s0 σ H Q I ⟨ρ, h, sg, s, o⟩ => ?_⟩
  refine wpAny_Call_Name_kw (ld_glob I hg (C.gk.cls x c hx).1 ?_ hdb)
  unfold mMake at o
  cases ef : P.ini c with
  | none =>
    rw [ef] at o
    exact (show False from o).elim
  | some f =>
    rw [ef] at o
    exact PySem.W.callWith_K0 I.kIn (C.gk.ini x c f hx ef).kp (make_go (us := []) C hcalm hx ef I s .nil .nil o)
end
end Rm

/- RmG: isinstance, methods of lists, what is walked, comprehensions. -/
namespace Rm
open PySem PySem.Spec L2

/-! ### isinstance -/
def kdS : Kd → String
  | .non => "NoneType" | .bl => "bool" | .int => "int" | .str => "str" | .tup => "tuple" | .lst => "list"
def tyS : Ty → String
  | .int => "int" | .bool => "bool" | .str => "str" | .list => "list" | .tuple => "tuple"
def tyN : Ty → Str
  | .int => "int" | .bool => "bool" | .str => "str" | .list => "list" | .tuple => "tuple"
theorem kit_kd {K : Fr} (k : Kd) (t : Ty) : PySem.W.kitOne K (.type (kdS k)) (.type (tyS t)) = some (isKd k t) := by
  cases k <;> cases t <;> exact kit_ty (by decide +kernel)
theorem kit_any {K : Fr} (k : Kd) : ∀ ts : List Ty, PySem.W.kitAny K (.type (kdS k)) (ts.map fun t => .type (tyS t)) = some (ts.any (isKd k))
  | [] => rfl
  | t :: ts => by
    rw [List.map_cons, List.any_cons]
    refine kitAny_cons (kit_kd k t) (fun e => ?_) (fun e => by rw [e] <;> rfl)
    rw [kit_any k ts, e, Bool.false_or]
theorem boot_ty (t : Ty) : bootBuiltins (tyN t) = some (.type (tyS t)) := by
  cases t <;> decide +kernel
theorem tyN_ne (t : Ty) : tyN t ≠ "__name__" := by cases t <;> decide +kernel
theorem tyN_db (t : Ty) : (tyN t == ("__debug__" : Str)) = false := by cases t <;> decide +kernel
section
variable {G : Glo} {K : Fr} {ρ : List Addr} {h : M} {H : Hp}
theorem kind_ty (s : Sim G K ρ h H) {d : D} {v : V} {k : Kd} (r : Rel K ρ H d v) (e : kind d h = some k) : TyX K H v (.type (kdS k)) := by
  cases r with
  | non => cases e; exact .base .non
  | bl b => cases e; exact .base (.bl b)
  | int i => cases e; exact .base (.int i)
  | str x hx => cases e; exact .base (.str _)
  | tup h1 r1 =>
    cases e
    rcases h1.sq with (q | ⟨o, q⟩) | ⟨o, its, n, q1, q2, _⟩
    · exact .base (.tup q)
    · exact .fTuple q
    · exact .kTuple q1 q2
  | scr h1 r1 =>
    cases e
    rcases h1.sq with (q | ⟨o, q⟩) | ⟨o, its, n, q1, q2, _⟩
    · exact .base (.lst q)
    · exact .base (.frz q)
    · exact .kList q1 q2
  | @ref i a ha =>
    have e : (match h[i]? with
      | some (.lst _) => some Kd.lst
      | _ => none) = some k := e
    obtain ⟨o, eo, _⟩ := s.at ha
    rw [eo] at e
    cases o with
    | lst xs =>
      cases e
      obtain ⟨ys, e3, _⟩ := s.lst ha eo
      exact .base (.lst e3)
    | ins c fs => cases e
end
section
variable {Y : Yy} {X : Cx} {pos p p2 q : Pos} {a : Expr} {ma : Vars → M → R D}
def mIsi (ts : List Ty) (ma : Vars → M → R D) (sg : Vars) (h : M) : R D := (ma sg h).bind fun x h1 => match isTys x h1 ts with
  | some b => .ok (.bl b) h1
  | none => .no
theorem pe_ty (t : Ty) (hg : Gl X (tyN t)) (hm : X.mg (tyN t) = none) : PE X (.Name (tyN t) p) (tC (.ty (tyS t))) := pe_bltn hg hm (boot_ty t) rfl (tyN_ne t) (tyN_db t)
theorem s_isi (t : Ty) (hgi : Gl X "isinstance") (hmi : X.mg "isinstance" = none) (hg : Gl X (tyN t)) (hm : X.mg (tyN t) = none) (ha : PE X a (TI (zz Y X) ma)) (hp : plainE a = true) :
    PE X (.Call (.Name "isinstance" p) [a, .Name (tyN t) p2] [] pos) (TI (zz Y X) (mIsi [t] ma)) := by
  refine pe_weak (pe_callB call_isi hgi hmi (by decide +kernel) (pa_cons ha (pa_cons (pe_ty t hg hm) pa_nil rfl) (star_plain hp)) (by decide +kernel) (by decide +kernel) (star_plain hp) rfl) fun σ H Q ⟨ρ, h, sg, s, o⟩ => ?_
  refine ti_go s o.bind fun d1 h1 ρ1 H1 st1 s1 k1 v1 r1 => ?_
  unfold isTys at k1
  cases e : kind d1 h1 with
  | none => rw [e] at k1; exact (show False from k1).elim
  | some k =>
    rw [e] at k1
    simp only [Option.map_some, List.any_cons, List.any_nil, Bool.or_false] at k1
    exact ⟨v1, _, _, _, _, rfl, .ty _, kind_ty s1.sim r1 e, kit_kd k t, ti_ok s1 (.bl _) k1⟩
/-- names of types -/
def tyEs : List Ty → List Expr → Bool
  | [], [] => true
  | t :: ts, .Name x _ :: es => decide (x = tyN t) && tyEs ts es
  | _, _ => false
theorem pa_tys (hb : ∀ t, Gl X (tyN t) ∧ X.mg (tyN t) = none ∨ True) : ∀ (ts : List Ty) (es : List Expr), (∀ t ∈ ts, Gl X (tyN t) ∧ X.mg (tyN t) = none) → tyEs ts es = true → PA X es (fun _ H Q => Q (ts.map fun t => V.ty (tyS t)) H) ∧ es.all plainE = true
  | [], [], _, _ => ⟨pa_nil, rfl⟩
  | [], _ :: _, _, h => by cases h
  | _ :: _, [], _, h => by cases h
  | t :: ts, e :: es, hm, h => by
    cases e with
    | Name x p0 =>
      have h' : (decide (x = tyN t) && tyEs ts es) = true := h
      rw [Bool.and_eq_true, decide_eq_true_iff] at h'
      obtain ⟨rfl, h2⟩ := h'
      obtain ⟨ih, hp⟩ := pa_tys hb ts es (fun u hu => hm u (List.mem_cons_of_mem _ hu)) h2
      obtain ⟨g1, g2⟩ := hm t List.mem_cons_self
      exact ⟨pa_cons (pe_ty t g1 g2) ih rfl, by rw [List.all_cons, hp] <;> rfl⟩
    | _ => cases h
theorem paired_tys : ∀ ts : List Ty, Paired ClsV (ts.map fun t => V.ty (tyS t)) (ts.map fun t => Value.type (tyS t))
  | [] => .nil
  | t :: ts => .cons (.ty _) (paired_tys ts)
theorem s_isiT (ts : List Ty) {es : List Expr} {kk : Nat} (hl : ts.length ≤ 1000) (hgi : Gl X "isinstance") (hmi : X.mg "isinstance" = none) (hg : ∀ t ∈ ts, Gl X (tyN t) ∧ X.mg (tyN t) = none) (he : tyEs ts es = true) (ha : PE X a (TI (zz Y X) ma)) (hp : plainE a = true) :
    PE X (.Call (.Name "isinstance" p) [a, .Tuple es kk p2] [] pos) (TI (zz Y X) (mIsi ts ma)) := by
  obtain ⟨hes, _⟩ := pa_tys (fun _ => .inr trivial) ts es hg he
  refine pe_weak (pe_callB call_isiT hgi hmi (by decide +kernel) (pa_cons ha (pa_cons (pe_tup hes) pa_nil rfl) (star_plain hp)) (by decide +kernel) (by decide +kernel) (star_plain hp) rfl) fun σ H Q ⟨ρ, h, sg, s, o⟩ => ?_
  refine ti_go s o.bind fun d1 h1 ρ1 H1 st1 s1 k1 v1 r1 => ?_
  refine ⟨by rw [List.length_map]; exact Nat.le_trans hl (by decide), fun tp htp => ?_⟩
  have st2 : Step ρ1 H1 ρ1 (upd H1 tp (.tup (ts.map fun t => V.ty (tyS t)))) := Step.other htp (s1.sim.fresh htp)
  have sm2 : Sim Y.G X.K ρ1 h1 (upd H1 tp (.tup (ts.map fun t => V.ty (tyS t)))) := s1.sim.other htp
  unfold isTys at k1
  cases e : kind d1 h1 with
  | none => rw [e] at k1; exact (show False from k1).elim
  | some k =>
    rw [e] at k1
    exact ⟨v1, tp, _, _, _, _, rfl, upd_same, paired_tys ts, kind_ty sm2 (r1.mono st2) e, kit_any k ts, k1 _ _ st2 sm2 _ (.bl _)⟩
/-! ### methods of lists -/
variable {o : Expr} {es : List Expr} {mo : Vars → M → R D} {mas : Vars → M → R (List D)} {apos : Pos}
def mBm (m : BM) (mo : Vars → M → R D) (mas : Vars → M → R (List D)) (sg : Vars) (h : M) : R D := (mo sg h).bind fun x h1 => if bmOk m x h1 = true then (mas sg h1).bind fun xs h2 => bmeth m x xs h2 else .no
theorem lst_ty {G : Glo} {K : Fr} {ρ : List Addr} {h : M} {H : Hp} (s : Sim G K ρ h H) {d : D} {v : V} (r : Rel K ρ H d v) (e : isLst d h = true) : tyV K "list" v H := by
  cases r with
  | @ref i a ha =>
    obtain ⟨o, eo, _⟩ := s.at ha
    simp only [isLst, eo] at e
    cases o with
    | lst xs =>
      obtain ⟨ys, e3, _⟩ := s.lst ha eo
      exact .inl ⟨rfl, _, SqL.of e3⟩
    | ins c fs => cases e
  | _ => cases e
def bmN : BM → Str
  | .append => "append" | .reverse => "reverse"
theorem s_bm1 (ho : PE X o (TI (zz Y X) mo)) (ha : PA X (a :: es) (TAI (zz Y X) mas)) (hpo : plainE o = true) (hp : (a :: es).all plainE = true) (hn : (a :: es).length < 29) (hl : (apos.endLine == pos.line) = true) :
    PE X (.Call (.Attribute o "append" apos) (a :: es) [] pos) (TI (zz Y X) (mBm .append mo mas)) := by
  have hp' := hp
  rw [List.all_cons, Bool.and_eq_true] at hp'
  refine pe_weak (pe_bm PySem.F.plainAttrs_list PySem.F.slot_list_append PySem.F.type_list_append (mt_app (G := Y.G)) ho ha (attr_plain hpo) ?_ hl (star_plain hp'.1) (star_any hp'.2)) fun σ H Q ⟨ρ, h, sg, s, oo⟩ => ?_
  · rw [star_all hp]
    show (true && true && decide ((a :: es).length + 0 + 0 < 30)) = true
    rw [decide_eq_true (by omega)] <;> rfl
  · refine ti_go s oo.bind fun d1 h1 ρ1 H1 st1 s1 k1 v1 r1 => ?_
    by_cases c : bmOk .append d1 h1 = true
    · simp only [c, if_true] at k1
      refine ⟨lst_ty s1.sim r1 c, tai_go s1 (Out.bind k1) fun ds h2 ρ2 H2 st2 s2 k2 vs r2 => ?_⟩
      exact ⟨ρ2, h2, d1, ds, _, _, s2.sim, r1.mono st2, r2, k2⟩
    · simp only [c, if_false] at k1
      exact (show False from k1).elim
theorem s_bm0 (ho : PE X o (TI (zz Y X) mo)) (hpo : plainE o = true) (hl : (apos.endLine == pos.line) = true) : PE X (.Call (.Attribute o "reverse" apos) [] [] pos) (TI (zz Y X) (mBm .reverse mo mNil)) := by
  refine pe_weak (pe_bm0 PySem.F.plainAttrs_list PySem.F.slot_list_reverse PySem.F.type_list_reverse (mt_rev (G := Y.G)) ho (attr_plain hpo) hl) fun σ H Q ⟨ρ, h, sg, s, oo⟩ => ?_
  refine ti_go s oo.bind fun d1 h1 ρ1 H1 st1 s1 k1 v1 r1 => ?_
  by_cases c : bmOk .reverse d1 h1 = true
  · simp only [c, if_true] at k1
    exact ⟨lst_ty s1.sim r1 c, ρ1, h1, d1, [], _, _, s1.sim, r1, .nil, k1⟩
  · simp only [c, if_false] at k1
    exact (show False from k1).elim
end

/-! ### what is walked -/
inductive ItAt (K : Fr) (ρ : List Addr) (H : Hp) : It → L2.It → Prop
  | tup {xs : List D} {ys : List V} {a : Addr} (h : TupAt K ρ H a ys) (r : Rels K ρ H xs ys) : ItAt K ρ H (.items xs) (Itt K a)
  | scr {xs : List D} {ys : List V} {a : Addr} (h : LstAt K ρ H a ys) (r : Rels K ρ H xs ys) : ItAt K ρ H (.items xs) (Itl K a)
  | str {xs : List Nat} (h : PyData.strOk ⟨xs.toArray⟩ = true) : ItAt K ρ H (.items (xs.map fun c => .str [c])) (Its ⟨xs.toArray⟩)
  | rng (lo hi : Int) : ItAt K ρ H (.items (rngL lo hi)) (Itr lo (hi - lo).toNat)
  | live {i : Nat} {a : Addr} (h : ρ[i]? = some a) : ItAt K ρ H (.live i) (Itl K a)
  | zip {xs xs2 : List D} {ys ys2 : List V} {a b : Addr} (h : TupAt K ρ H a ys) (r : Rels K ρ H xs ys) (h2 : TupAt K ρ H b ys2) (r2 : Rels K ρ H xs2 ys2) : ItAt K ρ H (.items (List.zipWith (fun a b => .tup [a, b]) xs xs2)) (RZ.ItzT K a b)
theorem ItAt.mono {K : Fr} {ρ ρ' : List Addr} {H H' : Hp} (s : Step ρ H ρ' H') {it : It} {J : L2.It} (x : ItAt K ρ H it J) : ItAt K ρ' H' it J := by
  cases x with
  | tup h r => exact .tup (h.mono s) (r.mono s)
  | scr h r => exact .scr (h.mono s) (r.mono s)
  | str h => exact .str h
  | rng lo hi => exact .rng lo hi
  | live h => exact .live (s.at h)
  | zip h r h2 r2 => exact .zip (h.mono s) (r.mono s) (h2.mono s) (r2.mono s)
section
variable {G : Glo} {K : Fr} {ρ : List Addr} {h : M} {H : Hp}
/-- a turn -/
theorem ItAt.next {it : It} {J : L2.It} (x : ItAt K ρ H it J) (s : Sim G K ρ h H) {k : Nat} {d : D} (e : nth it h k = some (some d)) : J.go k H ∧ ∀ v H', J.yld k H v H' → Step ρ H ρ H' ∧ Sim G K ρ h H' ∧ Rel K ρ H' d v := by
  cases x with
  | @tup xs ys a h1 r =>
    have e : xs[k]? = some d := Option.some.inj e
    obtain ⟨v, e1, r1⟩ := r.get e
    refine ⟨⟨ys, v, h1.sq, e1⟩, fun v' H' y => ?_⟩
    obtain ⟨rfl, y⟩ := y
    have z := y ys h1.sq
    rw [e1] at z
    cases z
    exact ⟨Step.refl _ _, s, r1⟩
  | @scr xs ys a h1 r =>
    have e : xs[k]? = some d := Option.some.inj e
    obtain ⟨v, e1, r1⟩ := r.get e
    refine ⟨⟨ys, v, h1.sq, e1⟩, fun v' H' y => ?_⟩
    obtain ⟨rfl, y⟩ := y
    have z := y ys h1.sq
    rw [e1] at z
    cases z
    exact ⟨Step.refl _ _, s, r1⟩
  | @str xs hx =>
    have e : (xs.map fun c => D.str [c])[k]? = some d := Option.some.inj e
    rw [List.getElem?_map] at e
    obtain ⟨c, e1, e2⟩ := Option.map_eq_some_iff.mp e
    subst e2
    refine ⟨?_, fun v' H' y => ?_⟩
    · show k < xs.toArray.size
      rw [List.size_toArray]
      exact (List.getElem?_eq_some_iff.mp e1).1
    · obtain ⟨rfl, c', y1, rfl⟩ := y
      have y1 : xs.toArray[k]? = some c' := y1
      rw [List.getElem?_toArray, e1] at y1
      cases y1
      refine ⟨Step.refl _ _, s, .str [c] ?_⟩
      rw [strOk_mem]
      intro z hz
      rw [List.mem_singleton.mp hz]
      exact strOk_mem.mp hx c (List.mem_of_getElem? e1)
  | rng lo hi =>
    have e : (rngL lo hi)[k]? = some d := Option.some.inj e
    unfold rngL at e
    rw [List.getElem?_map] at e
    obtain ⟨c, e1, e2⟩ := Option.map_eq_some_iff.mp e
    subst e2
    have hk : k < (hi - lo).toNat := by
      have := (List.getElem?_eq_some_iff.mp e1).1
      rwa [List.length_range] at this
    have hc : c = k := by
      rw [List.getElem?_range hk] at e1
      exact (Option.some.inj e1).symm
    subst hc
    refine ⟨hk, fun v' H' y => ?_⟩
    obtain ⟨rfl, rfl⟩ := y
    exact ⟨Step.refl _ _, s, .int _⟩
  | @live i a hi =>
    obtain ⟨o, eo, _⟩ := s.at hi
    unfold nth at e
    simp only [eo] at e
    cases o with
    | lst xs =>
      have e : xs[k]? = some d := Option.some.inj e
      obtain ⟨ys, e3, r3⟩ := s.lst hi eo
      obtain ⟨v, e1, r1⟩ := r3.get e
      refine ⟨⟨ys, v, SqL.of e3, e1⟩, fun v' H' y => ?_⟩
      obtain ⟨rfl, y⟩ := y
      have z := y ys (SqL.of e3)
      rw [e1] at z
      cases z
      exact ⟨Step.refl _ _, s, r1⟩
    | ins c fs => cases e
  | @zip xs xs2 ys ys2 a b h1 r h2 r2 =>
    have e : (List.zipWith (fun a b => D.tup [a, b]) xs xs2)[k]? = some d := Option.some.inj e
    rw [List.getElem?_zipWith] at e
    cases e1 : xs[k]? with
    | none => rw [e1] at e; cases e
    | some x =>
      cases e2 : xs2[k]? with
      | none => rw [e1, e2] at e; cases e
      | some y =>
        rw [e1, e2] at e
        have e : D.tup [x, y] = d := Option.some.inj e
        subst e
        obtain ⟨v, e3, rv⟩ := r.get e1
        obtain ⟨u, e4, ru⟩ := r2.get e2
        refine ⟨⟨ys, ys2, v, u, h1.sq, h2.sq, e3, e4⟩, fun v' H' yy => ?_⟩
        obtain ⟨T, p, q, rfl, hT, rfl, y1, y2⟩ := yy
        have z1 := y1 ys h1.sq
        rw [e3] at z1
        cases z1
        have z2 := y2 ys2 h2.sq
        rw [e4] at z2
        cases z2
        have st : Step ρ H ρ (upd H T (.tup [v, u])) := Step.other hT (s.fresh hT)
        exact ⟨st, s.other hT, .tup (.of (SqT.of upd_same) (s.fresh hT)) (.cons (rv.mono st) (.cons (ru.mono st) .nil))⟩
theorem ItAt.stop {it : It} {J : L2.It} (x : ItAt K ρ H it J) (s : Sim G K ρ h H) {k : Nat} (e : nth it h k = some none) : J.stop k H := by
  cases x with
  | @tup xs ys a h1 r =>
    have e : xs[k]? = none := Option.some.inj e
    exact ⟨ys, h1.sq, List.getElem?_eq_none_iff.mp (r.none_of e)⟩
  | @scr xs ys a h1 r =>
    have e : xs[k]? = none := Option.some.inj e
    exact ⟨ys, h1.sq, List.getElem?_eq_none_iff.mp (r.none_of e)⟩
  | @str xs hx =>
    have e : (xs.map fun c => D.str [c])[k]? = none := Option.some.inj e
    have := List.getElem?_eq_none_iff.mp e
    rw [List.length_map] at this
    show xs.toArray.size ≤ k
    rw [List.size_toArray]
    exact this
  | rng lo hi =>
    have e : (rngL lo hi)[k]? = none := Option.some.inj e
    have := List.getElem?_eq_none_iff.mp e
    unfold rngL at this
    rw [List.length_map, List.length_range] at this
    exact this
  | @live i a hi =>
    obtain ⟨o, eo, _⟩ := s.at hi
    unfold nth at e
    simp only [eo] at e
    cases o with
    | lst xs =>
      have e : xs[k]? = none := Option.some.inj e
      obtain ⟨ys, e3, r3⟩ := s.lst hi eo
      exact ⟨ys, SqL.of e3, List.getElem?_eq_none_iff.mp (r3.none_of e)⟩
    | ins c fs => cases e
  | @zip xs xs2 ys ys2 a b h1 r h2 r2 =>
    have e : (List.zipWith (fun a b => D.tup [a, b]) xs xs2)[k]? = none := Option.some.inj e
    have l := List.getElem?_eq_none_iff.mp e
    rw [List.length_zipWith] at l
    refine ⟨ys, ys2, h1.sq, h2.sq, ?_⟩
    rw [← r.length, ← r2.length]
    omega
end
/-- a reading of what is walked -/
def TII (Z : Zz) (m : Vars → M → R It) : L2.TI := fun σ H Rr => ∃ ρ h sg, St Z ρ h sg σ H ∧ Out Z.G Z.K Z.W ρ H σ (m sg h) fun it h' ρ' H' => ∀ J, St Z ρ' h' sg σ H' → ItAt Z.K ρ' H' it J → Rr J H'
section
variable {Y : Yy} {X : Cx} {tg a b : Expr} {ma mb : Vars → M → R D} {pos p : Pos}
def mIt (ma : Vars → M → R D) (sg : Vars) (h : M) : R It := (ma sg h).bind fun x h1 => itVal x h1
theorem i_val (ha : PE X a (TI (zz Y X) ma)) : PI X tg a (TII (zz Y X) (mIt ma)) := by
  refine ⟨fun pins s0 σ H Rr I ⟨ρ, h, sg, s, o⟩ => ?_⟩
  cases e : ma sg h with
  | no =>
    unfold mIt at o
    rw [e] at o
    exact (show False from o).elim
  | exc c fs h1 =>
    refine (pi_tup (tg := tg) ha).run pins s0 σ H Rr I ⟨ρ, h, sg, s, ?_⟩
    have o' := o.bind
    rw [e] at o' ⊢
    exact o'
  | ok d h1 =>
    have o' := few_out o.bind
    rw [e] at o'
    have go : ∀ (Qv : VK), (∀ ρ1 H1, Step ρ H ρ1 H1 → St (zz Y X) ρ1 h1 sg σ H1 → Out Y.G X.K Y.W ρ1 H1 σ (itVal d h1) (fun it h' ρ' H' => ∀ J, St (zz Y X) ρ' h' sg σ H' → ItAt X.K ρ' H' it J → Rr J H') → ∀ v, Rel X.K ρ1 H1 d v → Qv v H1) → TI (zz Y X) ma σ H Qv := fun Qv w => by
      refine ⟨ρ, h, sg, s, ?_⟩
      rw [e]
      exact fun ρ1 H1 st1 sm1 v r => w ρ1 H1 st1 (s.go st1 sm1) (o' ρ1 H1 st1 sm1).2 v r
    cases d with
    | tup xs =>
      refine (pi_tup (tg := tg) ha).run pins s0 σ H Rr I (go _ fun ρ1 H1 st1 s1 k1 v r => ?_)
      cases r with
      | tup h1 r1 => exact ⟨_, rfl, ⟨_, h1.sq⟩, Out.ok s1.sim k1 _ s1 (.tup h1 r1)⟩
    | scr xs =>
      refine (pi_list (tg := tg) ha).run pins s0 σ H Rr I (go _ fun ρ1 H1 st1 s1 k1 v r => ?_)
      cases r with
      | scr h1 r1 => exact ⟨_, rfl, ⟨_, h1.sq⟩, Out.ok s1.sim k1 _ s1 (.scr h1 r1)⟩
    | ref i =>
      refine (pi_list (tg := tg) ha).run pins s0 σ H Rr I (go _ fun ρ1 H1 st1 s1 k1 v r => ?_)
      cases r with
      | @ref i a' hi =>
        unfold itVal at k1
        obtain ⟨ob, eo, _⟩ := s1.sim.at hi
        simp only [eo] at k1
        cases ob with
        | lst xs =>
          obtain ⟨ys, e3, r3⟩ := s1.sim.lst hi eo
          exact ⟨_, rfl, ⟨_, SqL.of e3⟩, Out.ok s1.sim k1 _ s1 (.live hi)⟩
        | ins c fs => exact (show False from k1).elim
    | str xs =>
      refine (pi_str (tg := tg) ha).run pins s0 σ H Rr I (go _ fun ρ1 H1 st1 s1 k1 v r => ?_)
      cases r with
      | str x hx =>
        unfold itVal at k1
        by_cases c : xs.length ≤ LINE
        · simp only [c, if_true] at k1
          exact ⟨_, rfl, Out.ok s1.sim k1 _ s1 (.str hx)⟩
        · simp only [c, if_false] at k1
          exact (show False from k1).elim
    | _ =>
      refine (pi_list (tg := tg) ha).run pins s0 σ H Rr I (go _ fun ρ1 H1 st1 s1 k1 v r => ?_)
      exact (show False from k1).elim
theorem rng_ok {ρ : List Addr} {h : M} {sg : Vars} {σ : L2.St} {H : Hp} {x y : D} {u v : V} {Rr : L2.It → Hp → Prop} (s : St (zz Y X) ρ h sg σ H) (rx : Rel X.K ρ H x u) (ry : Rel X.K ρ H y v)
    (o : Out Y.G X.K Y.W ρ H σ (itRng x y h) fun it h' ρ' H' => ∀ J, St (zz Y X) ρ' h' sg σ H' → ItAt X.K ρ' H' it J → Rr J H') : ∃ i j : Int, u = .int i ∧ v = .int j ∧ (-(2 ^ 62) ≤ i ∧ i < 2 ^ 62 ∧ -(2 ^ 62) ≤ j ∧ j < 2 ^ 62) ∧ Rr (Itr i (j - i).toNat) H := by
  cases rx with
  | int i =>
    cases ry with
    | int j =>
      unfold itRng at o
      by_cases c : -RNG ≤ i ∧ i ≤ RNG ∧ -RNG ≤ j ∧ j ≤ RNG
      · simp only [c, and_self, if_true] at o
        have h1 : -(1000000 : Int) ≤ i := c.1
        have h2 : i ≤ (1000000 : Int) := c.2.1
        have h3 : -(1000000 : Int) ≤ j := c.2.2.1
        have h4 : j ≤ (1000000 : Int) := c.2.2.2
        exact ⟨i, j, rfl, rfl, ⟨by omega, by omega, by omega, by omega⟩, Out.ok s.sim o _ s (.rng i j)⟩
      · simp only [c, if_false] at o
        exact (show False from o).elim
    | _ => exact (show False from o).elim
  | _ => exact (show False from o).elim
def mRng1 (ma : Vars → M → R D) (sg : Vars) (h : M) : R It := (ma sg h).bind fun x h1 => itRng (.int 0) x h1
theorem i_rng1 (hg : Gl X "range") (hm : X.mg "range" = none) (ha : PE X a (TI (zz Y X) ma)) (hp : plainE a = true) : PI X tg (.Call (.Name "range" p) [a] [] pos) (TII (zz Y X) (mRng1 ma)) := by
  refine ⟨fun pins s0 σ H Rr I ⟨ρ, h, sg, s, o⟩ => ?_⟩
  refine (pi_range1 (tg := tg) hg hm (pa_cons ha pa_nil (star_plain hp)) (star_plain hp)).run pins s0 σ H Rr I (ti_go s o.bind fun d1 h1 ρ1 H1 st1 s1 k1 v1 r1 => ?_)
  obtain ⟨i, j, e1, rfl, ⟨_, _, q3, q4⟩, q⟩ := rng_ok s1 (.int 0) r1 k1
  cases e1
  refine ⟨j, rfl, q3, q4, ?_⟩
  rw [Int.sub_zero] at q
  exact q
def mRng2 (ma mb : Vars → M → R D) (sg : Vars) (h : M) : R It := (ma sg h).bind fun x h1 => (mb sg h1).bind fun y h2 => itRng x y h2
theorem i_rng2 (hg : Gl X "range") (hm : X.mg "range" = none) (ha : PE X a (TI (zz Y X) ma)) (hb : PE X b (TI (zz Y X) mb)) (hp : plainE a = true) (hp2 : plainE b = true) : PI X tg (.Call (.Name "range" p) [a, b] [] pos) (TII (zz Y X) (mRng2 ma mb)) := by
  refine ⟨fun pins s0 σ H Rr I ⟨ρ, h, sg, s, o⟩ => ?_⟩
  refine (pi_range2 (tg := tg) hg hm (pa_cons ha (pa_cons hb pa_nil (star_plain hp2)) (star_plain hp)) (by rw [star_plain hp, star_plain hp2] <;> rfl) (star_plain hp2)).run pins s0 σ H Rr I
    (ti_go s o.bind fun d1 h1 ρ1 H1 st1 s1 k1 v1 r1 => ti_go s1 (Out.bind k1) fun d2 h2 ρ2 H2 st2 s2 k2 v2 r2 => ?_)
  obtain ⟨i, j, rfl, rfl, q1, q⟩ := rng_ok s2 (r1.mono st2) r2 k2
  exact ⟨i, j, rfl, q1, q⟩
def mZip (ma mb : Vars → M → R D) (sg : Vars) (h : M) : R It := (ma sg h).bind fun x h1 => (mb sg h1).bind fun y h2 => itZip x y h2
theorem i_zip {elts : List Expr} {kk : Nat} {tpos : Pos} (hg : Gl X "zip") (hm : X.mg "zip" = none) (ha : PE X a (TI (zz Y X) ma)) (hb : PE X b (TI (zz Y X) mb)) (hp : plainE a = true) (hp2 : plainE b = true) : PI X (.Tuple elts kk tpos) (.Call (.Name "zip" p) [a, b] [] pos) (TII (zz Y X) (mZip ma mb)) := by
  refine ⟨fun pins s0 σ H Rr I ⟨ρ, h, sg, s, o⟩ => ?_⟩
  refine (RZ.pi_zipA (tpos := tpos) (elts := elts) (kk := kk) hg hm (pa_cons ha (pa_cons hb pa_nil (star_plain hp2)) (star_plain hp)) (star_plain hp) (star_any (by rw [List.all_cons, hp2] <;> rfl))).run pins s0 σ H Rr I
    (ti_go s o.bind fun d1 h1 ρ1 H1 st1 s1 k1 v1 r1 => ti_go s1 (Out.bind k1) fun d2 h2 ρ2 H2 st2 s2 k2 v2 r2 => ?_)
  have r1' := r1.mono st2
  cases r1' with
  | tup h1 q1 =>
    cases r2 with
    | tup h2 q2 => exact ⟨_, _, _, _, rfl, .inr ⟨h1.sq, h2.sq, Out.ok s2.sim k2 _ s2 (.zip h1 q1 h2 q2)⟩⟩
    | _ => exact (show False from k2).elim
  | _ => cases r2 <;> exact (show False from k2).elim
end
end Rm

/- RmH: targets, comprehensions, statements. -/
namespace Rm
open PySem PySem.Spec L2

/-! ### targets -/
mutual
def slotsG : IG → List Nat
  | .nm i => [i]
  | .tp gs => slotsGs gs
def slotsGs : List IG → List Nat
  | [] => []
  | g :: gs => slotsG g ++ slotsGs gs
end
/-- but for these slots the same -/
def Same (is : List Nat) (σ σ' : L2.St) : Prop := σ'.length = σ.length ∧ ∀ i, i ∉ is → σ'[i]? = σ[i]?
theorem Same.refl (is : List Nat) (σ : L2.St) : Same is σ σ := ⟨rfl, fun _ _ => rfl⟩
theorem Same.trans {is js : List Nat} {σ σ1 σ2 : L2.St} (a : Same is σ σ1) (b : Same js σ1 σ2) : Same (is ++ js) σ σ2 :=
  ⟨b.1.trans a.1, fun i h => (b.2 i fun m => h (List.mem_append_right _ m)).trans (a.2 i fun m => h (List.mem_append_left _ m))⟩
theorem wipe_at (σ : L2.St) (i : Nat) : ∀ vs : List Nat, (wipe σ vs)[i]? = if i ∈ vs ∧ i < σ.length then some none else σ[i]?
  | [] => by
    rw [if_neg (by simp)]
    rfl
  | v :: vs => by
    unfold L2.wipe
    by_cases h : v = i
    · subst h
      by_cases l : v < σ.length
      · rw [List.getElem?_set_self (by rw [wipe_length]; exact l), if_pos ⟨List.mem_cons_self, l⟩]
      · rw [List.getElem?_eq_none (by rw [List.length_set, wipe_length]; omega), if_neg fun z => l z.2, List.getElem?_eq_none (by omega)]
    · rw [List.getElem?_set_ne h, wipe_at σ i vs]
      by_cases m : i ∈ vs ∧ i < σ.length
      · rw [if_pos m, if_pos ⟨List.mem_cons_of_mem _ m.1, m.2⟩]
      · rw [if_neg m, if_neg fun z => m ⟨(List.mem_cons.mp z.1).resolve_left (Ne.symm h), z.2⟩]
theorem Same.wipe {is vs : List Nat} {σ σ' : L2.St} (a : Same is σ σ') (h : ∀ i ∈ is, i ∈ vs) : wipe σ' vs = wipe σ vs := by
  apply List.ext_getElem?
  intro i
  rw [wipe_at, wipe_at, a.1]
  by_cases m : i ∈ vs ∧ i < σ.length
  · rw [if_pos m, if_pos m]
  · rw [if_neg m, if_neg m]
    by_cases k : i ∈ is
    · have hl : ¬ i < σ.length := fun l => m ⟨h i k, l⟩
      rw [List.getElem?_eq_none (by rw [a.1]; omega), List.getElem?_eq_none (by omega)]
    · exact a.2 i k
def TGI (Z : Zz) (g : IG) : TG := fun v σ H Q => ∃ ρ h sg d sg', St Z ρ h sg σ H ∧ Rel Z.K ρ H d v ∧ asgG g d sg = some sg' ∧ ∀ σ', Same (slotsG g) σ σ' → SRel Z.K ρ H sg' σ' → Q σ' H
def TGIs (Z : Zz) (gs : List IG) : TGs := fun vs σ H Q => ∃ ρ h sg ds sg', St Z ρ h sg σ H ∧ Rels Z.K ρ H ds vs ∧ asgGs gs ds sg = some sg' ∧ ∀ σ', Same (slotsGs gs) σ σ' → SRel Z.K ρ H sg' σ' → Q σ' H
theorem pg_weak {X : Cx} {e : Expr} {t u : TG} (h : PG X e t) (w : ∀ v σ H Q, u v σ H Q → t v σ H Q) : PG X e u := ⟨fun pins s σ H v x Q I r q => h.run pins s σ H v x Q I r (w v σ H Q q)⟩
theorem pgs_weak {X : Cx} {es : List Expr} {t u : TGs} (h : PGs X es t) (w : ∀ v σ H Q, u v σ H Q → t v σ H Q) : PGs X es u := ⟨fun pins s σ H v x Q I r q => h.run pins s σ H v x Q I r (w v σ H Q q)⟩
def locB (t : Sta) (x : Str) : Bool := match t.sc.names.lookup x with
  | some .local => true
  | some .cell => t.fn x
  | _ => false
mutual
def ckG (t : Sta) : IG → Expr → Bool
  | .nm i, .Name x _ => decide (t.N[i]? = some x) && locB t x
  | .tp gs, .Tuple es _ _ => t.calm && ckGs t gs es
  | _, _ => false
def ckGs (t : Sta) : List IG → List Expr → Bool
  | [], [] => true
  | g :: gs, e :: es => ckG t g e && ckGs t gs es
  | _, _ => false
end
theorem ckG_each {t : Sta} {g : IG} {e : Expr} {es : List Expr} {env : PySem.Env} (h : ckG t g e = true) : assignEach (e :: es) env = (false, assign e env) :: assignEach es env := by
  cases e <;> first | rfl | (cases g <;> cases h)
theorem ckGs_each {t : Sta} {env : PySem.Env} : ∀ {gs : List IG} {es : List Expr}, ckGs t gs es = true → (assignEach es env).length = gs.length ∧ (assignEach es env).findIdx? (·.1) = none
  | [], [], _ => ⟨rfl, rfl⟩
  | [], _ :: _, h => by cases h
  | _ :: _, [], h => by cases h
  | g :: gs, e :: es, h => by
    have h' : (ckG t g e && ckGs t gs es) = true := h
    rw [Bool.and_eq_true] at h'
    obtain ⟨a, b⟩ := ckGs_each (env := env) h'.2
    rw [ckG_each h'.1]
    refine ⟨by rw [List.length_cons, a, List.length_cons], ?_⟩
    rw [List.findIdx?_cons]
    simp [b]
section
variable {G : Glo} {P : Prog} {T : Tab} {w n : Nat} {cu : Option (Nat × List (Nat × D))} {U : Value × Option Addr}
theorem asgGs_len : ∀ {gs : List IG} {ds : List D} {sg sg' : Vars}, asgGs gs ds sg = some sg' → ds.length = gs.length
  | [], [], _, _, _ => rfl
  | [], _ :: _, _, _, h => by simp [asgGs] at h
  | _ :: _, [], _, _, h => by simp [asgGs] at h
  | g :: gs, d :: ds, sg, sg', h => by
    have h' : (asgG g d sg).bind (asgGs gs ds) = some sg' := by rw [← h, asgGs]
    obtain ⟨s1, _, h2⟩ := Option.bind_eq_some_iff.mp h'
    rw [List.length_cons, List.length_cons, asgGs_len h2]
mutual
theorem okG {t : Sta} {X : Cx} {W : WX} (C : Cxt G P T w n cu U t X W) : ∀ {g : IG} {e : Expr}, ckG t g e = true → PG X e (TGI (zz ⟨G, cu, U, W⟩ X) g)
  | .nm i, .Name x p, h => by
    have h' : (decide (t.N[i]? = some x) && locB t x) = true := by rw [← h, ckG]
    rw [Bool.and_eq_true, decide_eq_true_iff] at h'
    obtain ⟨h1, h2⟩ := h'
    have hL : Loc X.env.scope x ∧ (X.fn x = true ∨ X.env.scope.names.lookup x = some .local) := by
      rw [C.hsc, C.hfn]
      unfold locB at h2
      cases e : t.sc.names.lookup x with
      | none => rw [e] at h2; cases h2
      | some k =>
        rw [e] at h2
        cases k with
        | «local» => exact ⟨.inl e, .inr rfl⟩
        | cell => exact ⟨.inr e, .inl h2⟩
        | _ => cases h2
    refine pg_weak (pg_name (by rw [C.hN]; exact C.nd) (by rw [C.hN]; exact h1) hL.1 hL.2) fun v σ H Q ⟨ρ, h, sg, d, sg', s, r, e, q⟩ => ?_
    rw [asgG] at e
    cases e
    exact q _ ⟨by rw [List.length_set], fun j hj => List.getElem?_set_ne fun z => hj (by rw [slotsG, z]; exact List.mem_singleton.mpr rfl)⟩ (s.sl.set i r)
  | .tp gs, .Tuple es k p, h => by
    have h' : (t.calm && ckGs t gs es) = true := by rw [← h, ckG]
    rw [Bool.and_eq_true] at h'
    obtain ⟨h1, h2⟩ := h'
    obtain ⟨l, f⟩ := ckGs_each (env := X.env) h2
    refine pg_weak (pg_tup (C.hc h1) (okGs C h2) l f) fun v σ H Q ⟨ρ, h, sg, d, sg', s, r, e, q⟩ => ?_
    cases r with
    | @tup xs ys a hh rr =>
      rw [asgG] at e
      exact ⟨a, ys, rfl, hh.sq, by rw [← rr.length]; exact asgGs_len e, ρ, h, sg, xs, sg', s, rr, e, by rw [slotsG] at q; exact q⟩
    | _ => simp [asgG] at e
  | .nm i, .BoolOp .., h => by simp [ckG] at h
  | .nm i, .NamedExpr .., h => by simp [ckG] at h
  | .nm i, .BinOp .., h => by simp [ckG] at h
  | .nm i, .UnaryOp .., h => by simp [ckG] at h
  | .nm i, .Tuple .., h => by simp [ckG] at h
  | .tp gs, .Name .., h => by simp [ckG] at h
theorem okGs {t : Sta} {X : Cx} {W : WX} (C : Cxt G P T w n cu U t X W) : ∀ {gs : List IG} {es : List Expr}, ckGs t gs es = true → PGs X es (TGIs (zz ⟨G, cu, U, W⟩ X) gs)
  | [], [], _ => pgs_weak pgs_nil fun v σ H Q ⟨ρ, h, sg, ds, sg', s, r, e, q⟩ => by
    cases r with
    | nil =>
      rw [asgGs] at e
      cases e
      exact ⟨rfl, q _ (Same.refl _ _) s.sl⟩
    | cons _ _ => simp [asgGs] at e
  | g :: gs, e :: es, h => by
    have h' : (ckG t g e && ckGs t gs es) = true := by rw [← h, ckGs]
    rw [Bool.and_eq_true] at h'
    refine pgs_weak (pgs_cons (okG C h'.1) (okGs C h'.2) (by rw [ckG_each h'.1]; rfl)) fun v σ H Q ⟨ρ, h, sg, ds, sg', s, r, ee, q⟩ => ?_
    cases r with
    | nil => simp [asgGs] at ee
    | @cons d v' ds vs r rr =>
      have e' : (asgG g d sg).bind (asgGs gs ds) = some sg' := by rw [← ee, asgGs]
      obtain ⟨s1, e1, e2⟩ := Option.bind_eq_some_iff.mp e'
      refine ⟨v', vs, rfl, ρ, h, sg, d, s1, s, r, e1, fun σ1 m1 r1 => ⟨ρ, h, s1, ds, sg', ⟨s.sim, r1, s.cu⟩, rr, e2, fun σ2 m2 r2 => q _ ?_ r2⟩⟩
      rw [slotsGs]
      exact m1.trans m2
  | [], _ :: _, h => by simp [ckGs] at h
  | _ :: _, [], h => by simp [ckGs] at h
end
end
end Rm

/- RmI: comprehensions, statements. -/
namespace Rm
open PySem PySem.Spec L2

/-! ### comprehensions -/
section
variable {G : Glo} {P : Prog} {T : Tab} {w n : Nat} {cu : Option (Nat × List (Nat × D))} {U : Value × Option Addr} {t : Sta} {X : Cx} {W : WX}
def W0 : WX := fun _ _ _ _ => False
theorem takes0 {X : Cx} : Takes X W0 := fun u s' x => by
  obtain ⟨a, B, sI, pins, σ, H, cls, d, rfl, I, nb, up, sky, na, os, ag, w⟩ := x
  exact w.elim
def blkSta (t : Sta) (scope : Scope) : Sta := { t with sc := relS scope t.sc, blk := true, fn := fun x => scope.names.lookup x == some .cell }
theorem Cxt.block (C : Cxt G P T w n cu U t X W) (s : Shared) (H : Hp) (scope : Scope) (cl : List (Str × Addr)) (A : Addr) (fp : List Addr) : Cxt G P T w n cu U (blkSta t scope) (X.blk s H scope (compEnvC scope cl A X.env) fp) W0 :=
  ⟨C.gk, C.fh, C.hN, C.nd, by
    show relS scope X.env.scope = relS scope t.sc
    rw [C.hsc], C.hc, C.room, C.un, takes0, rfl, fun h => by cases h⟩
def mLc (w : Nat) (mi : Vars → M → R It) (g : IG) (own : List Nat) (mt : Vars → M → R Bool) (me : Vars → M → R D) (sg : Vars) (h : M) : R D := (mi sg h).bind fun J h1 => lcF J h1.length (fun x h2 => match asgG g x (wipeV sg own) with
      | some sg1 => (mt sg1 h2).bind fun b h3 => (match b with
        | true => (me sg1 h3).bind fun d h4 => .ok (some d) h4
        | false => .ok none h3)
      | none => .no) w 0 (h1 ++ [.lst []])
/-- tests of a clause -/
def TBI (Z : Zz) (m : Vars → M → R Bool) : TT := fun σ H Q => ∃ ρ h sg, St Z ρ h sg σ H ∧ Out Z.G Z.K Z.W ρ H σ (m sg h) fun b _ ρ' H' => Q b H'
theorem Out.bindo {α β : Type} {G : Glo} {K : Fr} {W : WX} {ρ : List Addr} {H : Hp} {σ : L2.St} {r : R α} {f : α → M → R β} {k : β → M → List Addr → Hp → Prop} (h : Out G K W ρ H σ (r.bind f) k) (hn : ∀ c fs h', r ≠ .exc c fs h') : Out G K W0 ρ H σ r fun a h1 ρ1 H1 => Out G K W ρ1 H1 σ (f a h1) k := by
  have h2 := h.bind
  cases r with
  | ok a h1 => exact h2
  | exc c fs h1 => exact absurd rfl (hn c fs h1)
  | no => exact h
theorem s_lc (C : Cxt G P T w n cu U t X W) (hcalm : t.calm = true) {tg iter elt : Expr} {ifs : List Expr} {scope : Scope} {own : List (Str × Nat)} {pos : Pos} {mi : Vars → M → R It} {g : IG} {mt : Vars → M → R Bool} {me : Vars → M → R D} (hi : PI X tg iter (TII (zz ⟨G, cu, U, W⟩ X) mi))
    (σ : L2.St) (H : Hp) (Q : VK) (h : TI (zz ⟨G, cu, U, W⟩ X) (mLc w mi g (own.map (·.2)) mt me) σ H Q) (hs : ∀ i ∈ slotsG g, i ∈ own.map (·.2)) :
    tLc (TII (zz ⟨G, cu, U, W⟩ X) mi) (TGI (zz ⟨G, cu, U, W0⟩ X) g) (TBI (zz ⟨G, cu, U, W0⟩ X) mt) (TI (zz ⟨G, cu, U, W0⟩ X) me) (own.map (·.2)) σ H Q := by
  obtain ⟨ρ, h, sg, s, o⟩ := h
  refine ⟨ρ, h, sg, s, o.bind.imp fun it h1 ρ1 H1 st1 sm1 k1 J s1 a1 D hD => ?_⟩
  have hn := s1.sim.fresh hD
  have stD : Step ρ1 H1 (ρ1 ++ [D]) (upd H1 D (.lst [])) := Step.alloc hD hn
  have smD : Sim G X.K (ρ1 ++ [D]) (h1 ++ [.lst []]) (upd H1 D (.lst [])) := s1.sim.push hD (.lst upd_same .nil)
  have atD : (ρ1 ++ [D])[h1.length]? = some D := by
    rw [← s1.sim.len, List.getElem?_append_right (Nat.le_refl _)]
    simp
  generalize hj : h1.length = j at k1 atD
  generalize hturn : (fun x h2 => match asgG g x (wipeV sg (own.map (·.2))) with
      | some sg1 => (mt sg1 h2).bind fun b h3 => (match b with
        | true => (me sg1 h3).bind fun d h4 => R.ok (some d) h4
        | false => R.ok none h3)
      | none => .no) = turn at k1
  refine ⟨fun i m H => ∃ ρ h, ρ[j]? = some D ∧ St (zz ⟨G, cu, U, W⟩ X) ρ h sg σ H ∧ ItAt X.K ρ H it J ∧ Out G X.K W ρ H σ (lcF it j turn m i h) fun d _ ρ' H' => ∀ v, Rel X.K ρ' H' d v → Q v H',
    ⟨w, _, _, atD, s1.go stD smD, a1.mono stD, ?_⟩, ?_⟩
  · -- the start
    cases e : lcF it j turn w 0 (h1 ++ [.lst []]) with
    | ok d h' => rw [e] at k1; exact fun ρ' H' st' sm' => k1 ρ' H' (stD.trans st') sm'
    | exc c fs h' => rw [e] at k1; exact fun ρ' H' cls d st' sm' x => k1 ρ' H' cls d (stD.trans st') sm' x
    | no => rw [e] at k1; exact k1
  · rintro i m H2 ⟨ρ2, h2, at2, s2, a2, o2⟩
    cases m with
    | zero => exact (show False from o2).elim
    | succ m =>
      unfold lcF at o2
      cases e : nth it h2 i with
      | none => rw [e] at o2; exact (show False from o2).elim
      | some y =>
        rw [e] at o2
        cases y with
        | none =>
          refine .inl ⟨a2.stop s2.sim e, ?_⟩
          exact Out.ok s2.sim o2 _ (.ref at2)
        | some x =>
          refine .inr ⟨(a2.next s2.sim e).1, fun H3 => ∃ ρ h, ρ[j]? = some D ∧ St (zz ⟨G, cu, U, W⟩ X) ρ h sg σ H3 ∧ ItAt X.K ρ H3 it J ∧ Out G X.K W ρ H3 σ (lcF it j turn m (i + 1) h) fun d _ ρ' H' => ∀ v, Rel X.K ρ' H' d v → Q v H', fun H' z => ⟨m, Nat.lt_succ_self m, z⟩, fun xv H3 yy => ?_⟩
          obtain ⟨st3, sm3, rx⟩ := (a2.next s2.sim e).2 xv H3 yy
          have s3 := s2.go st3 sm3
          have a3 := a2.mono st3
          dsimp only at o2
          cases et : turn x h2 with
          | no => rw [et] at o2; exact (show False from o2).elim
          | exc c fs h' => rw [et] at o2; exact (show False from o2).elim
          | ok od h' =>
            rw [et] at o2
            have et' := et
            rw [← hturn] at et'
            dsimp only at et'
            cases eg : asgG g x (wipeV sg (own.map (·.2))) with
            | none => rw [eg] at et'; cases et'
            | some sg1 =>
              rw [eg] at et'
              dsimp only at et'
              refine ⟨ρ2, h2, wipeV sg (own.map (·.2)), x, sg1, ⟨sm3, s3.sl.wipe _, s3.cu⟩, rx, eg, fun σ2 sa sl2 => ⟨sa.wipe hs |>.trans ?_, ?_⟩⟩
              · apply List.ext_getElem?
                intro k
                rw [wipe_at, wipe_at, wipe_length]
                by_cases z : k ∈ own.map (·.2) ∧ k < σ.length
                · rw [if_pos z, if_pos z]
                · rw [if_neg z, if_neg z]
              have s4 : St (zz ⟨G, cu, U, W0⟩ X) ρ2 h2 sg1 σ2 H3 := ⟨sm3, sl2, s3.cu⟩
              refine ⟨ρ2, h2, sg1, s4, ?_⟩
              cases em : mt sg1 h2 with
              | no => rw [em] at et'; cases et'
              | exc c fs h' => rw [em] at et'; cases et'
              | ok b h5 =>
                rw [em] at et'
                intro ρ5 H5 st5 sm5
                have st25 := st3.trans st5
                cases b with
                | false =>
                  have et' : R.ok none h5 = R.ok od h' := et'
                  dsimp only
                  rw [if_neg Bool.false_ne_true]
                  cases et'
                  dsimp only at o2
                  refine ⟨ρ5, h', st25.at at2, s3.go st5 sm5, a3.mono st5, ?_⟩
                  cases e6 : lcF it j turn m (i + 1) h' with
                  | ok d h7 => rw [e6] at o2; exact fun ρ' H' st' sm' => o2 ρ' H' (st25.trans st') sm'
                  | exc c fs h7 => rw [e6] at o2; exact fun ρ' H' cls d st' sm' x => o2 ρ' H' cls d (st25.trans st') sm' x
                  | no => rw [e6] at o2; exact o2
                | true =>
                  have et' : ((me sg1 h5).bind fun d h4 => R.ok (some d) h4) = R.ok od h' := et'
                  dsimp only
                  rw [if_pos rfl]
                  refine ⟨ρ5, h5, sg1, s4.go st5 sm5, ?_⟩
                  cases ee : me sg1 h5 with
                  | no => rw [ee] at et'; cases et'
                  | exc c fs h' => rw [ee] at et'; cases et'
                  | ok d h6 =>
                    rw [ee] at et'
                    have et' : R.ok (some d) h6 = R.ok od h' := et'
                    injection et' with e8 e9
                    subst e8
                    subst e9
                    dsimp only at o2
                    intro ρ6 H6 st6 sm6 v rv
                    have at6 := (st25.trans st6).at at2
                    cases eh : h6[j]? with
                    | none => rw [eh] at o2; exact (show False from o2).elim
                    | some ob =>
                      rw [eh] at o2
                      cases ob with
                      | ins c fs => exact (show False from o2).elim
                      | lst ys =>
                        dsimp only at o2
                        by_cases hl : ys.length < LINE
                        · rw [if_pos hl] at o2
                          obtain ⟨acc, eacc, racc⟩ := sm6.lst at6 eh
                          refine ⟨acc, eacc, by rw [← racc.length]; exact line_lt hl, ρ6, h6.set j (.lst (ys ++ [d])), at6, ?_, ?_, ?_⟩
                          all_goals have stw : Step ρ6 H6 ρ6 (upd H6 D (.lst (acc ++ [v]))) := Step.write (List.mem_of_getElem? at6)
                          · exact ((s3.go st5 sm5).go st6 sm6).go stw (sm6.write at6 (.lst upd_same ((racc.append (.cons rv .nil)).mono stw)))
                          · exact ((a3.mono st5).mono st6).mono stw
                          · have stA := (st25.trans st6).trans stw
                            cases e6 : lcF it j turn m (i + 1) (h6.set j (.lst (ys ++ [d]))) with
                            | ok d h7 => rw [e6] at o2; exact fun ρ' H' st' sm' => o2 ρ' H' (stA.trans st') sm'
                            | exc c fs h7 => rw [e6] at o2; exact fun ρ' H' cls d st' sm' x => o2 ρ' H' cls d (stA.trans st') sm' x
                            | no => rw [e6] at o2; exact o2
                        · rw [if_neg hl] at o2
                          exact (show False from o2).elim
theorem s_lcE (C : Cxt G P T w n cu U t X W) (hcalm : t.calm = true) {tg iter elt : Expr} {ifs : List Expr} {scope : Scope} {own : List (Str × Nat)} {pos : Pos} {mi : Vars → M → R It} {g : IG} {mt : Vars → M → R Bool} {me : Vars → M → R D} (hi : PI X tg iter (TII (zz ⟨G, cu, U, W⟩ X) mi))
    (hs : ∀ i ∈ slotsG g, i ∈ own.map (·.2)) (ok : BlkOk t.N t.sc scope own)
    (hg : ∀ X', Cxt G P T w n cu U (blkSta t scope) X' W0 → X'.K = X.K → PG X' tg (TGI (zz ⟨G, cu, U, W0⟩ X') g))
    (ht : ∀ X', Cxt G P T w n cu U (blkSta t scope) X' W0 → X'.K = X.K → PTs X' ifs (TBI (zz ⟨G, cu, U, W0⟩ X') mt))
    (he : ∀ X', Cxt G P T w n cu U (blkSta t scope) X' W0 → X'.K = X.K → PE X' elt (TI (zz ⟨G, cu, U, W0⟩ X') me)) (hf : ∀ x, foldedSetIterable iter X.env x = pure x) :
    PE X (.ListComp elt [⟨tg, iter, ifs, 0⟩] scope pos) (TI (zz ⟨G, cu, U, W⟩ X) (mLc w mi g (own.map (·.2)) mt me)) :=
  pe_weak (pe_lc (C.hc hcalm) (by rw [C.hN]; exact C.nd) hi (by rw [C.hN, C.hsc]; exact ok) (fun s H A cl fp => hg _ (C.block s H scope cl A fp) rfl) (fun s H A cl fp => ht _ (C.block s H scope cl A fp) rfl) (fun s H A cl fp => he _ (C.block s H scope cl A fp) rfl) hf)
    fun σ H Q h => s_lc C hcalm (elt := elt) (ifs := ifs) (scope := scope) (pos := pos) hi σ H Q h hs

/-! ### statements -/
def OutS (Z : Zz) (ρ : List Addr) (H : Hp) (r : S) (D : Ends) : Prop := match r with
  | .ok .nx sg' h' => ∀ ρ' σ' H', Step ρ H ρ' H' → St Z ρ' h' sg' σ' H' → D.nx σ' H'
  | .ok .brk sg' h' => ∀ ρ' σ' H', Step ρ H ρ' H' → St Z ρ' h' sg' σ' H' → D.bk σ' H'
  | .ok .ct sg' h' => ∀ ρ' σ' H', Step ρ H ρ' H' → St Z ρ' h' sg' σ' H' → D.ct σ' H'
  | .ok (.ret d) _ h' => ∀ ρ' H' v, Step ρ H ρ' H' → Sim Z.G Z.K ρ' h' H' → Rel Z.K ρ' H' d v → D.rt v H'
  | .exc c fs sg' h' => ∀ ρ' σ' H' cls d, Step ρ H ρ' H' → St Z ρ' h' sg' σ' H' → ExcAt Z.G Z.K ρ' H' c fs cls d → Z.W cls d σ' H'
  | .no => False
theorem OutS.step {Z : Zz} {ρ ρ1 : List Addr} {H H1 : Hp} {r : S} {D : Ends} (st : Step ρ H ρ1 H1) (o : OutS Z ρ H r D) : OutS Z ρ1 H1 r D := by
  cases r with
  | ok f sg h =>
    cases f with
    | nx => exact fun ρ' σ' H' s' => o ρ' σ' H' (st.trans s')
    | brk => exact fun ρ' σ' H' s' => o ρ' σ' H' (st.trans s')
    | ct => exact fun ρ' σ' H' s' => o ρ' σ' H' (st.trans s')
    | ret d => exact fun ρ' H' v s' => o ρ' H' v (st.trans s')
  | exc c fs sg h => exact fun ρ' σ' H' cls d s' => o ρ' σ' H' cls d (st.trans s')
  | no => exact o
def TSI (Z : Zz) (m : Vars → M → S) : TS := fun D σ H => ∃ ρ h sg, St Z ρ h sg σ H ∧ OutS Z ρ H (m sg h) D
theorem ps_weak {X : Cx} {st : Stmt} {t u : TS} (h : PS X st t) (w : ∀ D σ H, u D σ H → t D σ H) : PS X st u := ⟨fun pins s σ H D I q => h.run pins s σ H D I (w D σ H q)⟩
theorem pss_weak {X : Cx} {st : List Stmt} {t u : TS} (h : PSs X st t) (w : ∀ D σ H, u D σ H → t D σ H) : PSs X st u := ⟨fun pins s σ H D I q => h.run pins s σ H D I (w D σ H q)⟩
/-- an expression ahead of the rest of a statement -/
theorem st_go {α : Type} {Z : Zz} {ρ : List Addr} {h : M} {sg : Vars} {σ : L2.St} {H : Hp} {r : R α} {f : α → M → S} {D : Ends} (s : St Z ρ h sg σ H) (o : OutS Z ρ H (r.st sg f) D) :
    Out Z.G Z.K Z.W ρ H σ r fun a h1 ρ1 H1 => St Z ρ1 h1 sg σ H1 ∧ OutS Z ρ1 H1 (f a h1) D := by
  cases r with
  | ok a h1 => exact fun ρ1 H1 st sm => ⟨s.go st sm, OutS.step st o⟩
  | exc c fs h1 => exact fun ρ1 H1 cls d st sm x => o ρ1 σ H1 cls d st (s.go st sm) x
  | no => exact o
section
variable {Y : Yy} {e : Expr} {st : Stmt} {rest : List Stmt} {m1 m2 : Vars → M → S} {ma mb mc : Vars → M → R D} {pos : Pos}
theorem ss_nil : PSs X [] (TSI (zz Y X) fun sg h => .ok .nx sg h) := pss_weak pss_nil fun D σ H ⟨ρ, h, sg, s, o⟩ => o ρ σ H (Step.refl _ _) s
theorem ss_cons (h1 : PS X st (TSI (zz Y X) m1)) (h2 : PSs X rest (TSI (zz Y X) m2)) : PSs X (st :: rest) (TSI (zz Y X) fun sg h => (m1 sg h).seq m2) :=
  pss_weak (pss_cons h1 h2) fun D σ H ⟨ρ, h, sg, s, o⟩ => by
    refine ⟨ρ, h, sg, s, ?_⟩
    have o : OutS (zz Y X) ρ H ((m1 sg h).seq m2) D := o
    cases e : m1 sg h with
    | no => rw [e] at o; exact (show False from o).elim
    | exc c fs sg1 h1 => rw [e] at o; exact o
    | ok f sg1 h1 =>
      rw [e] at o
      cases f with
      | nx =>
        intro ρ' σ' H' st s'
        exact ⟨ρ', h1, sg1, s', OutS.step st o⟩
      | brk => exact o
      | ct => exact o
      | ret d => exact o
theorem S_pass : PS X (.Pass pos) (TSI (zz Y X) fun sg h => .ok .nx sg h) := ps_weak ps_pass fun D σ H ⟨ρ, h, sg, s, o⟩ => o ρ σ H (Step.refl _ _) s
theorem S_nev : PS X st (TSI (zz Y X) fun _ _ => .no) := ps_weak ps_never fun D σ H ⟨ρ, h, sg, s, o⟩ => o
def notLc : Expr → Bool
  | .ListComp .. => false
  | .SetComp .. => false
  | .DictComp .. => false
  | _ => true
theorem sw_not {e : Expr} (h : notLc e = true) (tg : Option Expr) (l : Nat) (env : PySem.Env) : swapsWith e tg l env = pure false := by
  cases e <;> first | rfl | cases h
def notTup : Expr → Bool
  | .Tuple .. => false
  | _ => true
def notList : Expr → Bool
  | .List .. => false
  | _ => true
theorem sws_not {tg e : Expr} (h : notTup tg = true ∨ notTup e = true) (hl : notList tg = true) (env : PySem.Env) : swappedStores [tg] e env = pure none := by
  rcases h with h | h
  · cases tg <;> first | rfl | (cases h; done) | (cases hl; done)
  · cases tg <;> first | (cases e <;> first | rfl | (cases h; done)) | (cases hl; done)
theorem S_ex (h : notLc e = true) (he : PE X e (TI (zz Y X) ma)) : PS X (.Expr e pos) (TSI (zz Y X) fun sg h => (ma sg h).st sg fun _ h1 => .ok .nx sg h1) :=
  ps_weak (ps_expr he (sw_not h _ _ _)) fun D σ H ⟨ρ, h, sg, s, o⟩ => ti_go s (st_go s o) fun d h1 ρ1 H1 st s1 k v r => k.2 _ _ _ (Step.refl _ _) k.1
theorem S_ret (he : PE X e (TI (zz Y X) ma)) : PS X (.Return (some e) pos) (TSI (zz Y X) fun sg h => (ma sg h).st sg fun x h1 => .ok (.ret x) sg h1) :=
  ps_weak (ps_ret he) fun D σ H ⟨ρ, h, sg, s, o⟩ => ti_go s (st_go s o) fun d h1 ρ1 H1 st s1 k v r => k.2 _ _ _ (Step.refl _ _) s1.sim r
theorem S_retN : PS X (.Return none pos) (TSI (zz Y X) fun sg h => .ok (.ret .non) sg h) := ps_weak ps_retN fun D σ H ⟨ρ, h, sg, s, o⟩ => o _ _ _ (Step.refl _ _) s.sim .non
theorem S_if {c : Expr} {a b : List Stmt} (hc : PT X c (TTI (zz Y X) mc)) (ha : PSs X a (TSI (zz Y X) m1)) (hb : PSs X b (TSI (zz Y X) m2)) : PS X (.If c a b pos) (TSI (zz Y X) fun sg h => (mc sg h).st sg fun x h1 => match x with
    | .bl true => m1 sg h1
    | .bl false => m2 sg h1
    | _ => .no) :=
  ps_weak (ps_if hc ha hb) fun D σ H ⟨ρ, h, sg, s, o⟩ => tti_go s (st_go s o) fun d h1 ρ1 H1 st s1 k => by
    cases d with
    | bl b =>
      refine ⟨b, rfl, ?_⟩
      cases b with
      | true => rw [if_pos rfl]; exact ⟨ρ1, h1, sg, s1, k.2⟩
      | false => rw [if_neg Bool.false_ne_true]; exact ⟨ρ1, h1, sg, s1, k.2⟩
    | _ => exact (show False from k.2).elim
end
end
end Rm

/- RmJ: assignments, loops. -/
namespace Rm
open PySem PySem.Spec L2
section
variable {G : Glo} {P : Prog} {T : Tab} {w n : Nat} {cu : Option (Nat × List (Nat × D))} {U : Value × Option Addr} {t : Sta} {X : Cx} {W : WX} {e o i tg : Expr} {ma mb mc : Vars → M → R D} {pos p p2 : Pos} {g : IG}
def mAsg (g : IG) (ma : Vars → M → R D) (sg : Vars) (h : M) : S := (ma sg h).st sg fun x h1 => match asgG g x sg with
    | some sg1 => .ok .nx sg1 h1
    | none => .no
theorem asg_go {σ : L2.St} {H : Hp} {D : Ends} {d : Rm.D} {v : V} {ρ : List Addr} {h : M} {sg : Vars} (s : St (zz ⟨G, cu, U, W⟩ X) ρ h sg σ H) (r : Rel X.K ρ H d v) (o : OutS (zz ⟨G, cu, U, W⟩ X) ρ H (match (generalizing := false) asgG g d sg with
    | some sg1 => S.ok .nx sg1 h
    | none => .no) D) : TGI (zz ⟨G, cu, U, W⟩ X) g v σ H D.nx := by
  cases e : asgG g d sg with
  | none => rw [e] at o; exact (show False from o).elim
  | some sg1 =>
    rw [e] at o
    exact ⟨ρ, h, sg, d, sg1, s, r, e, fun σ' _ sl => o _ _ _ (Step.refl _ _) ⟨s.sim, sl, s.cu⟩⟩
theorem ckG_notList (h : ckG t g tg = true) : notList tg = true := by
  cases tg <;> first | rfl | (cases g <;> cases h)
theorem S_asg (C : Cxt G P T w n cu U t X W) (hg : ckG t g tg = true) (hn : notLc e = true) (ht : notTup tg = true ∨ notTup e = true) (he : PE X e (TI (zz ⟨G, cu, U, W⟩ X) ma)) : PS X (.Assign [tg] e pos) (TSI (zz ⟨G, cu, U, W⟩ X) (mAsg g ma)) :=
  ps_weak (ps_asg he (okG C hg) (sw_not hn _ _ _) (sws_not ht (ckG_notList hg) _) (by rw [ckG_each hg] <;> rfl)) fun D σ H ⟨ρ, h, sg, s, o⟩ => ti_go s (st_go s o) fun d h1 ρ1 H1 st s1 k v r => asg_go k.1 r k.2
/-- name = [..] -/
def isFun : ScopeKind → Bool
  | .function => true
  | _ => false
def lcSwap (t : Sta) (scope : Scope) (y : Str) (py pos : Pos) : Bool := isFun t.sc.kind && (t.sc.names.lookup y == some .local) && (py.line == pos.line) && !(scope.names.any fun (n, k) => n == y && (k == .local || k == .cell))
theorem sw_lc {elt : Expr} {gs : List Comprehension} {scope : Scope} {pos py : Pos} {y : Str} {l : Nat} {env : PySem.Env} (hk : env.scope.kind = .function) : swapsWith (.ListComp elt gs scope pos) (some (.Name y py)) l env = pure ((env.scope.names.lookup y == some .local) && (py.line == pos.line) && !(scope.names.any fun (n, k) => n == y && (k == .local || k == .cell))) := by
  have hb : env.blockKind = .function := by unfold PySem.Env.blockKind; rw [hk]; rfl
  unfold swapsWith
  simp only [hb, Expr.pos]
  rfl
theorem S_setLc (C : Cxt G P T w n cu U t X W) (hcalm : t.calm = true) {j : Nat} {y : Str} {py spos : Pos} {iter elt tg : Expr} {ifs : List Expr} {scope : Scope} {own : List (Str × Nat)} {mi : Vars → M → R It} {mt : Vars → M → R Bool} {me : Vars → M → R D} (hy : t.N[j]? = some y)
    (hsw : lcSwap t scope y py pos = true) (hi : PI X tg iter (TII (zz ⟨G, cu, U, W⟩ X) mi))
    (hs : ∀ i ∈ slotsG g, i ∈ own.map (·.2)) (ok : BlkOk t.N t.sc scope own)
    (hg : ∀ X', Cxt G P T w n cu U (blkSta t scope) X' W0 → X'.K = X.K → PG X' tg (TGI (zz ⟨G, cu, U, W0⟩ X') g))
    (ht : ∀ X', Cxt G P T w n cu U (blkSta t scope) X' W0 → X'.K = X.K → PTs X' ifs (TBI (zz ⟨G, cu, U, W0⟩ X') mt))
    (he : ∀ X', Cxt G P T w n cu U (blkSta t scope) X' W0 → X'.K = X.K → PE X' elt (TI (zz ⟨G, cu, U, W0⟩ X') me)) (hf : ∀ x, foldedSetIterable iter X.env x = pure x) :
    PS X (.Assign [.Name y py] (.ListComp elt [⟨tg, iter, ifs, 0⟩] scope pos) spos) (TSI (zz ⟨G, cu, U, W⟩ X) (mAsg (.nm j) (mLc w mi g (own.map (·.2)) mt me))) := by
  unfold lcSwap at hsw
  rw [Bool.and_eq_true, Bool.and_eq_true, Bool.and_eq_true] at hsw
  obtain ⟨⟨⟨h1, h2⟩, h3⟩, h4⟩ := hsw
  have hk : t.sc.kind = .function := by
    cases e : t.sc.kind <;> rw [e] at h1 <;> first | rfl | cases h1
  have hl : t.sc.names.lookup y = some .local := by
    cases e : t.sc.names.lookup y with
    | none => rw [e] at h2; cases h2
    | some k => rw [e] at h2; cases k <;> first | rfl | cases h2
  have hk' : X.env.scope.kind = .function := by rw [C.hsc]; exact hk
  have hl' : X.env.scope.names.lookup y = some .local := by rw [C.hsc]; exact hl
  have h4' : (scope.names.any fun (n, k) => n == y && (k == .local || k == .cell)) = false := by simpa using h4
  refine ps_weak (ps_setLc (g := TGI (zz ⟨G, cu, U, W0⟩ X) g) (tt := TBI (zz ⟨G, cu, U, W0⟩ X) mt) (te := TI (zz ⟨G, cu, U, W0⟩ X) me) (C.hc hcalm) (by rw [C.hN]; exact C.nd) (by rw [C.hN]; exact hy) hl' (sw_true hk' hl' h3 h4') hi (by rw [C.hN, C.hsc]; exact ok) (fun s H A cl fp => hg _ (C.block s H scope cl A fp) rfl) (fun s H A cl fp => ht _ (C.block s H scope cl A fp) rfl) (fun s H A cl fp => he _ (C.block s H scope cl A fp) rfl) hf) fun D σ H ⟨ρ, h, sg, s, o⟩ => ?_
  refine s_lc C hcalm (elt := elt) (ifs := ifs) (scope := scope) (pos := pos) hi σ H _ (ti_go s (st_go s o) fun d h1 ρ1 H1 st s1 k v r => ?_) hs
  exact k.2 _ _ _ (Step.refl _ _) ⟨s1.sim, s1.sl.set j r, s1.cu⟩
theorem sw_ncall (e : Expr) {tg : Expr} (h : ∀ y p, tg ≠ .Name y p) (l : Nat) (env : PySem.Env) : swapsWith e (some tg) l env = pure false := by
  cases e <;> first | rfl | (cases tg <;> first | rfl | exact absurd rfl (h _ _))
theorem S_seti (hi : PE X i (TI (zz ⟨G, cu, U, W⟩ X) mb)) (ho : PE X o (TI (zz ⟨G, cu, U, W⟩ X) ma)) (hp : plainE i = true) (he : PE X e (TI (zz ⟨G, cu, U, W⟩ X) mc)) :
    PS X (.Assign [.Subscript o i p] e pos) (TSI (zz ⟨G, cu, U, W⟩ X) fun sg h => (mc sg h).st sg fun x h1 => (ma sg h1).st sg fun p h2 => (mb sg h2).st sg fun k h3 => match setIdx p k x h3 with
    | some h4 => .ok .nx sg h4
    | none => .no) := by
  have ha : ∀ v, assign (.Subscript o i p) X.env v = (do
      let ov ← holding [v] (eval o X.env)
      let iv ← holding [v, ov] (eval i X.env)
      standAt p
      holding [v, ov, iv] (setItem ov iv v)
      release [v, ov, iv] []) := by
    intro v
    cases i <;> first | rfl | cases hp
  refine ps_weak (ps_asg he (pg_sub ho hi set_list ha) (show swapsWith e (some (.Subscript o i p)) pos.line X.env = pure false from sw_ncall e (by intro y q z; cases z) _ _) (sws_not (.inl rfl) rfl _) rfl) fun D σ H ⟨ρ, h, sg, s, oo⟩ => ?_
  refine ti_go s (st_go s oo) fun d1 h1 ρ1 H1 st1 _ ⟨s1, k1⟩ v1 r1 => ti_go s1 (st_go s1 k1) fun d2 h2 ρ2 H2 st2 _ ⟨s2, k2⟩ v2 r2 => ti_go s2 (st_go s2 k2) fun d3 h3 ρ3 H3 st3 _ ⟨s3, k3⟩ v3 r3 => ?_
  have r1' := (r1.mono st2).mono st3
  have r2' := r2.mono st3
  cases r2' with
  | @ref q a hq =>
    cases r3 with
    | int k =>
      unfold setIdx at k3
      obtain ⟨ob, eo, _⟩ := s3.sim.at hq
      simp only [eo] at k3
      cases ob with
      | ins c fs => exact (show False from k3).elim
      | lst xs =>
        dsimp only at k3
        obtain ⟨ys, e3, rr⟩ := s3.sim.lst hq eo
        cases ej : ix xs.length k with
        | none => rw [ej] at k3; exact (show False from k3).elim
        | some j =>
          rw [ej] at k3
          have stw : Step ρ3 H3 ρ3 (upd H3 a (.lst (ys.set j v1))) := Step.write (List.mem_of_getElem? hq)
          refine ⟨a, ys, k, j, rfl, rfl, e3, by rw [← rr.length]; exact ej, ?_⟩
          exact k3 _ _ _ stw (s3.go stw (s3.sim.write hq (.lst upd_same ((rr.set j r1').mono stw))))
    | _ => exact (show False from k3).elim
  | _ => cases r3 <;> exact (show False from k3).elim
theorem frel_put {G : Glo} {K : Fr} {ρ : List Addr} {H : Hp} (nd : G.flds.Nodup) {f : Nat} {nm : Str} (hn : G.flds[f]? = some nm) {d : D} {v : V} (r : Rel K ρ H d v) : ∀ {fs : List (Nat × D)} {gs : List (Str × V)}, FRel G K ρ H fs gs → FRel G K ρ H (fput f d fs) (putF nm v gs)
  | _, _, .nil => .cons hn r .nil
  | _, _, .cons (f := g) (n := gn) (d := d0) (v := v0) (fs := fs) (gs := gs) h r0 q => by
    unfold fput putF
    by_cases e : g = f
    · subst e
      rw [hn] at h
      cases h
      rw [if_pos rfl, if_pos rfl]
      exact .cons hn r q
    · have ne : ¬ gn = nm := fun z => by
        subst z
        exact e (nd_at nd h hn)
      rw [if_neg e, if_neg ne]
      exact .cons h r0 (frel_put nd hn r q)
theorem frel_len {G : Glo} {K : Fr} {ρ : List Addr} {H : Hp} : ∀ {fs : List (Nat × D)} {gs : List (Str × V)}, FRel G K ρ H fs gs → fs.length = gs.length
  | _, _, .nil => rfl
  | _, _, .cons _ _ q => congrArg Nat.succ (frel_len q)
theorem S_setf (C : Cxt G P T w n cu U t X W) {f : Nat} {fn : Str} (hf : G.flds[f]? = some fn) (ho : PE X o (TI (zz ⟨G, cu, U, W⟩ X) ma)) (he : PE X e (TI (zz ⟨G, cu, U, W⟩ X) mc)) :
    PS X (.Assign [.Attribute o fn p] e pos) (TSI (zz ⟨G, cu, U, W⟩ X) fun sg h => (mc sg h).st sg fun x h1 => (ma sg h1).st sg fun p h2 => match setFld p f x h2 with
    | some h3 => .ok .nx sg h3
    | none => .no) := by
  refine ps_weak (ps_fld ho he (show swapsWith e (some (.Attribute o fn p)) pos.line X.env = pure false from sw_ncall e (by intro y q z; cases z) _ _)) fun D σ H ⟨ρ, h, sg, s, oo⟩ => ?_
  refine ti_go s (st_go s oo) fun d1 h1 ρ1 H1 st1 _ ⟨s1, k1⟩ v1 r1 => ti_go s1 (st_go s1 k1) fun d2 h2 ρ2 H2 st2 _ ⟨s2, k2⟩ v2 r2 => ?_
  have r1' := r1.mono st2
  cases r2 with
  | @ref q a hq =>
    unfold setFld at k2
    obtain ⟨ob, eo, _⟩ := s2.sim.at hq
    simp only [eo] at k2
    cases ob with
    | lst xs => exact (show False from k2).elim
    | ins c fs =>
      dsimp only at k2
      obtain ⟨dx, gs, e3, ⟨x, hx⟩, rr⟩ := s2.sim.ins hq eo
      obtain ⟨_, hc, _, hno⟩ := C.gk.cls x c hx
      by_cases hl : fs.length < 900
      · rw [if_pos hl] at k2
        have stw : Step ρ2 H2 ρ2 (upd H2 a (.ins (G.ca c) dx (putF fn v1 gs))) := Step.write (List.mem_of_getElem? hq)
        refine ⟨a, _, dx, gs, rfl, e3, hc, hno fn (List.mem_of_getElem? hf), by rw [← frel_len rr]; omega, ?_⟩
        exact k2 _ _ _ stw (s2.go stw (s2.sim.write hq (.ins upd_same ⟨x, hx⟩ ((frel_put C.gk.fnd hf r1' rr).mono stw))))
      · rw [if_neg hl] at k2
        exact (show False from k2).elim
  | _ => exact (show False from k2).elim

/-! ### loops -/
variable {body : List Stmt} {iter : Expr} {m : Vars → M → S} {mi : Vars → M → R It}
theorem S_for (C : Cxt G P T w n cu U t X W) (hb : t.blk = false) (hcalm : t.calm = true) (hg : ckG t g tg = true) (hi : PI X tg iter (TII (zz ⟨G, cu, U, W⟩ X) mi)) (hm : PSs X body (TSI (zz ⟨G, cu, U, W⟩ X) m)) (hf : ∀ x, foldedSetIterable iter X.env x = pure x) :
    PS X (.For tg iter body [] pos) (TSI (zz ⟨G, cu, U, W⟩ X) fun sg h => (mi sg h).st sg fun J h1 => forF J (fun x sg1 h2 => match asgG g x sg1 with
    | some sg2 => m sg2 h2
    | none => .no) w 0 sg h1) := by
  refine ps_weak (ps_for (C.po hb) (C.hc hcalm) hi (okG C hg) hm hf) fun D σ H ⟨ρ, h, sg, s, oo⟩ => ?_
  refine ⟨ρ, h, sg, s, (st_go s oo).imp fun it h1 ρ1 H1 st1 sm1 k1 J s1 a1 => ?_⟩
  obtain ⟨_, k1⟩ := k1
  generalize hturn : (fun x sg1 h2 => match asgG g x sg1 with
    | some sg2 => m sg2 h2
    | none => S.no) = turn at k1
  refine ⟨fun i k σ H => ∃ ρ h sg, St (zz ⟨G, cu, U, W⟩ X) ρ h sg σ H ∧ ItAt X.K ρ H it J ∧ OutS (zz ⟨G, cu, U, W⟩ X) ρ H (forF it turn k i sg h) D, ⟨w, ρ1, h1, sg, s1, a1, k1⟩, ?_⟩
  rintro i k σ2 H2 ⟨ρ2, h2, sg2, s2, a2, o2⟩
  cases k with
  | zero => exact (show False from o2).elim
  | succ k =>
    unfold forF at o2
    cases e : nth it h2 i with
    | none => rw [e] at o2; exact (show False from o2).elim
    | some y =>
      rw [e] at o2
      cases y with
      | none => exact .inl ⟨a2.stop s2.sim e, o2 _ _ _ (Step.refl _ _) s2⟩
      | some x =>
        dsimp only at o2
        refine .inr ⟨(a2.next s2.sim e).1, fun σ' H' => ∃ ρ h sg, St (zz ⟨G, cu, U, W⟩ X) ρ h sg σ' H' ∧ ItAt X.K ρ H' it J ∧ OutS (zz ⟨G, cu, U, W⟩ X) ρ H' (forF it turn k (i + 1) sg h) D, fun σ' H' z => ⟨k, Nat.lt_succ_self k, z⟩, fun xv H3 yy => ?_⟩
        obtain ⟨st3, sm3, rx⟩ := (a2.next s2.sim e).2 xv H3 yy
        have s3 := s2.go st3 sm3
        have a3 := a2.mono st3
        have et : turn x sg2 h2 = (match asgG g x sg2 with
          | some sg2 => m sg2 h2
          | none => S.no) := by rw [← hturn]
        cases eg : asgG g x sg2 with
        | none => rw [et, eg] at o2; exact (show False from o2).elim
        | some sg3 =>
          rw [et, eg] at o2
          refine ⟨ρ2, h2, sg2, x, sg3, s3, rx, eg, fun σ4 _ sl4 => ⟨ρ2, h2, sg3, ⟨sm3, sl4, s3.cu⟩, ?_⟩⟩
          dsimp only at o2
          cases em : m sg3 h2 with
          | no => rw [em] at o2; exact (show False from o2).elim
          | exc c fs sg5 h5 => rw [em] at o2; exact OutS.step st3 o2
          | ok f sg5 h5 =>
            rw [em] at o2
            cases f with
            | nx => exact fun ρ5 σ5 H5 st5 s5 => ⟨ρ5, h5, sg5, s5, a3.mono st5, OutS.step (st3.trans st5) o2⟩
            | ct => exact fun ρ5 σ5 H5 st5 s5 => ⟨ρ5, h5, sg5, s5, a3.mono st5, OutS.step (st3.trans st5) o2⟩
            | brk => exact OutS.step st3 o2
            | ret d => exact OutS.step st3 o2
theorem S_whl (C : Cxt G P T w n cu U t X W) (hb : t.blk = false) (hc : PT X e (TTI (zz ⟨G, cu, U, W⟩ X) mc)) (hm : PSs X body (TSI (zz ⟨G, cu, U, W⟩ X) m)) :
    PS X (.While e body [] pos) (TSI (zz ⟨G, cu, U, W⟩ X) fun sg h => whlF mc m w sg h) := by
  refine ps_weak (ps_while (C.po hb) hc hm) fun D σ H ⟨ρ, h, sg, s, oo⟩ => ?_
  refine ⟨fun k σ H => ∃ ρ h sg, St (zz ⟨G, cu, U, W⟩ X) ρ h sg σ H ∧ OutS (zz ⟨G, cu, U, W⟩ X) ρ H (whlF mc m k sg h) D, ⟨w, ρ, h, sg, s, oo⟩, ?_⟩
  rintro k σ2 H2 ⟨ρ2, h2, sg2, s2, o2⟩
  cases k with
  | zero => exact (show False from o2).elim
  | succ k =>
    unfold whlF at o2
    refine ⟨ρ2, h2, sg2, s2, ?_⟩
    cases ec : mc sg2 h2 with
    | no => rw [ec] at o2; exact (show False from o2).elim
    | exc c fs h3 => rw [ec] at o2; exact fun ρ1 H1 cls d st sm x => o2 ρ1 σ2 H1 cls d st (s2.go st sm) x
    | ok d h3 =>
      rw [ec] at o2
      intro ρ3 H3 st3 sm3
      have s3 := s2.go st3 sm3
      cases d with
      | bl b =>
        refine ⟨b, rfl, ?_⟩
        cases b with
        | false =>
          rw [if_neg Bool.false_ne_true]
          exact o2 _ _ _ st3 s3
        | true =>
          rw [if_pos rfl]
          dsimp only at o2
          refine ⟨fun σ' H' => ∃ ρ h sg, St (zz ⟨G, cu, U, W⟩ X) ρ h sg σ' H' ∧ OutS (zz ⟨G, cu, U, W⟩ X) ρ H' (whlF mc m k sg h) D, fun σ' H' z => ⟨k, Nat.lt_succ_self k, z⟩, ρ3, h3, sg2, s3, ?_⟩
          cases em : m sg2 h3 with
          | no => rw [em] at o2; exact (show False from o2).elim
          | exc c fs sg5 h5 => rw [em] at o2; exact OutS.step st3 o2
          | ok f sg5 h5 =>
            rw [em] at o2
            cases f with
            | nx => exact fun ρ5 σ5 H5 st5 s5 => ⟨ρ5, h5, sg5, s5, OutS.step (st3.trans st5) o2⟩
            | ct => exact fun ρ5 σ5 H5 st5 s5 => ⟨ρ5, h5, sg5, s5, OutS.step (st3.trans st5) o2⟩
            | brk => exact OutS.step st3 o2
            | ret d => exact OutS.step st3 o2
      | _ => exact (show False from o2).elim
end
end Rm

/- RmK: does a term stand for this text? And if so, it tells what the text does. -/
namespace Rm
open PySem PySem.Spec L2

/-! ### looks -/
def visB (t : Sta) (x : Str) : Bool := match t.sc.names.lookup x with
  | some .local => true
  | some .cell => true
  | some .free => true
  | _ => false
def glB (t : Sta) (x : Str) : Bool := match t.sc.names.lookup x with
  | some .globalImplicit => true
  | _ => false
def ndB (x : Str) : Bool := !(x == ("__debug__" : Str)) && !(x == ("__classdict__" : Str))
mutual
def eqDD : D → D → Bool
  | .non, .non => true
  | .bl a, .bl b => a == b
  | .int a, .int b => decide (a = b)
  | .str a, .str b => decide (a = b)
  | .tup a, .tup b => eqDDs a b
  | _, _ => false
def eqDDs : List D → List D → Bool
  | [], [] => true
  | x :: xs, y :: ys => eqDD x y && eqDDs xs ys
  | _, _ => false
end
mutual
theorem eqDD_ok : ∀ {a b : D}, eqDD a b = true → a = b
  | a, b, h => by
    cases a <;> cases b <;> first
      | rfl
      | (simp [eqDD] at h; done)
      | (simp [eqDD] at h; rw [h])
      | (simp only [eqDD] at h; rw [eqDDs_ok h])
theorem eqDDs_ok : ∀ {a b : List D}, eqDDs a b = true → a = b
  | [], [], _ => rfl
  | x :: xs, y :: ys, h => by
    simp only [eqDDs, Bool.and_eq_true] at h
    rw [eqDD_ok h.1, eqDDs_ok h.2]
  | [], _ :: _, h => by simp [eqDDs] at h
  | _ :: _, [], h => by simp [eqDDs] at h
end
def isB : BOp → Operator → Bool
  | .add, .Add => true
  | .sub, .Sub => true
  | .mul, .Mult => true
  | .fdiv, .FloorDiv => true
  | .mod, .Mod => true
  | .pow, .Pow => true
  | _, _ => false
theorem isB_ok {op : BOp} {o : Operator} (h : isB op o = true) : o = opB op := by cases op <;> cases o <;> first | rfl | cases h
def isC : COp → CmpOp → Bool
  | .lt, .Lt => true
  | .le, .LtE => true
  | .gt, .Gt => true
  | .ge, .GtE => true
  | .eq, .Eq => true
  | .ne, .NotEq => true
  | .inn, .In => true
  | .nin, .NotIn => true
  | _, _ => false
theorem isC_ok {op : COp} {o : CmpOp} (h : isC op o = true) : o = opC op := by cases op <;> cases o <;> first | rfl | cases h
def isNo : Bool → CmpOp → Bool
  | true, .Is => true
  | false, .IsNot => true
  | _, _ => false
theorem isNo_ok {b : Bool} {o : CmpOp} (h : isNo b o = true) : o = opN b := by cases b <;> cases o <;> first | rfl | cases h
def ckC (d : D) (k : Const) : Bool := match d, k with
  | .non, .none => true
  | .bl b, .bool b' => b == b'
  | .int i, .int j => decide (i = j)
  | .str x, .str y => decide (y = ⟨x.toArray⟩) && PyData.strOk y
  | _, _ => false
/-- a test's form -/
def tf : Expr → Bool
  | .UnaryOp .Not _ _ => true
  | .BoolOp _ es _ => tfs es
  | .Compare .. => true
  | .Call .. => true
  | .Name .. => true
  | .Attribute .. => true
  | .Subscript .. => true
  | _ => false
where tfs : List Expr → Bool
  | [] => true
  | e :: es => tf e && tfs es
def ownP (N : List Str) : List Nat → List (Str × Nat)
  | [] => []
  | i :: r => match N[i]? with
    | some x => (x, i) :: ownP N r
    | none => ownP N r
def bltB (G : Nam) (t : Sta) (x : Str) : Bool := glB t x && decide (x ∈ G.blts)
mutual
def ckE (G : Nam) (t : Sta) : IE → Expr → Bool
  | .c d, a => match a with
    | .Constant k _ _ => ckC d k
    | _ => false
  | .var i, a => match a with
    | .Name x _ => decide (t.N[i]? = some x) && visB t x && ndB x
    | _ => false
  | .glob d, a => match a with
    | .Name x _ => glB t x && ndB x && (match G.cons.find? (fun p => decide (p.1 = x)) with
      | some p => eqDD p.2 d
      | none => false)
    | _ => false
  | .bin op e f, a => match a with
    | .BinOp a o b _ => isB op o && ckE G t e a && ckE G t f b
    | _ => false
  | .neg e, a => match a with
    | .UnaryOp .USub a _ => ckE G t e a
    | _ => false
  | .cmp op e f, a => match a with
    | .Compare a [o] [b] _ => isC op o && ckE G t e a && ckE G t f b && plainE b
    | _ => false
  | .cmp2 o1 o2 e f g, a => match a with
    | .Compare a [p1, p2] [b, c] _ => isC o1 p1 && isC o2 p2 && ckE G t e a && ckE G t f b && ckE G t g c && !(lastMarks [p1, p2] [b, c])
    | _ => false
  | .isN yes e, a => match a with
    | .Compare a [o] [.Constant .none _ _] _ => isNo yes o && ckE G t e a
    | _ => false
  | .isB yes e b, a => match a with
    | .Compare a [o] [.Constant (.bool b') _ _] _ => isNo yes o && (b' == b) && ckE G t e a
    | _ => false
  | .conj es, a => match a with
    | .BoolOp .And as _ => !es.isEmpty && ckEs G t es as
    | _ => false
  | .disj es, a => match a with
    | .BoolOp .Or as _ => !es.isEmpty && ckEs G t es as
    | _ => false
  | .not e, a => match a with
    | .UnaryOp .Not a _ => ckE G t e a && tf a
    | _ => false
  | .ife c e f, a => match a with
    | .IfExp c' a b _ => ckE G t c c' && tf c' && ckE G t e a && ckE G t f b
    | _ => false
  | .tup es, a => match a with
    | .Tuple as _ _ => ckEs G t es as && as.all plainE && decide (es.length ≤ 1000)
    | _ => false
  | .lst es, a => match a with
    | .List as _ => ckEs G t es as && as.all plainE && decide (es.length ≤ 1000)
    | _ => false
  | .idx e f, a => match a with
    | .Subscript a b _ => ckE G t e a && ckE G t f b && plainE b
    | _ => false
  | .slc e lo hi, a => match a with
    | .Subscript a (.Slice l u none _) _ => ckE G t e a && ckO G t lo l && ckO G t hi u
    | _ => false
  | .fld e f, a => match a with
    | .Attribute a fn _ => ckE G t e a && plainE a && decide (G.flds[f]? = some fn)
    | _ => false
  | .call f es, a => match a with
    | .Call (.Name x _) as [] _ => t.calm && glB t x && ndB x && decide ((x, f) ∈ G.fns) && ckEs G t es as && as.all plainE
    | _ => false
  | .make c es, a => match a with
    | .Call (.Name x _) as [] _ => t.calm && glB t x && ndB x && decide ((x, c) ∈ G.clss) && ckEs G t es as && as.all plainE
    | _ => false
  | .meth m o es, a => match a with
    | .Call (.Attribute o' mn apos) as [] pos => t.calm && decide (G.mths[m]? = some mn) && ckE G t o o' && plainE o' && ckEs G t es as && as.all plainE && decide (as.length < 30) && (apos.endLine == pos.line)
    | _ => false
  | .blt f es, a => match a with
    | .Call (.Name x _) as [] _ => t.calm && decide (x = bfN f) && bltB G t x && !as.isEmpty && ckEs G t es as && as.all plainE
    | _ => false
  | .isi e ts, a => match a with
    | .Call (.Name x _) [a, b] [] _ => decide (x = "isinstance") && bltB G t x && ckE G t e a && plainE a && ts.all (fun ty => bltB G t (tyN ty)) && (match b with
      | .Name y _ => (match ts with
        | [ty] => decide (y = tyN ty)
        | _ => false)
      | .Tuple es _ _ => tyEs ts es && decide (ts.length ≤ 1000)
      | _ => false)
    | _ => false
  | .bm m o es, a => match a with
    | .Call (.Attribute o' mn apos) as [] pos => ckE G t o o' && plainE o' && ckEs G t es as && as.all plainE && decide (as.length < 29) && (apos.endLine == pos.line) && decide (mn = bmN m) && (match m, as with
      | .append, _ :: _ => true
      | .reverse, [] => true
      | _, _ => false)
    | _ => false
  | .lc e g it cs own, a => match a with
    | .ListComp elt [⟨tg, iter, ifs, 0⟩] scope _ => t.calm && ckG (blkSta t scope) g tg && ckI G t it tg iter && plainE iter && ckCs G (blkSta t scope) cs ifs && ckE G (blkSta t scope) e elt && (slotsG g).all (fun i => decide (i ∈ own)) && decide ((ownP t.N own).map (·.2) = own) && blkC t.N t.sc scope (ownP t.N own)
    | _ => false
  | .exf _, _ => false
  | .exi _, _ => false
def ckEs (G : Nam) (t : Sta) : List IE → List Expr → Bool
  | [], as => as.isEmpty
  | e :: es, as => match as with
    | a :: as => ckE G t e a && ckEs G t es as
    | [] => false
def ckO (G : Nam) (t : Sta) : Option IE → Option Expr → Bool
  | none, a => a.isNone
  | some e, a => match a with
    | some a => ckE G t e a
    | none => false
def ckI (G : Nam) (t : Sta) : II → Expr → Expr → Bool
  | .val e, _, a => ckE G t e a
  | .zip e f, tg, a => match tg, a with
    | .Tuple _ _ _, .Call (.Name x _) [a, b] [] _ => decide (x = "zip") && bltB G t x && ckE G t e a && plainE a && ckE G t f b && plainE b
    | _, _ => false
  | .rng1 e, _, a => match a with
    | .Call (.Name x _) [a] [] _ => decide (x = "range") && bltB G t x && ckE G t e a && plainE a
    | _ => false
  | .rng2 e f, _, a => match a with
    | .Call (.Name x _) [a, b] [] _ => decide (x = "range") && bltB G t x && ckE G t e a && plainE a && ckE G t f b && plainE b
    | _ => false
def ckCs (G : Nam) (t : Sta) : List IE → List Expr → Bool
  | [], as => as.isEmpty
  | e :: es, as => match as with
    | [a] => es.isEmpty && ckE G t e a && tf a
    | _ => false
end
end Rm

/- RmL: an expression's term tells what the text does. -/
namespace Rm
open PySem PySem.Spec L2

theorem few_evEs {Γ : Env} : ∀ {es : List IE} {sg : Vars} {h : M} {ds : List D} {h' : M}, evEs Γ es sg h = .ok ds h' → ds.length = es.length
  | [], sg, h, ds, h', e => by
    rw [evEs] at e
    cases e
    rfl
  | x :: es, sg, h, ds, h', e => by
    rw [evEs] at e
    cases e1 : evE Γ x sg h with
    | no => rw [e1] at e; cases e
    | exc c fs h1 => rw [e1] at e; cases e
    | ok d h1 =>
      rw [e1] at e
      have e : (evEs Γ es sg h1).bind (fun xs h2 => R.ok (d :: xs) h2) = .ok ds h' := e
      cases e2 : evEs Γ es sg h1 with
      | no => rw [e2] at e; cases e
      | exc c fs h2 => rw [e2] at e; cases e
      | ok xs h2 =>
        rw [e2] at e
        have e : R.ok (d :: xs) h2 = .ok ds h' := e
        cases e
        rw [List.length_cons, List.length_cons, few_evEs e2]
theorem len_ckEs {G : Nam} {t : Sta} : ∀ {es : List IE} {as : List Expr}, ckEs G t es as = true → es.length = as.length
  | [], as, h => by
    rw [ckEs, List.isEmpty_iff] at h
    rw [h]
    rfl
  | e :: es, [], h => by
    rw [ckEs.eq_def] at h
    cases h
  | e :: es, a :: as, h => by
    rw [ckEs.eq_def] at h
    have h : (ckE G t e a && ckEs G t es as) = true := h
    rw [Bool.and_eq_true] at h
    rw [List.length_cons, List.length_cons, len_ckEs h.2]
theorem optI_evO {Γ : Env} {o : Option IE} {sg : Vars} {h : M} {d : Option D} {h' : M} (e : evO Γ o sg h = .ok d h') : ∃ i, optI d = some i := by
  cases o with
  | none =>
    rw [evO] at e
    cases e
    exact ⟨none, rfl⟩
  | some x =>
    rw [evO] at e
    cases e1 : evE Γ x sg h with
    | no => rw [e1] at e; cases e
    | exc c fs h1 => rw [e1] at e; cases e
    | ok v h1 =>
      rw [e1] at e
      cases v with
      | int i =>
        have e : R.ok (some (D.int i)) h1 = .ok d h' := e
        cases e
        exact ⟨some i, rfl⟩
      | _ => exact (by cases (show R.no = R.ok d h' from e))
section
variable {G : Glo} {P : Prog} {T : Tab} {w n : Nat} {cu : Option (Nat × List (Nat × D))} {U : Value × Option Addr}
theorem gl_of {t : Sta} {X : Cx} {W : WX} (C : Cxt G P T w n cu U t X W) {x : Str} (h : glB t x = true) : Gl X x := by
  show X.env.scope.names.lookup x = some .globalImplicit
  rw [C.hsc]
  unfold glB at h
  cases e : t.sc.names.lookup x with
  | none => rw [e] at h; cases h
  | some k => rw [e] at h; cases k <;> first | rfl | cases h
theorem vis_of {t : Sta} {X : Cx} {W : WX} (C : Cxt G P T w n cu U t X W) {x : Str} (h : visB t x = true) : Vis X.env.scope x := by
  rw [C.hsc]
  unfold visB at h
  unfold Vis
  cases e : t.sc.names.lookup x with
  | none => rw [e] at h; cases h
  | some k => rw [e] at h; cases k <;> first | exact .inl rfl | exact .inr (.inl rfl) | exact .inr (.inr rfl) | cases h
theorem nd_of {x : Str} (h : ndB x = true) : (x == ("__debug__" : Str)) = false ∧ (x == ("__classdict__" : Str)) = false := by
  unfold ndB at h
  simp only [Bool.and_eq_true, Bool.not_eq_true'] at h
  exact h
theorem blt_of {t : Sta} {X : Cx} {W : WX} (C : Cxt G P T w n cu U t X W) {x : Str} (h : bltB G.toNam t x = true) : Gl X x ∧ X.mg x = none := by
  unfold bltB at h
  rw [Bool.and_eq_true, decide_eq_true_iff] at h
  exact ⟨gl_of C h.1, C.gk.blt x h.2⟩
theorem mark1 {op : CmpOp} {b : Expr} (h : plainE b = true) : behindInMarks op b = false := mark_plain h
theorem s_one {Y : Yy} {X : Cx} {a : Expr} {op : PySem.BoolOp} {pos : Pos} {ma mb : Vars → M → R D} (h : PE X a (TI (zz Y X) ma)) (e : ∀ sg hh, mb sg hh = (ma sg hh).bind fun x h1 => match x with
    | .bl true => .ok (.bl true) h1
    | .bl false => .ok (.bl false) h1
    | _ => .no) : PE X (.BoolOp op [a] pos) (TI (zz Y X) mb) :=
  pe_weak (pe_one h) fun σ H Q ⟨ρ, hh, sg, s, o⟩ => by
    rw [e] at o
    exact ti_go s o.bind fun d h1 ρ1 H1 st s1 k v r => by
      cases r with
      | bl b => cases b <;> exact ti_ok s1 (.bl _) k
      | _ => exact (show False from k).elim
theorem t_one {Y : Yy} {X : Cx} {a : Expr} {op : PySem.BoolOp} {pos : Pos} {ma mb : Vars → M → R D} (h : PT X a (TTI (zz Y X) ma)) (e : ∀ sg hh, mb sg hh = (ma sg hh).bind fun x h1 => match x with
    | .bl true => .ok (.bl true) h1
    | .bl false => .ok (.bl false) h1
    | _ => .no) : PW X (.BoolOp op [a] pos) (TTI (zz Y X) mb) := by
  have w : PW X (.BoolOp op [a] pos) (TTI (zz Y X) ma) := by
    cases op
    · exact pw_and1 h
    · exact pw_or1 h
  refine ⟨fun wh pins s0 σ H Q I ⟨ρ, hh, sg, s, o⟩ => w.run wh pins s0 σ H Q I ?_⟩
  rw [e] at o
  exact tti_go s o.bind fun d h1 ρ1 H1 st s1 k => by
    cases d with
    | bl b => cases b <;> exact Out.ok s1.sim k
    | _ => exact (show False from k).elim
theorem pe_to {X : Cx} {Z : Zz} {a : Expr} {m m' : Vars → M → R D} (h : PE X a (TI Z m)) (e : m' = m) : PE X a (TI Z m') := e ▸ h
theorem pt_to {X : Cx} {Z : Zz} {a : Expr} {m m' : Vars → M → R D} (h : PT X a (TTI Z m)) (e : m' = m) : PT X a (TTI Z m') := e ▸ h
theorem pa_to {X : Cx} {Z : Zz} {a : List Expr} {m m' : Vars → M → R (List D)} (h : PA X a (TAI Z m)) (e : m' = m) : PA X a (TAI Z m') := e ▸ h
abbrev ZZ (G : Glo) (cu : Option (Nat × List (Nat × D))) (U : Value × Option Addr) (W : WX) (X : Cx) : Zz := zz ⟨G, cu, U, W⟩ X
abbrev GM (P : Prog) (w n : Nat) (cu : Option (Nat × List (Nat × D))) : Env := gam P w n cu
theorem isi_ok {t : Sta} {X : Cx} {W : WX} (C : Cxt G P T w n cu U t X W) {ts : List Ty} {a b : Expr} {x : Str} {p pos : Pos} {ma : Vars → M → R D} (hx : x = "isinstance") (hb : bltB G.toNam t x = true) (ha : PE X a (TI (ZZ G cu U W X) ma)) (hp : plainE a = true)
    (h : (match b with
      | .Name y _ => (match ts with
        | [ty] => decide (y = tyN ty)
        | _ => false)
      | .Tuple es _ _ => tyEs ts es && decide (ts.length ≤ 1000)
      | _ => false) = true) (hts : ts.all (fun ty => bltB G.toNam t (tyN ty)) = true) : PE X (.Call (.Name x p) [a, b] [] pos) (TI (ZZ G cu U W X) (mIsi ts ma)) := by
  subst hx
  obtain ⟨g1, g2⟩ := blt_of C hb
  have all : ∀ ty ∈ ts, Gl X (tyN ty) ∧ X.mg (tyN ty) = none := fun ty hty => blt_of C (List.all_eq_true.mp hts ty hty)
  split at h
  · rename_i y q
    cases ts with
    | nil => cases h
    | cons ty r =>
      cases r with
      | cons _ _ => cases h
      | nil =>
        have h : decide (y = tyN ty) = true := h
        rw [decide_eq_true_iff] at h
        subst h
        obtain ⟨g3, g4⟩ := all ty List.mem_cons_self
        exact s_isi (p := p) (p2 := q) ty g1 g2 g3 g4 ha hp
  · rw [Bool.and_eq_true, decide_eq_true_iff] at h
    exact s_isiT ts h.2 g1 g2 all h.1 ha hp
  · cases h
def vf : Expr → Bool
  | .Call .. => true
  | .Name .. => true
  | .Attribute .. => true
  | .Subscript .. => true
  | _ => false
theorem t_rest {X : Cx} {Y : Yy} {a : Expr} {m : Vars → M → R D} (h : PE X a (TI (zz Y X) m)) (f : vf a = true) : PT X a (TTI (zz Y X) m) := by
  cases a <;> first
    | exact t_val h (fun _ => rfl)
    | (cases f; done)
mutual
theorem okE : ∀ {t : Sta} {X : Cx} {W : WX}, Cxt G P T w n cu U t X W → ∀ {e : IE} {a : Expr}, ckE G.toNam t e a = true → PE X a (TI (ZZ G cu U W X) (evE (GM P w n cu) e))
  | t, X, W, C, .c d, a, h => by
    rw [ckE.eq_def] at h
    dsimp only at h
    split at h
    · rename_i k j p
      refine pe_to (m := mC d) ?_ (by funext sg hh; rw [evE] <;> rfl)
      unfold ckC at h
      split at h
      · exact s_c pe_non fun _ _ => .non
      · rw [beq_iff_eq] at h
        subst h
        exact s_c pe_bl fun _ _ => .bl _
      · rw [decide_eq_true_iff] at h
        subst h
        exact s_c pe_int fun _ _ => .int _
      · rw [Bool.and_eq_true, decide_eq_true_iff] at h
        obtain ⟨rfl, h2⟩ := h
        exact s_c pe_str fun _ _ => .str _ h2
      · cases h
    · cases h
  | t, X, W, C, .var i, a, h => by
    rw [ckE.eq_def] at h
    dsimp only at h
    split at h
    · simp only [Bool.and_eq_true, decide_eq_true_iff] at h
      obtain ⟨⟨h1, h2⟩, h3⟩ := h
      obtain ⟨n1, n2⟩ := nd_of h3
      exact pe_to (s_var (pe_var (by rw [C.hN]; exact h1) (vis_of C h2) n1 n2)) (by funext sg hh; rw [evE] <;> rfl)
    · cases h
  | t, X, W, C, .glob d, a, h => by
    rw [ckE.eq_def] at h
    dsimp only at h
    split at h
    · rename_i x p
      simp only [Bool.and_eq_true] at h
      obtain ⟨⟨h1, h2⟩, h3⟩ := h
      obtain ⟨n1, _⟩ := nd_of h2
      split at h3
      · rename_i q hq
        have hm := List.mem_of_find?_eq_some hq
        have hx := List.find?_some hq
        rw [decide_eq_true_iff] at hx
        obtain ⟨x', d'⟩ := q
        have e1 : x' = x := hx
        have e2 : d' = d := eqDD_ok h3
        subst e1 e2
        obtain ⟨u, v, m1, m2, m3⟩ := C.gk.con x' d' hm
        exact pe_to (s_c (pe_glob (gl_of C h1) m1 m2 n1) m3) (by funext sg hh; rw [evE] <;> rfl)
      · cases h3
    · cases h
  | t, X, W, C, .bin op e f, a, h => by
    rw [ckE.eq_def] at h
    dsimp only at h
    split at h
    · simp only [Bool.and_eq_true] at h
      obtain ⟨⟨h1, h2⟩, h3⟩ := h
      rw [isB_ok h1]
      exact pe_to (s_bin op (okE C h2) (okE C h3)) (by funext sg hh; rw [evE] <;> rfl)
    · cases h
  | t, X, W, C, .neg e, a, h => by
    rw [ckE.eq_def] at h
    dsimp only at h
    split at h
    · exact pe_to (s_neg (okE C h)) (by funext sg hh; rw [evE] <;> rfl)
    · cases h
  | t, X, W, C, .cmp op e f, a, h => by
    rw [ckE.eq_def] at h
    dsimp only at h
    split at h
    · simp only [Bool.and_eq_true] at h
      obtain ⟨⟨⟨h1, h2⟩, h3⟩, h4⟩ := h
      rw [isC_ok h1]
      exact pe_to (s_cmp C.un op (okE C h2) (okE C h3) (mark1 h4)) (by funext sg hh; rw [evE] <;> rfl)
    · cases h
  | t, X, W, C, .cmp2 o1 o2 e f g, a, h => by
    rw [ckE.eq_def] at h
    dsimp only at h
    split at h
    · simp only [Bool.and_eq_true, Bool.not_eq_true'] at h
      obtain ⟨⟨⟨⟨⟨h1, h2⟩, h3⟩, h4⟩, h5⟩, h6⟩ := h
      rw [isC_ok h1, isC_ok h2] at h6 ⊢
      exact pe_to (s_cmp2 C.un o1 o2 (okE C h3) (okE C h4) (okE C h5) h6) (by funext sg hh; rw [evE] <;> rfl)
    · cases h
  | t, X, W, C, .isN yes e, a, h => by
    rw [ckE.eq_def] at h
    dsimp only at h
    split at h
    · simp only [Bool.and_eq_true] at h
      rw [isNo_ok h.1]
      exact pe_to (s_isN yes (okE C h.2)) (by funext sg hh; rw [evE] <;> rfl)
    · cases h
  | t, X, W, C, .isB yes e b, a, h => by
    rw [ckE.eq_def] at h
    dsimp only at h
    split at h
    · simp only [Bool.and_eq_true, beq_iff_eq] at h
      obtain ⟨⟨h1, h2⟩, h3⟩ := h
      subst h2
      rw [isNo_ok h1]
      exact pe_to (s_isB yes _ (okE C h3)) (by funext sg hh; rw [evE] <;> rfl)
    · cases h
  | t, X, W, C, .conj es, a, h => by
    rw [ckE.eq_def] at h
    dsimp only at h
    split at h
    · simp only [Bool.and_eq_true, Bool.not_eq_true'] at h
      exact pe_to (okA C h.1 h.2) (by funext sg hh; rw [evE] <;> rfl)
    · cases h
  | t, X, W, C, .disj es, a, h => by
    rw [ckE.eq_def] at h
    dsimp only at h
    split at h
    · simp only [Bool.and_eq_true, Bool.not_eq_true'] at h
      exact pe_to (okD C h.1 h.2) (by funext sg hh; rw [evE] <;> rfl)
    · cases h
  | t, X, W, C, .not e, a, h => by
    rw [ckE.eq_def] at h
    dsimp only at h
    split at h
    · simp only [Bool.and_eq_true] at h
      exact pe_to (s_not (okE C h.1)) (by funext sg hh; rw [evE] <;> rfl)
    · cases h
  | t, X, W, C, .ife c e f, a, h => by
    rw [ckE.eq_def] at h
    dsimp only at h
    split at h
    · simp only [Bool.and_eq_true] at h
      obtain ⟨⟨⟨h1, h2⟩, h3⟩, h4⟩ := h
      exact pe_to (s_ife (okT C h1 h2) (okE C h3) (okE C h4)) (by funext sg hh; rw [evE] <;> rfl)
    · cases h
  | t, X, W, C, .tup es, a, h => by
    rw [ckE.eq_def] at h
    dsimp only at h
    split at h
    · simp only [Bool.and_eq_true, decide_eq_true_iff] at h
      obtain ⟨⟨h1, h2⟩, h3⟩ := h
      exact pe_to (s_tup (okEs C h1 h2) fun sg hh ds h' e => by rw [few_evEs e]; exact h3) (by funext sg hh; rw [evE] <;> rfl)
    · cases h
  | t, X, W, C, .lst es, a, h => by
    rw [ckE.eq_def] at h
    dsimp only at h
    split at h
    · simp only [Bool.and_eq_true, decide_eq_true_iff] at h
      obtain ⟨⟨h1, h2⟩, h3⟩ := h
      exact pe_to (s_lst (okEs C h1 h2) fun sg hh ds h' e => by rw [few_evEs e]; exact h3) (by funext sg hh; rw [evE] <;> rfl)
    · cases h
  | t, X, W, C, .idx e f, a, h => by
    rw [ckE.eq_def] at h
    dsimp only at h
    split at h
    · simp only [Bool.and_eq_true] at h
      obtain ⟨⟨h1, h2⟩, h3⟩ := h
      exact pe_to (s_idx (okE C h1) (okE C h2) (plain_ix h3)) (by funext sg hh; rw [evE] <;> rfl)
    · cases h
  | t, X, W, C, .slc e lo hi, a, h => by
    rw [ckE.eq_def] at h
    dsimp only at h
    split at h
    · simp only [Bool.and_eq_true] at h
      obtain ⟨⟨h1, h2⟩, h3⟩ := h
      exact pe_to (s_slc (okE C h1) (okO C h2) (okO C h3) (fun _ _ _ _ e => optI_evO e) (fun _ _ _ _ e => optI_evO e)) (by funext sg hh; rw [evE] <;> rfl)
    · cases h
  | t, X, W, C, .fld e f, a, h => by
    rw [ckE.eq_def] at h
    dsimp only at h
    split at h
    · simp only [Bool.and_eq_true, decide_eq_true_iff] at h
      obtain ⟨⟨h1, h2⟩, h3⟩ := h
      exact pe_to (s_fld C h3 (okE C h1) h2) (by funext sg hh; rw [evE] <;> rfl)
    · cases h
  | t, X, W, C, .call f es, a, h => by
    rw [ckE.eq_def] at h
    dsimp only at h
    split at h
    · rename_i x p as q
      simp only [Bool.and_eq_true, decide_eq_true_iff] at h
      obtain ⟨⟨⟨⟨⟨h1, h2⟩, h3⟩, h4⟩, h5⟩, h6⟩ := h
      have e0 : evE (GM P w n cu) (.call f es) = mCall P w n f (evEs (GM P w n cu) es) := by funext sg hh; rw [evE] <;> rfl
      have hA := okEs C h5 h6
      cases as with
      | nil =>
        have : es = [] := List.length_eq_zero_iff.mp (len_ckEs h5)
        subst this
        exact pe_to (s_call0 C h1 h4 (gl_of C h2) (nd_of h3).1) (by rw [e0]; funext sg hh; unfold mCall; rw [evEs] <;> rfl)
      | cons b bs => exact pe_to (s_call C h1 h4 (gl_of C h2) (nd_of h3).1 hA h6) e0
    · cases h
  | t, X, W, C, .make c es, a, h => by
    rw [ckE.eq_def] at h
    dsimp only at h
    split at h
    · rename_i x p as q
      simp only [Bool.and_eq_true, decide_eq_true_iff] at h
      obtain ⟨⟨⟨⟨⟨h1, h2⟩, h3⟩, h4⟩, h5⟩, h6⟩ := h
      have e0 : evE (GM P w n cu) (.make c es) = mMake P w n c (evEs (GM P w n cu) es) := by funext sg hh; rw [evE] <;> rfl
      have hA := okEs C h5 h6
      cases as with
      | nil =>
        have : es = [] := List.length_eq_zero_iff.mp (len_ckEs h5)
        subst this
        exact pe_to (s_make0 C h1 h4 (gl_of C h2) (nd_of h3).1) (by rw [e0]; funext sg hh; unfold mMake; rw [evEs] <;> rfl)
      | cons b bs => exact pe_to (s_make C h1 h4 (gl_of C h2) (nd_of h3).1 hA h6) e0
    · cases h
  | t, X, W, C, .meth m o es, a, h => by
    rw [ckE.eq_def] at h
    dsimp only at h
    split at h
    · rename_i o' mn apos as q
      simp only [Bool.and_eq_true, decide_eq_true_iff] at h
      obtain ⟨⟨⟨⟨⟨⟨⟨h1, h2⟩, h3⟩, h4⟩, h5⟩, h6⟩, h7⟩, h8⟩ := h
      have e0 : evE (GM P w n cu) (.meth m o es) = mMeth P w n m (evE (GM P w n cu) o) (evEs (GM P w n cu) es) := by funext sg hh; rw [evE] <;> rfl
      have hO := okE C h3
      have hA := okEs C h5 h6
      cases as with
      | nil =>
        have : es = [] := List.length_eq_zero_iff.mp (len_ckEs h5)
        subst this
        exact pe_to (s_meth0 C h1 h2 hO h4 h8) (by rw [e0, show evEs (GM P w n cu) [] = mNil from by funext sg hh; rw [evEs] <;> rfl])
      | cons b bs => exact pe_to (s_meth C h1 h2 hO hA h4 h6 h7 h8) e0
    · cases h
  | t, X, W, C, .blt f es, a, h => by
    rw [ckE.eq_def] at h
    dsimp only at h
    split at h
    · rename_i x p as q
      simp only [Bool.and_eq_true, decide_eq_true_iff, Bool.not_eq_true'] at h
      obtain ⟨⟨⟨⟨⟨h1, h2⟩, h3⟩, h4⟩, h5⟩, h6⟩ := h
      subst h2
      obtain ⟨g1, g2⟩ := blt_of C h3
      have e0 : evE (GM P w n cu) (.blt f es) = mBlt f (evEs (GM P w n cu) es) := by funext sg hh; rw [evE] <;> rfl
      have hA := okEs C h5 h6
      cases as with
      | nil => cases h4
      | cons b bs =>
        have h6' := h6
        rw [List.all_cons, Bool.and_eq_true] at h6'
        exact pe_to (s_blt f (C.hc h1) g1 g2 hA (star_plain h6'.1) (star_any h6'.2)) e0
    · cases h
  | t, X, W, C, .isi e ts, a, h => by
    rw [ckE.eq_def] at h
    dsimp only at h
    split at h
    · simp only [Bool.and_eq_true] at h
      obtain ⟨⟨⟨⟨⟨h1, h2⟩, h3⟩, h4⟩, h5⟩, h6⟩ := h
      rw [decide_eq_true_iff] at h1
      exact pe_to (isi_ok C h1 h2 (okE C h3) h4 h6 h5) (by funext sg hh; rw [evE] <;> rfl)
    · cases h
  | t, X, W, C, .bm m o es, a, h => by
    rw [ckE.eq_def] at h
    dsimp only at h
    split at h
    · rename_i o' mn apos as q
      simp only [Bool.and_eq_true] at h
      obtain ⟨⟨⟨⟨⟨⟨⟨h1, h2⟩, h3⟩, h4⟩, h5⟩, h6⟩, h7⟩, h8⟩ := h
      rw [decide_eq_true_iff] at h5 h7
      subst h7
      have e0 : evE (GM P w n cu) (.bm m o es) = mBm m (evE (GM P w n cu) o) (evEs (GM P w n cu) es) := by funext sg hh; rw [evE] <;> rfl
      have hO := okE C h1
      have hA := okEs C h3 h4
      split at h8
      · exact pe_to (s_bm1 hO hA h2 h4 h5 h6) e0
      · have : es = [] := List.length_eq_zero_iff.mp (len_ckEs h3)
        subst this
        exact pe_to (s_bm0 hO h2 h6) (by rw [e0, show evEs (GM P w n cu) [] = mNil from by funext sg hh; rw [evEs] <;> rfl])
      · cases h8
    · cases h
  | t, X, W, C, .lc e g it cs own, a, h => by
    rw [ckE.eq_def] at h
    dsimp only at h
    split at h
    · simp only [Bool.and_eq_true] at h
      obtain ⟨⟨⟨⟨⟨⟨⟨⟨h1, h2⟩, h3⟩, h4⟩, h5⟩, h6⟩, h7⟩, h8⟩, h9⟩ := h
      rw [decide_eq_true_iff] at h8
      have hs : ∀ i ∈ slotsG g, i ∈ (ownP t.N own).map (·.2) := fun i hi => by
        rw [h8]
        exact of_decide_eq_true (List.all_eq_true.mp h7 i hi)
      refine pe_to (s_lcE C h1 (okI C h3) hs (blkOk_by h9) (fun X' C' _ => okG C' h2) (fun X' C' _ => okCs C' h5) (fun X' C' _ => okE C' h6) (fold_plain h4)) ?_
      funext sg hh
      rw [evE, h8]
      rfl
    · cases h
  | t, X, W, C, .exf _, a, h => by
    rw [ckE.eq_def] at h
    cases h
  | t, X, W, C, .exi _, a, h => by
    rw [ckE.eq_def] at h
    cases h
theorem okT : ∀ {t : Sta} {X : Cx} {W : WX}, Cxt G P T w n cu U t X W → ∀ {e : IE} {a : Expr}, ckE G.toNam t e a = true → tf a = true → PT X a (TTI (ZZ G cu U W X) (evE (GM P w n cu) e))
  | t, X, W, C, .cmp op e f, a, h, k => by
    rw [ckE.eq_def] at h
    dsimp only at h
    split at h
    · simp only [Bool.and_eq_true] at h
      obtain ⟨⟨⟨h1, h2⟩, h3⟩, h4⟩ := h
      rw [isC_ok h1]
      exact pt_to (t_cmp C.un op (okE C h2) (okE C h3) (mark1 h4)) (by funext sg hh; rw [evE] <;> rfl)
    · cases h
  | t, X, W, C, .cmp2 o1 o2 e f g, a, h, k => by
    rw [ckE.eq_def] at h
    dsimp only at h
    split at h
    · simp only [Bool.and_eq_true, Bool.not_eq_true'] at h
      obtain ⟨⟨⟨⟨⟨h1, h2⟩, h3⟩, h4⟩, h5⟩, h6⟩ := h
      rw [isC_ok h1, isC_ok h2] at h6 ⊢
      exact pt_to (t_cmp2 C.un o1 o2 (okE C h3) (okE C h4) (okE C h5) h6) (by funext sg hh; rw [evE] <;> rfl)
    · cases h
  | t, X, W, C, .isN yes e, a, h, k => by
    rw [ckE.eq_def] at h
    dsimp only at h
    split at h
    · simp only [Bool.and_eq_true] at h
      rw [isNo_ok h.1]
      exact pt_to (t_isN yes (okE C h.2)) (by funext sg hh; rw [evE] <;> rfl)
    · cases h
  | t, X, W, C, .isB yes e b, a, h, k => by
    rw [ckE.eq_def] at h
    dsimp only at h
    split at h
    · simp only [Bool.and_eq_true, beq_iff_eq] at h
      obtain ⟨⟨h1, h2⟩, h3⟩ := h
      subst h2
      rw [isNo_ok h1]
      exact pt_to (t_isB yes _ (okE C h3)) (by funext sg hh; rw [evE] <;> rfl)
    · cases h
  | t, X, W, C, .conj es, a, h, k => by
    rw [ckE.eq_def] at h
    dsimp only at h
    split at h
    · simp only [Bool.and_eq_true, Bool.not_eq_true'] at h
      exact (pt_to (okTA C h.1 h.2 (by rw [tf] at k; exact k)).pt (by funext sg hh; rw [evE] <;> rfl))
    · cases h
  | t, X, W, C, .disj es, a, h, k => by
    rw [ckE.eq_def] at h
    dsimp only at h
    split at h
    · simp only [Bool.and_eq_true, Bool.not_eq_true'] at h
      exact (pt_to (okTD C h.1 h.2 (by rw [tf] at k; exact k)).pt (by funext sg hh; rw [evE] <;> rfl))
    · cases h
  | t, X, W, C, .not e, a, h, k => by
    rw [ckE.eq_def] at h
    dsimp only at h
    split at h
    · simp only [Bool.and_eq_true] at h
      exact pt_to (t_not (okT C h.1 h.2)) (by funext sg hh; rw [evE] <;> rfl)
    · cases h
  | t, X, W, C, .c d, a, h, k => t_rest (okE C h) (by rw [ckE.eq_def] at h; dsimp only at h; first | (split at h <;> first | rfl | cases h | cases k) | cases h)
  | t, X, W, C, .var i, a, h, k => t_rest (okE C h) (by rw [ckE.eq_def] at h; dsimp only at h; first | (split at h <;> first | rfl | cases h | cases k) | cases h)
  | t, X, W, C, .glob d, a, h, k => t_rest (okE C h) (by rw [ckE.eq_def] at h; dsimp only at h; first | (split at h <;> first | rfl | cases h | cases k) | cases h)
  | t, X, W, C, .bin op e f, a, h, k => t_rest (okE C h) (by rw [ckE.eq_def] at h; dsimp only at h; first | (split at h <;> first | rfl | cases h | cases k) | cases h)
  | t, X, W, C, .neg e, a, h, k => t_rest (okE C h) (by rw [ckE.eq_def] at h; dsimp only at h; first | (split at h <;> first | rfl | cases h | cases k) | cases h)
  | t, X, W, C, .ife c e f, a, h, k => t_rest (okE C h) (by rw [ckE.eq_def] at h; dsimp only at h; first | (split at h <;> first | rfl | cases h | cases k) | cases h)
  | t, X, W, C, .tup es, a, h, k => t_rest (okE C h) (by rw [ckE.eq_def] at h; dsimp only at h; first | (split at h <;> first | rfl | cases h | cases k) | cases h)
  | t, X, W, C, .lst es, a, h, k => t_rest (okE C h) (by rw [ckE.eq_def] at h; dsimp only at h; first | (split at h <;> first | rfl | cases h | cases k) | cases h)
  | t, X, W, C, .idx e f, a, h, k => t_rest (okE C h) (by rw [ckE.eq_def] at h; dsimp only at h; first | (split at h <;> first | rfl | cases h | cases k) | cases h)
  | t, X, W, C, .slc e lo hi, a, h, k => t_rest (okE C h) (by rw [ckE.eq_def] at h; dsimp only at h; first | (split at h <;> first | rfl | cases h | cases k) | cases h)
  | t, X, W, C, .fld e f, a, h, k => t_rest (okE C h) (by rw [ckE.eq_def] at h; dsimp only at h; first | (split at h <;> first | rfl | cases h | cases k) | cases h)
  | t, X, W, C, .call f es, a, h, k => t_rest (okE C h) (by rw [ckE.eq_def] at h; dsimp only at h; first | (split at h <;> first | rfl | cases h | cases k) | cases h)
  | t, X, W, C, .make c es, a, h, k => t_rest (okE C h) (by rw [ckE.eq_def] at h; dsimp only at h; first | (split at h <;> first | rfl | cases h | cases k) | cases h)
  | t, X, W, C, .meth m o es, a, h, k => t_rest (okE C h) (by rw [ckE.eq_def] at h; dsimp only at h; first | (split at h <;> first | rfl | cases h | cases k) | cases h)
  | t, X, W, C, .blt f es, a, h, k => t_rest (okE C h) (by rw [ckE.eq_def] at h; dsimp only at h; first | (split at h <;> first | rfl | cases h | cases k) | cases h)
  | t, X, W, C, .isi e ts, a, h, k => t_rest (okE C h) (by rw [ckE.eq_def] at h; dsimp only at h; first | (split at h <;> first | rfl | cases h | cases k) | cases h)
  | t, X, W, C, .bm m o es, a, h, k => t_rest (okE C h) (by rw [ckE.eq_def] at h; dsimp only at h; first | (split at h <;> first | rfl | cases h | cases k) | cases h)
  | t, X, W, C, .lc e g it cs own, a, h, k => t_rest (okE C h) (by rw [ckE.eq_def] at h; dsimp only at h; first | (split at h <;> first | rfl | cases h | cases k) | cases h)
  | t, X, W, C, .exf f, a, h, k => t_rest (okE C h) (by rw [ckE.eq_def] at h; dsimp only at h; first | (split at h <;> first | rfl | cases h | cases k) | cases h)
  | t, X, W, C, .exi cs, a, h, k => t_rest (okE C h) (by rw [ckE.eq_def] at h; dsimp only at h; first | (split at h <;> first | rfl | cases h | cases k) | cases h)
theorem okEs : ∀ {t : Sta} {X : Cx} {W : WX}, Cxt G P T w n cu U t X W → ∀ {es : List IE} {as : List Expr}, ckEs G.toNam t es as = true → as.all plainE = true → PA X as (TAI (ZZ G cu U W X) (evEs (GM P w n cu) es))
  | t, X, W, C, [], as, h, k => by
    rw [ckEs.eq_def] at h
    have h : as.isEmpty = true := h
    rw [List.isEmpty_iff] at h
    subst h
    exact pa_to a_nil (by funext sg hh; rw [evEs] <;> rfl)
  | t, X, W, C, e :: es, [], h, k => by
    rw [ckEs.eq_def] at h
    cases h
  | t, X, W, C, e :: es, a :: as, h, k => by
    rw [ckEs.eq_def] at h
    have h : (ckE G.toNam t e a && ckEs G.toNam t es as) = true := h
    rw [Bool.and_eq_true] at h
    rw [List.all_cons, Bool.and_eq_true] at k
    exact pa_to (a_cons (okE C h.1) (okEs C h.2 k.2) (star_plain k.1)) (by funext sg hh; rw [evEs] <;> rfl)
theorem okA : ∀ {t : Sta} {X : Cx} {W : WX}, Cxt G P T w n cu U t X W → ∀ {es : List IE} {as : List Expr} {pos : Pos}, es.isEmpty = false → ckEs G.toNam t es as = true → PE X (.BoolOp .And as pos) (TI (ZZ G cu U W X) (evA (GM P w n cu) es))
  | t, X, W, C, [], as, pos, z, h => by cases z
  | t, X, W, C, e :: es, [], pos, z, h => by
    rw [ckEs.eq_def] at h
    cases h
  | t, X, W, C, [e], a :: as, pos, z, h => by
    rw [ckEs.eq_def] at h
    have h : (ckE G.toNam t e a && ckEs G.toNam t [] as) = true := h
    rw [Bool.and_eq_true] at h
    have : as = [] := List.length_eq_zero_iff.mp (len_ckEs h.2).symm
    subst this
    refine s_one (okE C h.1) fun sg hh => ?_
    rw [evA]
    congr 1
  | t, X, W, C, e :: f :: es, [a], pos, z, h => by
    rw [ckEs.eq_def] at h
    have h : (ckE G.toNam t e a && ckEs G.toNam t (f :: es) []) = true := h
    rw [Bool.and_eq_true] at h
    have := len_ckEs h.2
    cases this
  | t, X, W, C, e :: f :: es, a :: b :: as, pos, z, h => by
    rw [ckEs.eq_def] at h
    have h : (ckE G.toNam t e a && ckEs G.toNam t (f :: es) (b :: as)) = true := h
    rw [Bool.and_eq_true] at h
    exact pe_to (s_and (okE C h.1) (okA C rfl h.2)) (by funext sg hh; rw [evA] <;> rfl)
theorem okD : ∀ {t : Sta} {X : Cx} {W : WX}, Cxt G P T w n cu U t X W → ∀ {es : List IE} {as : List Expr} {pos : Pos}, es.isEmpty = false → ckEs G.toNam t es as = true → PE X (.BoolOp .Or as pos) (TI (ZZ G cu U W X) (evD (GM P w n cu) es))
  | t, X, W, C, [], as, pos, z, h => by cases z
  | t, X, W, C, e :: es, [], pos, z, h => by
    rw [ckEs.eq_def] at h
    cases h
  | t, X, W, C, [e], a :: as, pos, z, h => by
    rw [ckEs.eq_def] at h
    have h : (ckE G.toNam t e a && ckEs G.toNam t [] as) = true := h
    rw [Bool.and_eq_true] at h
    have : as = [] := List.length_eq_zero_iff.mp (len_ckEs h.2).symm
    subst this
    refine s_one (okE C h.1) fun sg hh => ?_
    rw [evD]
    congr 1
    funext x h1
    cases x with
    | bl b => cases b <;> simp only [evD]
    | _ => rfl
  | t, X, W, C, e :: f :: es, [a], pos, z, h => by
    rw [ckEs.eq_def] at h
    have h : (ckE G.toNam t e a && ckEs G.toNam t (f :: es) []) = true := h
    rw [Bool.and_eq_true] at h
    have := len_ckEs h.2
    cases this
  | t, X, W, C, e :: f :: es, a :: b :: as, pos, z, h => by
    rw [ckEs.eq_def] at h
    have h : (ckE G.toNam t e a && ckEs G.toNam t (f :: es) (b :: as)) = true := h
    rw [Bool.and_eq_true] at h
    exact pe_to (s_or (okE C h.1) (okD C rfl h.2)) (by funext sg hh; rw [evD] <;> rfl)
theorem okTA : ∀ {t : Sta} {X : Cx} {W : WX}, Cxt G P T w n cu U t X W → ∀ {es : List IE} {as : List Expr} {pos : Pos}, es.isEmpty = false → ckEs G.toNam t es as = true → tf.tfs as = true → PW X (.BoolOp .And as pos) (TTI (ZZ G cu U W X) (evA (GM P w n cu) es))
  | t, X, W, C, [], as, pos, z, h, k => by cases z
  | t, X, W, C, e :: es, [], pos, z, h, k => by
    rw [ckEs.eq_def] at h
    cases h
  | t, X, W, C, [e], a :: as, pos, z, h, k => by
    rw [ckEs.eq_def] at h
    have h : (ckE G.toNam t e a && ckEs G.toNam t [] as) = true := h
    rw [Bool.and_eq_true] at h
    rw [tf.tfs, Bool.and_eq_true] at k
    have : as = [] := List.length_eq_zero_iff.mp (len_ckEs h.2).symm
    subst this
    refine t_one (okT C h.1 k.1) fun sg hh => ?_
    rw [evA]
    congr 1
  | t, X, W, C, e :: f :: es, [a], pos, z, h, k => by
    rw [ckEs.eq_def] at h
    have h : (ckE G.toNam t e a && ckEs G.toNam t (f :: es) []) = true := h
    rw [Bool.and_eq_true] at h
    have := len_ckEs h.2
    cases this
  | t, X, W, C, e :: f :: es, a :: b :: as, pos, z, h, k => by
    rw [ckEs.eq_def] at h
    have h : (ckE G.toNam t e a && ckEs G.toNam t (f :: es) (b :: as)) = true := h
    rw [Bool.and_eq_true] at h
    rw [tf.tfs, Bool.and_eq_true] at k
    have e0 : evA (GM P w n cu) (e :: f :: es) = mAnd (evE (GM P w n cu) e) (evA (GM P w n cu) (f :: es)) := by funext sg hh; rw [evA] <;> rfl
    rw [e0]
    exact w_and (okT C h.1 k.1) (okTA C rfl h.2 k.2)
theorem okTD : ∀ {t : Sta} {X : Cx} {W : WX}, Cxt G P T w n cu U t X W → ∀ {es : List IE} {as : List Expr} {pos : Pos}, es.isEmpty = false → ckEs G.toNam t es as = true → tf.tfs as = true → PW X (.BoolOp .Or as pos) (TTI (ZZ G cu U W X) (evD (GM P w n cu) es))
  | t, X, W, C, [], as, pos, z, h, k => by cases z
  | t, X, W, C, e :: es, [], pos, z, h, k => by
    rw [ckEs.eq_def] at h
    cases h
  | t, X, W, C, [e], a :: as, pos, z, h, k => by
    rw [ckEs.eq_def] at h
    have h : (ckE G.toNam t e a && ckEs G.toNam t [] as) = true := h
    rw [Bool.and_eq_true] at h
    rw [tf.tfs, Bool.and_eq_true] at k
    have : as = [] := List.length_eq_zero_iff.mp (len_ckEs h.2).symm
    subst this
    refine t_one (okT C h.1 k.1) fun sg hh => ?_
    rw [evD]
    congr 1
    funext x h1
    cases x with
    | bl b => cases b <;> simp only [evD]
    | _ => rfl
  | t, X, W, C, e :: f :: es, [a], pos, z, h, k => by
    rw [ckEs.eq_def] at h
    have h : (ckE G.toNam t e a && ckEs G.toNam t (f :: es) []) = true := h
    rw [Bool.and_eq_true] at h
    have := len_ckEs h.2
    cases this
  | t, X, W, C, e :: f :: es, a :: b :: as, pos, z, h, k => by
    rw [ckEs.eq_def] at h
    have h : (ckE G.toNam t e a && ckEs G.toNam t (f :: es) (b :: as)) = true := h
    rw [Bool.and_eq_true] at h
    rw [tf.tfs, Bool.and_eq_true] at k
    have e0 : evD (GM P w n cu) (e :: f :: es) = mOr (evE (GM P w n cu) e) (evD (GM P w n cu) (f :: es)) := by funext sg hh; rw [evD] <;> rfl
    rw [e0]
    exact w_or (okT C h.1 k.1) (okTD C rfl h.2 k.2)
theorem okO : ∀ {t : Sta} {X : Cx} {W : WX}, Cxt G P T w n cu U t X W → ∀ {o : Option IE} {a : Option Expr}, ckO G.toNam t o a = true → PO X a (TOI (ZZ G cu U W X) (evO (GM P w n cu) o))
  | t, X, W, C, none, a, h => by
    rw [ckO.eq_def] at h
    have h : a.isNone = true := h
    rw [Option.isNone_iff_eq_none] at h
    subst h
    have e0 : evO (GM P w n cu) none = mONone := by funext sg hh; rw [evO] <;> rfl
    rw [e0]
    exact o_none
  | t, X, W, C, some e, none, h => by
    rw [ckO.eq_def] at h
    cases h
  | t, X, W, C, some e, some a, h => by
    rw [ckO.eq_def] at h
    have h : ckE G.toNam t e a = true := h
    have e0 : evO (GM P w n cu) (some e) = mOSome (evE (GM P w n cu) e) := by funext sg hh; rw [evO] <;> rfl
    rw [e0]
    exact o_some (okE C h)
theorem okI : ∀ {t : Sta} {X : Cx} {W : WX}, Cxt G P T w n cu U t X W → ∀ {i : II} {tg a : Expr}, ckI G.toNam t i tg a = true → PI X tg a (TII (ZZ G cu U W X) (evI (GM P w n cu) i))
  | t, X, W, C, .val e, tg, a, h => by
    rw [ckI.eq_def] at h
    have h : ckE G.toNam t e a = true := h
    have e0 : evI (GM P w n cu) (.val e) = mIt (evE (GM P w n cu) e) := by funext sg hh; rw [evI] <;> rfl
    rw [e0]
    exact i_val (okE C h)
  | t, X, W, C, .zip e f, tg, a, h => by
    rw [ckI.eq_def] at h
    dsimp only at h
    split at h
    · simp only [Bool.and_eq_true, decide_eq_true_iff] at h
      obtain ⟨⟨⟨⟨⟨h1, h2⟩, h3⟩, h4⟩, h5⟩, h6⟩ := h
      subst h1
      obtain ⟨g1, g2⟩ := blt_of C h2
      have e0 : evI (GM P w n cu) (.zip e f) = mZip (evE (GM P w n cu) e) (evE (GM P w n cu) f) := by funext sg hh; rw [evI] <;> rfl
      rw [e0]
      exact i_zip g1 g2 (okE C h3) (okE C h5) h4 h6
    · cases h
  | t, X, W, C, .rng1 e, tg, a, h => by
    rw [ckI.eq_def] at h
    dsimp only at h
    split at h
    · simp only [Bool.and_eq_true, decide_eq_true_iff] at h
      obtain ⟨⟨⟨h1, h2⟩, h3⟩, h4⟩ := h
      subst h1
      obtain ⟨g1, g2⟩ := blt_of C h2
      have e0 : evI (GM P w n cu) (.rng1 e) = mRng1 (evE (GM P w n cu) e) := by funext sg hh; rw [evI] <;> rfl
      rw [e0]
      exact i_rng1 g1 g2 (okE C h3) h4
    · cases h
  | t, X, W, C, .rng2 e f, tg, a, h => by
    rw [ckI.eq_def] at h
    dsimp only at h
    split at h
    · simp only [Bool.and_eq_true, decide_eq_true_iff] at h
      obtain ⟨⟨⟨⟨⟨h1, h2⟩, h3⟩, h4⟩, h5⟩, h6⟩ := h
      subst h1
      obtain ⟨g1, g2⟩ := blt_of C h2
      have e0 : evI (GM P w n cu) (.rng2 e f) = mRng2 (evE (GM P w n cu) e) (evE (GM P w n cu) f) := by funext sg hh; rw [evI] <;> rfl
      rw [e0]
      exact i_rng2 g1 g2 (okE C h3) (okE C h5) h4 h6
    · cases h
theorem okCs : ∀ {t : Sta} {X : Cx} {W : WX}, Cxt G P T w n cu U t X W → ∀ {es : List IE} {as : List Expr}, ckCs G.toNam t es as = true → PTs X as (TBI (ZZ G cu U W X) (evCs (GM P w n cu) es))
  | t, X, W, C, [], as, h => by
    rw [ckCs.eq_def] at h
    have h : as.isEmpty = true := h
    rw [List.isEmpty_iff] at h
    subst h
    refine ⟨fun pins s0 σ H Q I ⟨ρ, hh, sg, s, o⟩ => pts_nil.run pins s0 σ H Q I ?_⟩
    rw [evCs] at o
    exact Out.ok s.sim o
  | t, X, W, C, e :: es, as, h => by
    rw [ckCs.eq_def] at h
    dsimp only at h
    split at h
    · simp only [Bool.and_eq_true] at h
      obtain ⟨⟨h1, h2⟩, h3⟩ := h
      rw [List.isEmpty_iff] at h1
      subst h1
      refine ⟨fun pins s0 σ H Q I ⟨ρ, hh, sg, s, o⟩ => (pts_one (okT C h2 h3)).run pins s0 σ H Q I ?_⟩
      rw [evCs] at o
      exact tti_go s o.bind fun d h1 ρ1 H1 st s1 k => by
        cases d with
        | bl b =>
          refine ⟨b, rfl, ?_⟩
          cases b with
          | true =>
            have k : Out G X.K W ρ1 H1 σ (evCs (GM P w n cu) [] sg h1) _ := k
            rw [evCs] at k
            exact Out.ok s1.sim k
          | false => exact Out.ok s1.sim k
        | _ => exact (show False from k).elim
    · cases h
end
end
end Rm

/- RmM: statements: the look, and that it suffices. -/
namespace Rm
open PySem PySem.Spec L2

mutual
def ckS (G : Nam) (t : Sta) : IS → Stmt → Bool
  | .pass, a => match a with
    | .Pass _ => true
    | _ => false
  | .nev, _ => true
  | .asg g e, a => match a with
    | .Assign [tg] v _ => ckG t g tg && ckE G t e v && (match v, tg with
      | .ListComp _ _ scope p, .Name y py => isFun t.sc.kind
      | _, _ => notLc v && (notTup tg || notTup v))
    | _ => false
  | .seti o i e, a => match a with
    | .Assign [.Subscript o' i' _] v _ => ckE G t o o' && ckE G t i i' && plainE i' && ckE G t e v
    | _ => false
  | .setf o f e, a => match a with
    | .Assign [.Attribute o' fn _] v _ => decide (G.flds[f]? = some fn) && ckE G t o o' && ckE G t e v
    | _ => false
  | .ex e, a => match a with
    | .Expr v _ => notLc v && ckE G t e v
    | _ => false
  | .ret e, a => match a with
    | .Return (some v) _ => ckE G t e v
    | _ => false
  | .retN, a => match a with
    | .Return none _ => true
    | _ => false
  | .ife c p q, a => match a with
    | .If c' p' q' _ => ckE G t c c' && tf c' && ckSs G t p p' && ckSs G t q q'
    | _ => false
  | .forr g it b, a => match a with
    | .For tg iter b' [] _ => !t.blk && t.calm && ckG t g tg && ckI G t it tg iter && plainE iter && ckSs G t b b'
    | _ => false
  | .whl c b, a => match a with
    | .While c' b' [] _ => !t.blk && ckE G t c c' && tf c' && ckSs G t b b'
    | _ => false
  | .raise _ _, _ => false
  | .tryy _ _, _ => false
def ckSs (G : Nam) (t : Sta) : List IS → List Stmt → Bool
  | [], as => as.isEmpty
  | s :: ss, as => match as with
    | a :: as => ckS G t s a && ckSs G t ss as
    | [] => false
end
section
variable {G : Glo} {P : Prog} {T : Tab} {w n : Nat} {cu : Option (Nat × List (Nat × D))} {U : Value × Option Addr}
abbrev PSI (Z : Zz) (X : Cx) (st : Stmt) (m : Vars → M → S) : Prop := PS X st (TSI Z m)
theorem ps_to {X : Cx} {Z : Zz} {a : Stmt} {m m' : Vars → M → S} (h : PS X a (TSI Z m)) (e : m' = m) : PS X a (TSI Z m') := e ▸ h
theorem pss_to {X : Cx} {Z : Zz} {a : List Stmt} {m m' : Vars → M → S} (h : PSs X a (TSI Z m)) (e : m' = m) : PSs X a (TSI Z m') := e ▸ h
theorem okLcS {t : Sta} {X : Cx} {W : WX} (C : Cxt G P T w n cu U t X W) {g : IG} {e : IE} {elt : Expr} {gs : List Comprehension} {scope : Scope} {p py pos : Pos} {y : Str} (hg : ckG t g (.Name y py) = true) (h : ckE G.toNam t e (.ListComp elt gs scope p) = true)
    (hk : isFun t.sc.kind = true) : PS X (.Assign [.Name y py] (.ListComp elt gs scope p) pos) (TSI (ZZ G cu U W X) (mAsg g (evE (GM P w n cu) e))) := by
  by_cases hsw : lcSwap t scope y py p = true
  · cases e with
    | lc e g1 it cs own =>
      rw [ckE.eq_def] at h
      dsimp only at h
      split at h
      · rename_i elt' tg iter ifs scope' pos' heq
        injection heq with e1 e2 e3 e4
        subst e1 e2 e3 e4
        simp only [Bool.and_eq_true] at h
        obtain ⟨⟨⟨⟨⟨⟨⟨⟨h1, h2⟩, h3⟩, h4⟩, h5⟩, h6⟩, h7⟩, h8⟩, h9⟩ := h
        rw [decide_eq_true_iff] at h8
        have hs : ∀ i ∈ slotsG g1, i ∈ (ownP t.N own).map (·.2) := fun i hi => by
          rw [h8]
          exact of_decide_eq_true (List.all_eq_true.mp h7 i hi)
        cases g with
        | nm j =>
          have hg' : (decide (t.N[j]? = some y) && locB t y) = true := by rw [← hg, ckG]
          rw [Bool.and_eq_true, decide_eq_true_iff] at hg'
          refine ps_to (S_setLc C h1 hg'.1 hsw (okI C h3) hs (blkOk_by h9) (fun X' C' _ => okG C' h2) (fun X' C' _ => okCs C' h5) (fun X' C' _ => okE C' h6) (fold_plain h4)) ?_
          have e0 : evE (GM P w n cu) (.lc e g1 it cs own) = mLc w (evI (GM P w n cu) it) g1 ((ownP t.N own).map (·.2)) (evCs (GM P w n cu) cs) (evE (GM P w n cu) e) := by
            funext sg hh
            rw [evE, h8]
            rfl
          rw [e0]
        | tp gs => cases hg
      · cases h
    | _ => (rw [ckE.eq_def] at h; cases h)
  · have hsw : lcSwap t scope y py p = false := by simpa using hsw
    have hk' : X.env.scope.kind = .function := by
      rw [C.hsc]
      cases e1 : t.sc.kind <;> rw [e1] at hk <;> first | rfl | cases hk
    have z : swapsWith (.ListComp elt gs scope p) (some (.Name y py)) pos.line X.env = pure false := by
      rw [sw_lc hk', C.hsc]
      congr 1
      unfold lcSwap at hsw
      rw [hk, Bool.true_and] at hsw
      exact hsw
    exact ps_weak (ps_asg (okE C h) (okG C hg) z (sws_not (.inr rfl) rfl _) rfl) fun D σ H ⟨ρ, h, sg, s, o⟩ => ti_go s (st_go s o) fun d h1 ρ1 H1 st s1 k v r => asg_go k.1 r k.2
mutual
theorem okS : ∀ {t : Sta} {X : Cx} {W : WX}, Cxt G P T w n cu U t X W → ∀ {s : IS} {a : Stmt}, ckS G.toNam t s a = true → PS X a (TSI (ZZ G cu U W X) (evS (GM P w n cu) s))
  | t, X, W, C, .pass, a, h => by
    rw [ckS.eq_def] at h
    dsimp only at h
    split at h
    · exact ps_to S_pass (by funext sg hh; rw [evS] <;> rfl)
    · cases h
  | t, X, W, C, .nev, a, h => ps_to S_nev (by funext sg hh; rw [evS] <;> rfl)
  | t, X, W, C, .asg g e, a, h => by
    rw [ckS.eq_def] at h
    dsimp only at h
    split at h
    · rw [Bool.and_eq_true, Bool.and_eq_true] at h
      obtain ⟨⟨h1, h2⟩, h3⟩ := h
      have e0 : evS (GM P w n cu) (.asg g e) = mAsg g (evE (GM P w n cu) e) := by funext sg hh; rw [evS] <;> rfl
      split at h3
      · exact ps_to (okLcS C h1 h2 h3) e0
      · rw [Bool.and_eq_true, Bool.or_eq_true] at h3
        exact ps_to (S_asg C h1 h3.1 h3.2 (okE C h2)) e0
    · cases h
  | t, X, W, C, .seti o i e, a, h => by
    rw [ckS.eq_def] at h
    dsimp only at h
    split at h
    · simp only [Bool.and_eq_true] at h
      obtain ⟨⟨⟨h1, h2⟩, h3⟩, h4⟩ := h
      exact ps_to (S_seti (okE C h2) (okE C h1) h3 (okE C h4)) (by funext sg hh; rw [evS] <;> rfl)
    · cases h
  | t, X, W, C, .setf o f e, a, h => by
    rw [ckS.eq_def] at h
    dsimp only at h
    split at h
    · simp only [Bool.and_eq_true, decide_eq_true_iff] at h
      obtain ⟨⟨h1, h2⟩, h3⟩ := h
      exact ps_to (S_setf C h1 (okE C h2) (okE C h3)) (by funext sg hh; rw [evS] <;> rfl)
    · cases h
  | t, X, W, C, .ex e, a, h => by
    rw [ckS.eq_def] at h
    dsimp only at h
    split at h
    · rw [Bool.and_eq_true] at h
      exact ps_to (S_ex h.1 (okE C h.2)) (by funext sg hh; rw [evS] <;> rfl)
    · cases h
  | t, X, W, C, .ret e, a, h => by
    rw [ckS.eq_def] at h
    dsimp only at h
    split at h
    · exact ps_to (S_ret (okE C h)) (by funext sg hh; rw [evS] <;> rfl)
    · cases h
  | t, X, W, C, .retN, a, h => by
    rw [ckS.eq_def] at h
    dsimp only at h
    split at h
    · exact ps_to S_retN (by funext sg hh; rw [evS] <;> rfl)
    · cases h
  | t, X, W, C, .ife c p q, a, h => by
    rw [ckS.eq_def] at h
    dsimp only at h
    split at h
    · simp only [Bool.and_eq_true] at h
      obtain ⟨⟨⟨h1, h2⟩, h3⟩, h4⟩ := h
      exact ps_to (S_if (okT C h1 h2) (okSs C h3) (okSs C h4)) (by funext sg hh; rw [evS] <;> rfl)
    · cases h
  | t, X, W, C, .forr g it b, a, h => by
    rw [ckS.eq_def] at h
    dsimp only at h
    split at h
    · simp only [Bool.and_eq_true, Bool.not_eq_true'] at h
      obtain ⟨⟨⟨⟨⟨h1, h2⟩, h3⟩, h4⟩, h5⟩, h6⟩ := h
      exact ps_to (S_for C h1 h2 h3 (okI C h4) (okSs C h6) (fold_plain h5)) (by funext sg hh; rw [evS] <;> rfl)
    · cases h
  | t, X, W, C, .whl c b, a, h => by
    rw [ckS.eq_def] at h
    dsimp only at h
    split at h
    · simp only [Bool.and_eq_true, Bool.not_eq_true'] at h
      obtain ⟨⟨⟨h1, h2⟩, h3⟩, h4⟩ := h
      exact ps_to (S_whl C h1 (okT C h2 h3) (okSs C h4)) (by funext sg hh; rw [evS] <;> rfl)
    · cases h
  | t, X, W, C, .raise _ _, a, h => by
    rw [ckS.eq_def] at h
    cases h
  | t, X, W, C, .tryy _ _, a, h => by
    rw [ckS.eq_def] at h
    cases h
theorem okSs : ∀ {t : Sta} {X : Cx} {W : WX}, Cxt G P T w n cu U t X W → ∀ {ss : List IS} {as : List Stmt}, ckSs G.toNam t ss as = true → PSs X as (TSI (ZZ G cu U W X) (evSs (GM P w n cu) ss))
  | t, X, W, C, [], as, h => by
    rw [ckSs.eq_def] at h
    have h : as.isEmpty = true := h
    rw [List.isEmpty_iff] at h
    subst h
    exact pss_to ss_nil (by funext sg hh; rw [evSs] <;> rfl)
  | t, X, W, C, s :: ss, [], h => by
    rw [ckSs.eq_def] at h
    cases h
  | t, X, W, C, s :: ss, a :: as, h => by
    rw [ckSs.eq_def] at h
    have h : (ckS G.toNam t s a && ckSs G.toNam t ss as) = true := h
    rw [Bool.and_eq_true] at h
    exact pss_to (ss_cons (okS C h.1) (okSs C h.2)) (by funext sg hh; rw [evSs] <;> rfl)
end
end
end Rm

/- RmN: a law's book: its defs, what the head is to tell, and that calls do what the small language says. -/
namespace Rm
open PySem PySem.Spec L2

structure Ent where
  at_ : Str × Option Str
  name : Str
  qual : Str
  st : Stmt
  ps : List Str
  N : List Str
  ir : FnD
def Ent.d (e : Ent) : He.DefD := ⟨e.at_, e.name, e.qual, defArgs e.st, defBody e.st, defScope e.st, [], []⟩
def Ent.sta (e : Ent) : Sta := ⟨e.N, defScope e.st, true, false, fun _ => true⟩
def isLC : NameKind → Bool
  | .local => true
  | .cell => true
  | _ => false
def fnScB (N ps : List Str) (sc : Scope) : Bool := isFun sc.kind && !sc.isCoroutine && !sc.isGenerator && decide N.Nodup && decide (N.take ps.length = ps) && (ps.all fun x => (sc.names.lookup x).any isLC) && sc.names.all fun y => !(y.2 == .free)
theorem fnSc_ok {N ps : List Str} {sc : Scope} (h : fnScB N ps sc = true) : FnScope N ps sc := by
  unfold fnScB at h
  simp only [Bool.and_eq_true, decide_eq_true_iff, Bool.not_eq_true', List.all_eq_true] at h
  obtain ⟨⟨⟨⟨⟨⟨h1, h2⟩, h3⟩, h4⟩, h5⟩, h6⟩, h7⟩ := h
  refine ⟨?_, h2, h3, h4, h5, fun x hx => ?_, fun y hy e => ?_⟩
  · cases e : sc.kind <;> rw [e] at h1 <;> first | rfl | cases h1
  · have q := h6 x hx
    cases e : sc.names.lookup x with
    | none => rw [e] at q; cases q
    | some k => rw [e] at q; cases k <;> first | exact .inl rfl | exact .inr rfl | cases q
  · have q := h7 y hy
    rw [e] at q
    cases q
def Ent.ck (n : Nam) (e : Ent) : Bool := fnScB e.N e.ps (defScope e.st) && decide (e.ps.length = e.ir.arity) && decide (e.N.length = e.ir.slots) && e.ir.dfl.isEmpty && ckSs n e.sta e.ir.body (defBody e.st)
def Ent.Bnd (e : Ent) : Prop := ∀ (kV doc pm : Value) (an : Option Addr) (cdv ct : Value) (us : List Value), us.length = e.ps.length → bindArgs (PySem.W.fnOf e.name e.qual (defArgs e.st) (defBody e.st) (defScope e.st) .none kV doc pm an cdv ct) ⟨us, []⟩ = pure (e.ps.zip us)
structure Book where
  nam : Nam
  es : List Ent
  mt : List ((Nat × Nat) × Nat)
  ini : List (Nat × Nat)
def Book.P (b : Book) : Prog := ⟨fun f => (b.es[f]?).map (·.ir), fun c m => b.mt.lookup (c, m), fun c => b.ini.lookup c, fun _ => none, fun _ _ => false⟩
def Nam.cname (n : Nam) (c : Nat) : Str := ((n.clss.find? fun p => decide (p.2 = c)).map (·.1)).getD "?"
def Book.at_ (b : Book) (f : Nat) : Str × Option Str := ((b.es[f]?).map (·.at_)).getD ("?", none)
def Book.G (b : Book) (K : PySem.W.Frag) : Glo := { b.nam with fa := fun f => He.fAd K (b.at_ f), ca := fun c => He.ga K (b.nam.cname c) }
def conFa : Str × D → List He.Fa
  | (x, .int i) => [.int x i]
  | (x, .str z) => [.str x ⟨z.toArray⟩]
  | _ => []
def conOk : Str × D → Bool
  | (_, .int _) => true
  | (_, .str z) => PyData.strOk ⟨z.toArray⟩
  | _ => false
def Book.fa (b : Book) : List He.Fa := b.nam.fns.map (fun p => .glo p.1) ++ (b.nam.clss.flatMap fun p => [.glo p.1, .cls p.1, .keep p.1] ++ b.nam.flds.map fun f => .noat p.1 f) ++
  b.mt.map (fun p => .meth (b.nam.cname p.1.1) ((b.nam.mths[p.1.2]?).getD "?")) ++ b.ini.map (fun p => .mkr (b.nam.cname p.1)) ++ b.nam.blts.map (fun x => .free x) ++ b.nam.cons.flatMap conFa
def Book.ds (b : Book) : List He.DefD := b.es.map Ent.d
/-- what the book must be -/
def Book.ok (b : Book) : Bool := decide b.nam.flds.Nodup && (b.nam.mths.all fun m => decide (m ∉ b.nam.flds)) && (b.nam.fns.all fun p => decide (b.at_ p.2 = (p.1, none))) && (b.nam.clss.all fun p => decide (b.nam.cname p.2 = p.1)) &&
  (b.mt.all fun p => decide (b.at_ p.2 = (b.nam.cname p.1.1, b.nam.mths[p.1.2]?)) && decide (p.1.2 < b.nam.mths.length)) && (b.ini.all fun p => decide (b.at_ p.2 = (b.nam.cname p.1, some ("__init__" : Str)))) && b.nam.cons.all conOk && b.nam.fns.all (fun p => decide (p.2 < b.es.length))
def Book.ck (b : Book) : Bool := b.es.all fun e => e.ck b.nam

theorem mem_lookup {α β : Type} [BEq α] [LawfulBEq α] : ∀ {l : List (α × β)} {a : α} {v : β}, l.lookup a = some v → (a, v) ∈ l
  | (k, w) :: r, a, v, h => by
    rw [List.lookup_cons] at h
    cases e : a == k with
    | true =>
      rw [e] at h
      cases h
      rw [beq_iff_eq] at e
      rw [e]
      exact List.mem_cons_self
    | false =>
      rw [e] at h
      exact List.mem_cons_of_mem _ (mem_lookup h)
theorem Says_fact {fa : List He.Fa} {fn : List He.DefD} {K : PySem.W.Frag} (c : He.SaysD fa fn K) {f : He.Fa} (h : f ∈ fa) : f.ok K = true := by
  obtain ⟨i, hi⟩ := List.getElem?_of_mem h
  exact c.fact i hi
section
variable {b : Book} {K : PySem.W.Frag} {h : Heap} {mg : Str → Option Value}
theorem funD_of (c : He.SaysD b.fa b.ds K) (f : Nat) {e : Ent} (he : b.es[f]? = some e) : ∃ fd, FunD K e.name e.qual (defArgs e.st) (defBody e.st) (defScope e.st) [] [] (He.fAd K e.at_) fd := by
  have : b.ds[f]? = some e.d := by
    unfold Book.ds
    rw [List.getElem?_map, he]
    rfl
  exact c.def_ f this
open Classical in
noncomputable def tabOf (b : Book) (K : PySem.W.Frag) : Tab where
  fd := fun f => if x : ∃ fd e, b.es[f]? = some e ∧ FunD K e.name e.qual (defArgs e.st) (defBody e.st) (defScope e.st) [] [] (He.fAd K e.at_) fd then x.choose else Classical.choice ⟨(default : FuncData)⟩
  ps := fun f => ((b.es[f]?).map (·.ps)).getD []
theorem tab_funD (c : He.SaysD b.fa b.ds K) {f : Nat} {e : Ent} (he : b.es[f]? = some e) : FunD K e.name e.qual (defArgs e.st) (defBody e.st) (defScope e.st) [] [] (He.fAd K e.at_) ((tabOf b K).fd f) := by
  have x : ∃ fd e, b.es[f]? = some e ∧ FunD K e.name e.qual (defArgs e.st) (defBody e.st) (defScope e.st) [] [] (He.fAd K e.at_) fd := ⟨(funD_of c f he).choose, e, he, (funD_of c f he).choose_spec⟩
  have z : (tabOf b K).fd f = x.choose := dif_pos x
  rw [z]
  obtain ⟨e', h1, h2⟩ := x.choose_spec
  have h3 : e' = e := Option.some.inj (h1.symm.trans he)
  subst h3
  exact h2
theorem at_of {f : Nat} {e : Ent} (he : b.es[f]? = some e) : b.at_ f = e.at_ := by
  unfold Book.at_
  rw [he]
  rfl
structure BookOk (b : Book) : Prop where
  nd : b.nam.flds.Nodup
  dis : ∀ m ∈ b.nam.mths, m ∉ b.nam.flds
  fns : ∀ x f, (x, f) ∈ b.nam.fns → b.at_ f = (x, none) ∧ f < b.es.length
  cls : ∀ x c, (x, c) ∈ b.nam.clss → b.nam.cname c = x
  mt : ∀ c m f, ((c, m), f) ∈ b.mt → b.at_ f = (b.nam.cname c, b.nam.mths[m]?) ∧ m < b.nam.mths.length
  ini : ∀ c f, (c, f) ∈ b.ini → b.at_ f = (b.nam.cname c, some ("__init__" : Str))
  con : ∀ p ∈ b.nam.cons, conOk p = true
theorem book_ok (h : b.ok = true) : BookOk b := by
  unfold Book.ok at h
  simp only [Bool.and_eq_true, List.all_eq_true, decide_eq_true_iff] at h
  obtain ⟨⟨⟨⟨⟨⟨⟨h1, h2⟩, h3⟩, h4⟩, h5⟩, h6⟩, h7⟩, h8⟩ := h
  exact ⟨h1, h2, fun x f m => ⟨h3 _ m, h8 _ m⟩, fun x c m => h4 _ m, fun c m f q => h5 _ q, fun c f q => h6 _ q, h7⟩
theorem gok (B : BookOk b) (hb : ∀ e ∈ b.es, e.Bnd) (hk : b.ck = true) (X : K.In h) (G : h.Ns mainGlobals mg) (c : He.SaysD b.fa b.ds K) : GOk (b.G K) b.P (tabOf b K) K mg := by
  have mf : ∀ {f}, f ∈ b.fa → f.ok K = true := fun hf => Says_fact c hf
  have hfa : ∀ {f : He.Fa}, (f ∈ b.nam.fns.map (fun p => He.Fa.glo p.1) ∨ (f ∈ b.nam.clss.flatMap fun p => [He.Fa.glo p.1, .cls p.1, .keep p.1] ++ b.nam.flds.map fun f => .noat p.1 f) ∨ f ∈ b.mt.map (fun p => He.Fa.meth (b.nam.cname p.1.1) ((b.nam.mths[p.1.2]?).getD "?")) ∨
      f ∈ b.ini.map (fun p => He.Fa.mkr (b.nam.cname p.1)) ∨ f ∈ b.nam.blts.map (fun x => He.Fa.free x) ∨ f ∈ b.nam.cons.flatMap conFa) → f.ok K = true := fun {f} hf => mf (by
    unfold Book.fa
    simp only [List.mem_append]
    rcases hf with hf | hf | hf | hf | hf | hf
    · exact .inl (.inl (.inl (.inl (.inl hf))))
    · exact .inl (.inl (.inl (.inl (.inr hf))))
    · exact .inl (.inl (.inl (.inr hf)))
    · exact .inl (.inl (.inr hf))
    · exact .inl (.inr hf)
    · exact .inr hf)
  refine ⟨B.nd, B.dis, fun x f m => ?_, fun f fd e => ?_, fun x cc m => ?_, fun x cc mm mn f m e1 e2 => ?_, fun x cc f m e1 => ?_, fun x m => ?_, fun x d m => ?_⟩
  · obtain ⟨h1, h2⟩ := B.fns x f m
    have e1 := He.glo_ok X G (hfa (.inl (List.mem_map.mpr ⟨_, m, rfl⟩)))
    have e2 : (b.G K).fa f = He.ga K x := by
      show He.fAd K (b.at_ f) = _
      rw [h1]
      rfl
    have he := List.getElem?_eq_getElem h2
    have F := tab_funD c he
    rw [← at_of he, h1] at F
    exact ⟨by rw [e2]; exact e1, by rw [e2]; exact F.kp⟩
  · have e : (b.es[f]?).map (·.ir) = some fd := e
    obtain ⟨en, he, e⟩ := Option.map_eq_some_iff.mp e
    subst e
    have hm := List.mem_of_getElem? he
    have hck := List.all_eq_true.mp hk en hm
    unfold Ent.ck at hck
    simp only [Bool.and_eq_true, decide_eq_true_iff, List.isEmpty_iff] at hck
    obtain ⟨⟨⟨⟨k1, k2⟩, k3⟩, k4⟩, k5⟩ := hck
    have ep : (tabOf b K).ps f = en.ps := by
      show ((b.es[f]?).map (·.ps)).getD [] = _
      rw [he]
      rfl
    rw [ep]
    refine ⟨k2, fun j hj => ⟨[], [], .nil, ?_, fun ρ H => by rw [k4, List.drop_nil]; exact .nil⟩⟩
    exact (tab_funD c he).bindsN fun kV doc pm an cdv ct us hl => hb en hm kV doc pm an cdv ct us hl
  · have e0 := B.cls x cc m
    have e2 : (b.G K).ca cc = He.ga K x := by
      show He.ga K (b.nam.cname cc) = _
      rw [e0]
    have w : ∀ f, f ∈ [He.Fa.glo x, .cls x, .keep x] ++ b.nam.flds.map (fun f => He.Fa.noat x f) → f.ok K = true := fun f hf => hfa (.inr (.inl (List.mem_flatMap.mpr ⟨_, m, hf⟩)))
    rw [e2]
    refine ⟨He.glo_ok X G (w _ (by simp)), He.cls_ok (w _ (by simp)), He.keep_ok (w _ (by simp)), fun f hf => He.noat_ok (w _ (List.mem_append_right _ (List.mem_map.mpr ⟨f, hf, rfl⟩)))⟩
  · have e0 := B.cls x cc m
    have q := mem_lookup (show b.mt.lookup (cc, mm) = some f from e1)
    obtain ⟨h1, h2⟩ := B.mt _ _ _ q
    have em : b.nam.mths[mm]? = some mn := e2
    have w := He.meth_ok (hfa (.inr (.inr (.inl (List.mem_map.mpr ⟨_, q, rfl⟩)))))
    dsimp only at w
    rw [em, Option.getD_some] at w
    have e3 : (b.G K).fa f = He.ma K (He.ga K (b.nam.cname cc)) mn := by
      show He.fAd K (b.at_ f) = _
      rw [h1, em]
      rfl
    rw [e3]
    exact w
  · have q := mem_lookup (show b.ini.lookup cc = some f from e1)
    have h1 := B.ini _ _ q
    have w := He.mkr_ok (hfa (.inr (.inr (.inr (.inl (List.mem_map.mpr ⟨_, q, rfl⟩))))))
    have e3 : (b.G K).fa f = He.ma K (He.ga K (b.nam.cname cc)) "__init__" := by
      show He.fAd K (b.at_ f) = _
      rw [h1]
      rfl
    rw [e3]
    exact w
  · exact He.free_ok X G (hfa (.inr (.inr (.inr (.inr (.inl (List.mem_map.mpr ⟨_, m, rfl⟩)))))))
  · have k := B.con _ m
    have w : ∀ f, f ∈ conFa (x, d) → f.ok K = true := fun f hf => hfa (.inr (.inr (.inr (.inr (.inr (List.mem_flatMap.mpr ⟨_, m, hf⟩))))))
    cases d with
    | int i =>
      obtain ⟨tk, e⟩ := He.int_ok X G (w (.int x i) (List.mem_singleton.mpr rfl))
      exact ⟨_, .int i, e, ⟨_, rfl⟩, fun ρ H => .int i⟩
    | str z =>
      obtain ⟨tk, e⟩ := He.str_ok X G (w (.str x ⟨z.toArray⟩) (List.mem_singleton.mpr rfl))
      exact ⟨_, .str ⟨z.toArray⟩, e, ⟨_, rfl⟩, fun ρ H => .str z k⟩
    | _ => cases k
end
/-! ### calls -/
theorem endS_go {Z : Zz} {ρ : List Addr} {H : Hp} {σ : L2.St} {r : S} {Q : VK} (o : Out Z.G Z.K Z.W ρ H [] (endS r) fun d _ ρ' H' => ∀ v, Rel Z.K ρ' H' d v → Q v H') (hW : ∀ cls d σ H', Z.W cls d [] H' → Z.W cls d σ H') : OutS Z ρ H r { nx := fun _ H' => Q .non H', rt := Q } := by
  cases r with
  | no => exact (show False from o)
  | exc c fs sg h => exact fun ρ' σ' H' cls d st s x => hW _ _ _ _ (o ρ' H' cls d st s.sim x)
  | ok f sg h =>
    cases f with
    | nx => exact fun ρ' σ' H' st s => o ρ' H' st s.sim _ .non
    | ret d => exact fun ρ' H' v st sm r => o ρ' H' st sm v r
    | brk => exact (show False from o).elim
    | ct => exact (show False from o).elim
theorem srel_start {K : Fr} {ρ : List Addr} {H : Hp} {ds : List D} {vs : List V} {N : List Str} (r : Rels K ρ H ds vs) (k : Nat) (hk : k = N.length - vs.length) : SRel K ρ H (ds.map some ++ List.replicate k none) (L2.start N vs) := by
  subst hk
  unfold L2.start
  refine ⟨by simp [r.length], fun i d e => ?_⟩
  by_cases hi : i < ds.length
  · rw [List.getElem?_append_left (by simpa using hi), List.getElem?_map] at e
    obtain ⟨x, e1, e2⟩ := Option.map_eq_some_iff.mp e
    cases e2
    obtain ⟨v, e3, e4⟩ := r.get e1
    refine ⟨v, ?_, e4⟩
    rw [List.getElem?_append_left (by rw [List.length_map, ← r.length]; exact hi), List.getElem?_map, e3]
    rfl
  · rw [List.getElem?_append_right (by simpa using hi), List.getElem?_replicate] at e
    split at e <;> cases e
theorem fh_of {b : Book} {K : PySem.W.Frag} {h base : Heap} {mg : Str → Option Value} {prog : Program} {wd : World} {w : Nat} (hb : ∀ e ∈ b.es, e.Bnd) (hk : b.ck = true) (gk : GOk (b.G K) b.P (tabOf b K) K mg) (c : He.SaysD b.fa b.ds K) :
    ∀ n, FH (b.G K) b.P (tabOf b K) w n prog wd K mg base := by
  intro n
  induction n with
  | zero =>
    intro f fd e
    have e : (b.es[f]?).map (·.ir) = some fd := e
    obtain ⟨en, he, e⟩ := Option.map_eq_some_iff.mp e
    subst e
    have hm := List.mem_of_getElem? he
    have hck := List.all_eq_true.mp hk en hm
    unfold Ent.ck at hck
    simp only [Bool.and_eq_true, decide_eq_true_iff, List.isEmpty_iff] at hck
    obtain ⟨⟨⟨⟨k1, k2⟩, k3⟩, k4⟩, k5⟩ := hck
    have F := tab_funD c he
    have ep : (tabOf b K).ps f = en.ps := by
      show ((b.es[f]?).map (·.ps)).getD [] = _
      rw [he]
      rfl
    rw [ep]
    have ef : (b.G K).fa f = He.fAd K en.at_ := by
      show He.fAd K (b.at_ f) = _
      rw [at_of he]
    rw [ef]
    refine F.ok (fnSc_ok k1) (fun vs H Q E hh => hh.1.trans k2.symm) fun cdv A outer s H vs Q E hr hh => ?_
    obtain ⟨_, ρ, h0, ds, _, _, o⟩ := hh
    exact (show False from o).elim
  | succ n ih =>
    intro f fd e
    have e0 := e
    have e : (b.es[f]?).map (·.ir) = some fd := e
    obtain ⟨en, he, e⟩ := Option.map_eq_some_iff.mp e
    subst e
    have hm := List.mem_of_getElem? he
    have hck := List.all_eq_true.mp hk en hm
    unfold Ent.ck at hck
    simp only [Bool.and_eq_true, decide_eq_true_iff, List.isEmpty_iff] at hck
    obtain ⟨⟨⟨⟨k1, k2⟩, k3⟩, k4⟩, k5⟩ := hck
    have F := tab_funD c he
    have ep : (tabOf b K).ps f = en.ps := by
      show ((b.es[f]?).map (·.ps)).getD [] = _
      rw [he]
      rfl
    rw [ep]
    have ef : (b.G K).fa f = He.fAd K en.at_ := by
      show He.fAd K (b.at_ f) = _
      rw [at_of he]
    rw [ef]
    refine F.ok (fnSc_ok k1) (fun vs H Q E hh => hh.1.trans k2.symm) fun cdv A outer s H vs Q E hr hh => ?_
    obtain ⟨hl, ρ, h0, ds, sm, rr, o⟩ := hh
    have ldl : ds.length = en.ir.arity := rr.length.trans hl
    have e1 : callN b.P w (n + 1) f ds h0 = endS (evSs (gam b.P w n none) en.ir.body (ds.map some ++ List.replicate (en.ir.slots - en.ir.arity) none) h0) := by
      have q : callN b.P w (n + 1) f ds h0 = (match b.P.fn f with
        | some fd => if ds.length ≤ fd.arity ∧ fd.arity ≤ ds.length + fd.dfl.length then
            endS (evSs (gam b.P w n none) fd.body ((ds ++ fd.dfl.drop (ds.length + fd.dfl.length - fd.arity)).map some ++ List.replicate (fd.slots - fd.arity) none) h0)
          else .no
        | none => .no) := by first | (rw [callN]; done) | (rw [callN]; rfl)
      rw [q, e0]
      dsimp only
      rw [k4, if_pos (by rw [ldl]; exact ⟨Nat.le_refl _, Nat.le_add_right _ _⟩), List.drop_nil, List.append_nil]
    rw [e1] at o
    have C : Cxt (b.G K) b.P (tabOf b K) w n none (Value.none, none) en.sta (cxOf (L2.CX prog wd) prog wd K mg base en.N en.qual (defScope en.st) (He.fAd K en.at_) cdv A outer s H E) (fun cls d _ H => E cls d H) :=
      ⟨gk, ih, rfl, (fnSc_ok k1).nd, rfl, fun _ => rfl, fun _ => hr, by
        have := hr.units
        exact this, takes_of rfl rfl rfl rfl, rfl, fun _ => passes_of rfl⟩
    refine ⟨_, okSs C k5, ρ, h0, _, ⟨sm, srel_start rr _ ?_, fun c fs z => by cases z⟩, endS_go (Z := ⟨b.G K, K, none, (Value.none, none), fun cls d _ H => E cls d H⟩) (σ := []) o fun _ _ _ _ x => x⟩
    rw [k3, hl]
end Rm

/- RmO: the law's end. -/
namespace Rm
open PySem PySem.Spec L2

theorem fnok0 {P : Program} {w : World} {K : PySem.W.Frag} {mg : Str → Option Value} {base : Heap} {k : Nat} {f : Addr} {fd : FuncData} {ps : List Str} {sp : Sp} (F : FnOk P w K mg base (L2.CX P w) k f fd ps sp) :
    FnOk P w K mg base CX0 k f fd ps (fun vs H Q _ => sp vs H Q fun _ _ _ => False) :=
  ⟨fun vs H Q E q => F.len vs H Q _ q, fun A outer s H args us vs Q E hr he hb hv hs => codeAny_mono (F.run A outer s H args us vs Q _ hr he hb hv hs) fun r s' hq => by
    cases r with
    | ok fl => cases fl <;> exact hq
    | error e =>
      obtain ⟨a, B, H', cls, d, rfl, fl, hok, ub, na, os, ag, hE⟩ := hq
      exact hE.elim⟩
theorem law_of {b : Book} {f : Nat} {e : Ent} {W n : Nat} {x : Str} (B : b.ok = true) (hb : ∀ e ∈ b.es, e.Bnd) (hk : b.ck = true) (he : b.es[f]? = some e) (hps : e.ps = [x]) (hl : (("law" : Str), f) ∈ b.nam.fns)
    (pl : ∀ ns : List Int, ns.length ≤ 63 → ∃ h', callN b.P W n f [.scr (ns.map D.int)] [] = .ok (.bl true) h')
    {K : PySem.W.Frag} {h : Heap} {mg : Str → Option Value} {prog : Program} {wd : World} {fa : Addr} (X : K.In h) (G : h.Ns mainGlobals mg) (c : He.SaysD b.fa b.ds K) (hmg : mg ("law" : Str) = some (.ref fa)) :
    ∃ (fd : FuncData) (sp : Sp), (∀ (s : Shared) (u : Value), BindsTo s fd ⟨[u], []⟩ [(x, u)]) ∧
      (∀ (H : Hp) (a : Addr) (ns : List Int), ns.length ≤ 63 → Only H → SqL K H a (ns.map V.int) → sp [.ref a] H (fun v _ => v = .bl true) fun _ _ _ => False) ∧
      ∀ base : Heap, K.In base → base.Ns mainGlobals mg → FnOk prog wd K mg base CX0 (2 * n + 2) fa fd [x] sp := by
  have gk := gok (book_ok B) hb hk X G c
  have F := tab_funD c he
  have hm := List.mem_of_getElem? he
  have hck := List.all_eq_true.mp hk e hm
  unfold Ent.ck at hck
  simp only [Bool.and_eq_true, decide_eq_true_iff, List.isEmpty_iff] at hck
  obtain ⟨⟨⟨⟨k1, k2⟩, k3⟩, k4⟩, k5⟩ := hck
  have ea : fa = (b.G K).fa f := by
    have z := (gk.fn "law" f hl).1
    rw [hmg] at z
    cases z
    rfl
  have ep : (tabOf b K).ps f = [x] := by
    show ((b.es[f]?).map (·.ps)).getD [] = _
    rw [he]
    exact hps
  have ef : b.P.fn f = some e.ir := by
    show (b.es[f]?).map (·.ir) = _
    rw [he]
    rfl
  have ar : e.ir.arity = 1 := by rw [← k2, hps]; rfl
  refine ⟨(tabOf b K).fd f, fun vs H Q _ => spI (b.G K) b.P W K n f e.ir.arity vs H Q fun _ _ _ => False, fun s u => ?_, fun H a ns hlen hO hS => ?_, fun base hB hN => ?_⟩
  · have q := F.bindsA (ps := e.ps) (fun kV doc pm an cdv ct us hl => hb e hm kV doc pm an cdv ct us hl) s [u] (by rw [hps]; rfl)
    rw [hps] at q
    exact q
  · obtain ⟨h', eq⟩ := pl ns hlen
    refine ⟨ar.symm, [], [], [.scr (ns.map D.int)], ⟨rfl, List.nodup_nil, fun i o a' e1 e2 => by cases e1⟩, .cons (.scr (LstAt.of hS (by simp)) (Rels.of_ints ns)) .nil, ?_⟩
    rw [eq]
    intro ρ' H' st sm v r
    cases r
    rfl
  · have q := fh_of (h := h) (base := base) (prog := prog) (wd := wd) (w := W) hb hk gk c n f e.ir ef
    rw [ep] at q
    rw [ea]
    exact fnok0 q
theorem all_nil {p : Ent → Prop} : ∀ e ∈ ([] : List Ent), p e := fun _ h => nomatch h
theorem all_cons {p : Ent → Prop} {x : Ent} {l : List Ent} (h : p x) (t : ∀ e ∈ l, p e) : ∀ e ∈ x :: l, p e := fun e m => (List.mem_cons.mp m).elim (fun z => by rw [z]; exact h) (t e)
end Rm

/- RmP: what is wanted of a term's end, by its parts. -/
namespace Rm

theorem nodef {α : Type _} {a b : α} (h : a = b) : a = b := h
abbrev Ex := Nat → List (Nat × D) → M → Prop
set_option checkBinderAnnotations false in
def wr {α : Type} (r : R α) [Q : α → M → Prop] [E : Ex] : Prop := match r with
  | .ok a h => Q a h
  | .exc c fs h => E c fs h
  | .no => False
/-- what is wanted behind a statement -/
structure Wn where
  nx : Vars → M → Prop
  rt : D → M → Prop
  bk : Vars → M → Prop
  ct : Vars → M → Prop
  ex : Nat → List (Nat × D) → Vars → M → Prop
set_option checkBinderAnnotations false in
def ws (r : S) [K : Wn] : Prop := match r with
  | .ok .nx sg h => K.nx sg h
  | .ok (.ret d) _ h => K.rt d h
  | .ok .brk sg h => K.bk sg h
  | .ok .ct sg h => K.ct sg h
  | .exc c fs sg h => K.ex c fs sg h
  | .no => False
section
variable {α β : Type} {Q : α → M → Prop} {E : Ex} {K : Wn}
@[simp] theorem wr_ok (a : α) (h : M) : @wr _ (.ok a h) Q E = Q a h := nodef rfl
@[simp] theorem wr_exc (c : Nat) (fs : List (Nat × D)) (h : M) : @wr _ (.exc c fs h : R α) Q E = E c fs h := nodef rfl
@[simp] theorem wr_no : @wr _ (.no : R α) Q E = False := nodef rfl
@[simp↓] theorem wr_bind (r : R α) (f : α → M → R β) (Q : β → M → Prop) : @wr _ (r.bind f) Q E = @wr _ r (fun a h => @wr _ (f a h) Q E) E := by
  cases r <;> rfl
@[simp↓] theorem ws_st (r : R α) (sg : Vars) (f : α → M → S) : @ws (r.st sg f) K = @wr _ r (fun a h => @ws (f a h) K) (fun c fs h => K.ex c fs sg h) := by
  cases r <;> rfl
@[simp] theorem ws_nx (sg : Vars) (h : M) : @ws (.ok .nx sg h) K = K.nx sg h := nodef rfl
@[simp] theorem ws_rt (d : D) (sg : Vars) (h : M) : @ws (.ok (.ret d) sg h) K = K.rt d h := nodef rfl
@[simp] theorem ws_bk (sg : Vars) (h : M) : @ws (.ok .brk sg h) K = K.bk sg h := nodef rfl
@[simp] theorem ws_ct (sg : Vars) (h : M) : @ws (.ok .ct sg h) K = K.ct sg h := nodef rfl
@[simp] theorem ws_exc (c : Nat) (fs : List (Nat × D)) (sg : Vars) (h : M) : @ws (.exc c fs sg h) K = K.ex c fs sg h := nodef rfl
@[simp] theorem ws_no : @ws .no K = False := nodef rfl
@[simp↓] theorem ws_seq (r : S) (f : Vars → M → S) : @ws (r.seq f) K = @ws r { K with nx := fun sg h => @ws (f sg h) K } := by
  cases r with
  | ok fl sg h => cases fl <;> rfl
  | _ => rfl
@[simp↓] theorem ws_cons {G : Env} (s : IS) (ss : List IS) (sg : Vars) (h : M) : @ws (evSs G (s :: ss) sg h) K = @ws (evS G s sg h) { K with nx := fun sg h => @ws (evSs G ss sg h) K } := by
  rw [evSs]
  cases evS G s sg h with
  | ok fl sg h => cases fl <;> rfl
  | _ => rfl
@[simp↓] theorem ws_nil {G : Env} (sg : Vars) (h : M) : @ws (evSs G [] sg h) K = K.nx sg h := by rw [evSs]; rfl
theorem wr_end (r : S) (Q : D → M → Prop) : @wr _ (endS r) Q E = @ws r ⟨fun _ h => Q .non h, Q, fun _ _ => False, fun _ _ => False, fun c fs _ h => E c fs h⟩ := by
  cases r with
  | ok fl sg h => cases fl <;> rfl
  | _ => rfl
theorem wr_mono {r : R α} {Q Q' : α → M → Prop} {E E' : Ex} (h : @wr _ r Q E) (hq : ∀ a h, Q a h → Q' a h) (he : ∀ c fs h, E c fs h → E' c fs h) : @wr _ r Q' E' := by
  cases r with
  | ok a h' => exact hq _ _ h
  | exc c fs h' => exact he _ _ _ h
  | no => exact h
theorem ws_mono {r : S} {K K' : Wn} (h : @ws r K) (h1 : ∀ sg h, K.nx sg h → K'.nx sg h) (h2 : ∀ d h, K.rt d h → K'.rt d h) (h3 : ∀ sg h, K.bk sg h → K'.bk sg h) (h4 : ∀ sg h, K.ct sg h → K'.ct sg h) (h5 : ∀ c fs sg h, K.ex c fs sg h → K'.ex c fs sg h) : @ws r K' := by
  cases r with
  | ok fl sg h' => cases fl <;> first | exact h1 _ _ h | exact h2 _ _ h | exact h3 _ _ h | exact h4 _ _ h
  | exc c fs sg h' => exact h5 _ _ _ _ h
  | no => exact h
end
section
variable {G : Env} {sg : Vars} {h : M} {E : Ex}
section
variable {Q : D → M → Prop}
@[simp↓] theorem e_c (d : D) : @wr _ (evE G (.c d) sg h) Q E = Q d h := by
  first
    | (rw [evE]; exact wr_bind _ _ _)
    | (rw [evE]; done)
    | (rw [evE]; rfl)
    | (rw [evE]; simp only [wr_bind]; done)
    | (rw [evE]; simp only [wr_bind]; rfl)
@[simp↓] theorem e_glob (d : D) : @wr _ (evE G (.glob d) sg h) Q E = Q d h := by
  first
    | (rw [evE]; exact wr_bind _ _ _)
    | (rw [evE]; done)
    | (rw [evE]; rfl)
    | (rw [evE]; simp only [wr_bind]; done)
    | (rw [evE]; simp only [wr_bind]; rfl)
@[simp↓] theorem e_var (i : Nat) : @wr _ (evE G (.var i) sg h) Q E = (match sg[i]? with
    | some (some d) => Q d h
    | _ => False) := by
  rw [evE]
  cases sg[i]? with
  | none => rfl
  | some o => cases o <;> rfl
@[simp↓] theorem e_bin (op : BOp) (a b : IE) : @wr _ (evE G (.bin op a b) sg h) Q E = @wr _ (evE G a sg h) (fun x h1 => @wr _ (evE G b sg h1) (fun y h2 => @wr _ (binop op x y h2) Q E) E) E := by
  first
    | (rw [evE]; exact wr_bind _ _ _)
    | (rw [evE]; done)
    | (rw [evE]; rfl)
    | (rw [evE]; simp only [wr_bind]; done)
    | (rw [evE]; simp only [wr_bind]; rfl)
@[simp↓] theorem e_neg (a : IE) : @wr _ (evE G (.neg a) sg h) Q E = @wr _ (evE G a sg h) (fun x h1 => @wr _ (match x with
    | .int i => R.ok (D.int (-i)) h1
    | _ => .no) Q E) E := by
  first
    | (rw [evE]; exact wr_bind _ _ _)
    | (rw [evE]; done)
    | (rw [evE]; rfl)
    | (rw [evE]; simp only [wr_bind]; done)
    | (rw [evE]; simp only [wr_bind]; rfl)
@[simp↓] theorem e_cmp (op : COp) (a b : IE) : @wr _ (evE G (.cmp op a b) sg h) Q E = @wr _ (evE G a sg h) (fun x h1 => @wr _ (evE G b sg h1) (fun y h2 => @wr _ (match cmpop op x y h2 with
    | some r => R.ok (D.bl r) h2
    | none => .no) Q E) E) E := by
  first
    | (rw [evE]; exact wr_bind _ _ _)
    | (rw [evE]; done)
    | (rw [evE]; rfl)
    | (rw [evE]; simp only [wr_bind]; done)
    | (rw [evE]; simp only [wr_bind]; rfl)
@[simp↓] theorem e_cmp2 (o1 o2 : COp) (a b c : IE) : @wr _ (evE G (.cmp2 o1 o2 a b c) sg h) Q E = @wr _ (evE G a sg h) (fun x h1 => @wr _ (evE G b sg h1) (fun y h2 => @wr _ (match cmpop o1 x y h2 with
    | some true => (evE G c sg h2).bind fun z h3 => (match cmpop o2 y z h3 with
      | some r => R.ok (D.bl r) h3
      | none => .no)
    | some false => .ok (.bl false) h2
    | none => .no) Q E) E) E := by
  first
    | (rw [evE]; exact wr_bind _ _ _)
    | (rw [evE]; done)
    | (rw [evE]; rfl)
    | (rw [evE]; simp only [wr_bind]; done)
    | (rw [evE]; simp only [wr_bind]; rfl)
@[simp↓] theorem e_isN (yes : Bool) (a : IE) : @wr _ (evE G (.isN yes a) sg h) Q E = @wr _ (evE G a sg h) (fun x h1 => @wr _ (match x with
    | .non => R.ok (D.bl yes) h1
    | _ => .ok (.bl (!yes)) h1) Q E) E := by
  first
    | (rw [evE]; exact wr_bind _ _ _)
    | (rw [evE]; done)
    | (rw [evE]; rfl)
    | (rw [evE]; simp only [wr_bind]; done)
    | (rw [evE]; simp only [wr_bind]; rfl)
@[simp↓] theorem e_isB (yes : Bool) (a : IE) (b : Bool) : @wr _ (evE G (.isB yes a b) sg h) Q E = @wr _ (evE G a sg h) (fun x h1 => @wr _ (match x with
    | .bl c => R.ok (D.bl (if yes = true then c == b else !(c == b))) h1
    | _ => .no) Q E) E := by
  first
    | (rw [evE]; exact wr_bind _ _ _)
    | (rw [evE]; done)
    | (rw [evE]; rfl)
    | (rw [evE]; simp only [wr_bind]; done)
    | (rw [evE]; simp only [wr_bind]; rfl)
@[simp↓] theorem e_conj (es : List IE) : @wr _ (evE G (.conj es) sg h) Q E = @wr _ (evA G es sg h) Q E := by
  first
    | (rw [evE]; exact wr_bind _ _ _)
    | (rw [evE]; done)
    | (rw [evE]; rfl)
    | (rw [evE]; simp only [wr_bind]; done)
    | (rw [evE]; simp only [wr_bind]; rfl)
@[simp↓] theorem e_disj (es : List IE) : @wr _ (evE G (.disj es) sg h) Q E = @wr _ (evD G es sg h) Q E := by
  first
    | (rw [evE]; exact wr_bind _ _ _)
    | (rw [evE]; done)
    | (rw [evE]; rfl)
    | (rw [evE]; simp only [wr_bind]; done)
    | (rw [evE]; simp only [wr_bind]; rfl)
@[simp↓] theorem e_not (a : IE) : @wr _ (evE G (.not a) sg h) Q E = @wr _ (evE G a sg h) (fun x h1 => @wr _ (match x with
    | .bl b => R.ok (D.bl (!b)) h1
    | _ => .no) Q E) E := by
  first
    | (rw [evE]; exact wr_bind _ _ _)
    | (rw [evE]; done)
    | (rw [evE]; rfl)
    | (rw [evE]; simp only [wr_bind]; done)
    | (rw [evE]; simp only [wr_bind]; rfl)
@[simp↓] theorem e_ife (c a b : IE) : @wr _ (evE G (.ife c a b) sg h) Q E = @wr _ (evE G c sg h) (fun x h1 => @wr _ (match x with
    | .bl true => evE G a sg h1
    | .bl false => evE G b sg h1
    | _ => .no) Q E) E := by
  first
    | (rw [evE]; exact wr_bind _ _ _)
    | (rw [evE]; done)
    | (rw [evE]; rfl)
    | (rw [evE]; simp only [wr_bind]; done)
    | (rw [evE]; simp only [wr_bind]; rfl)
@[simp↓] theorem e_tup (es : List IE) : @wr _ (evE G (.tup es) sg h) Q E = @wr _ (evEs G es sg h) (fun xs h1 => Q (.tup xs) h1) E := by
  first
    | (rw [evE]; exact wr_bind _ _ _)
    | (rw [evE]; done)
    | (rw [evE]; rfl)
    | (rw [evE]; simp only [wr_bind]; done)
    | (rw [evE]; simp only [wr_bind]; rfl)
@[simp↓] theorem e_lst (es : List IE) : @wr _ (evE G (.lst es) sg h) Q E = @wr _ (evEs G es sg h) (fun xs h1 => Q (.ref h1.length) (h1 ++ [.lst xs])) E := by
  first
    | (rw [evE]; exact wr_bind _ _ _)
    | (rw [evE]; done)
    | (rw [evE]; rfl)
    | (rw [evE]; simp only [wr_bind]; done)
    | (rw [evE]; simp only [wr_bind]; rfl)
@[simp↓] theorem e_idx (a b : IE) : @wr _ (evE G (.idx a b) sg h) Q E = @wr _ (evE G a sg h) (fun x h1 => @wr _ (evE G b sg h1) (fun y h2 => @wr _ (index x y h2) Q E) E) E := by
  first
    | (rw [evE]; exact wr_bind _ _ _)
    | (rw [evE]; done)
    | (rw [evE]; rfl)
    | (rw [evE]; simp only [wr_bind]; done)
    | (rw [evE]; simp only [wr_bind]; rfl)
@[simp↓] theorem e_slc (a : IE) (lo hi : Option IE) : @wr _ (evE G (.slc a lo hi) sg h) Q E = @wr _ (evE G a sg h) (fun x h1 => @wr _ (evO G lo sg h1) (fun l h2 => @wr _ (evO G hi sg h2) (fun u h3 => @wr _ (slice x l u h3) Q E) E) E) E := by
  first
    | (rw [evE]; exact wr_bind _ _ _)
    | (rw [evE]; done)
    | (rw [evE]; rfl)
    | (rw [evE]; simp only [wr_bind]; done)
    | (rw [evE]; simp only [wr_bind]; rfl)
@[simp↓] theorem e_fld (a : IE) (f : Nat) : @wr _ (evE G (.fld a f) sg h) Q E = @wr _ (evE G a sg h) (fun x h1 => @wr _ (match x with
    | .ref p => (match h1[p]? with
      | some (.ins _ fs) => (match fget f fs with
        | some d => R.ok d h1
        | none => .no)
      | _ => .no)
    | _ => .no) Q E) E := by
  first
    | (rw [evE]; exact wr_bind _ _ _)
    | (rw [evE]; done)
    | (rw [evE]; rfl)
    | (rw [evE]; simp only [wr_bind]; done)
    | (rw [evE]; simp only [wr_bind]; rfl)
@[simp↓] theorem e_call (f : Nat) (es : List IE) : @wr _ (evE G (.call f es) sg h) Q E = @wr _ (evEs G es sg h) (fun xs h1 => @wr _ (G.F f xs h1) Q E) E := by
  first
    | (rw [evE]; exact wr_bind _ _ _)
    | (rw [evE]; done)
    | (rw [evE]; rfl)
    | (rw [evE]; simp only [wr_bind]; done)
    | (rw [evE]; simp only [wr_bind]; rfl)
@[simp↓] theorem e_make (c : Nat) (es : List IE) : @wr _ (evE G (.make c es) sg h) Q E = @wr _ (evEs G es sg h) (fun xs h1 => @wr _ (match G.P.ini c with
    | some f => (G.F f (.ref h1.length :: xs) (h1 ++ [.ins c []])).bind fun x h2 => (match x with
      | .non => R.ok (D.ref h1.length) h2
      | _ => .no)
    | none => .no) Q E) E := by
  first
    | (rw [evE]; exact wr_bind _ _ _)
    | (rw [evE]; done)
    | (rw [evE]; rfl)
    | (rw [evE]; simp only [wr_bind]; done)
    | (rw [evE]; simp only [wr_bind]; rfl)
@[simp↓] theorem e_meth (m : Nat) (o : IE) (es : List IE) : @wr _ (evE G (.meth m o es) sg h) Q E = @wr _ (evE G o sg h) (fun x h1 => @wr _ (match x with
    | .ref p => (match h1[p]? with
      | some (.ins c _) => (match G.P.mt c m with
        | some f => (evEs G es sg h1).bind fun xs h2 => G.F f (.ref p :: xs) h2
        | none => .no)
      | _ => .no)
    | _ => .no) Q E) E := by
  first
    | (rw [evE]; exact wr_bind _ _ _)
    | (rw [evE]; done)
    | (rw [evE]; rfl)
    | (rw [evE]; simp only [wr_bind]; done)
    | (rw [evE]; simp only [wr_bind]; rfl)
@[simp↓] theorem e_blt (f : BF) (es : List IE) : @wr _ (evE G (.blt f es) sg h) Q E = @wr _ (evEs G es sg h) (fun xs h1 => @wr _ (bcall f xs h1) Q E) E := by
  first
    | (rw [evE]; exact wr_bind _ _ _)
    | (rw [evE]; done)
    | (rw [evE]; rfl)
    | (rw [evE]; simp only [wr_bind]; done)
    | (rw [evE]; simp only [wr_bind]; rfl)
@[simp↓] theorem e_isi (a : IE) (ts : List Ty) : @wr _ (evE G (.isi a ts) sg h) Q E = @wr _ (evE G a sg h) (fun x h1 => @wr _ (match isTys x h1 ts with
    | some b => R.ok (D.bl b) h1
    | none => .no) Q E) E := by
  first
    | (rw [evE]; exact wr_bind _ _ _)
    | (rw [evE]; done)
    | (rw [evE]; rfl)
    | (rw [evE]; simp only [wr_bind]; done)
    | (rw [evE]; simp only [wr_bind]; rfl)
@[simp↓] theorem e_bm (m : BM) (o : IE) (es : List IE) : @wr _ (evE G (.bm m o es) sg h) Q E = @wr _ (evE G o sg h) (fun x h1 => @wr _ (if bmOk m x h1 = true then (evEs G es sg h1).bind fun xs h2 => bmeth m x xs h2 else .no) Q E) E := by
  first
    | (rw [evE]; exact wr_bind _ _ _)
    | (rw [evE]; done)
    | (rw [evE]; rfl)
    | (rw [evE]; simp only [wr_bind]; done)
    | (rw [evE]; simp only [wr_bind]; rfl)
end
@[simp↓] theorem es_nil  {Q : List D → M → Prop} : @wr _ (evEs G [] sg h) Q E = Q [] h := by
  first
    | (rw [evEs]; exact wr_bind _ _ _)
    | (rw [evEs]; done)
    | (rw [evEs]; rfl)
    | (rw [evEs]; simp only [wr_bind]; done)
    | (rw [evEs]; simp only [wr_bind]; rfl)
@[simp↓] theorem es_cons (e : IE) (es : List IE) {Q : List D → M → Prop} : @wr _ (evEs G (e :: es) sg h) Q E = @wr _ (evE G e sg h) (fun x h1 => @wr _ (evEs G es sg h1) (fun xs h2 => Q (x :: xs) h2) E) E := by
  first
    | (rw [evEs]; exact wr_bind _ _ _)
    | (rw [evEs]; done)
    | (rw [evEs]; rfl)
    | (rw [evEs]; simp only [wr_bind]; done)
    | (rw [evEs]; simp only [wr_bind]; rfl)
@[simp↓] theorem a_nl  {Q : D → M → Prop} : @wr _ (evA G [] sg h) Q E = Q (.bl true) h := by
  first
    | (rw [evA]; exact wr_bind _ _ _)
    | (rw [evA]; done)
    | (rw [evA]; rfl)
    | (rw [evA]; simp only [wr_bind]; done)
    | (rw [evA]; simp only [wr_bind]; rfl)
@[simp↓] theorem a_cs (e : IE) (es : List IE) {Q : D → M → Prop} : @wr _ (evA G (e :: es) sg h) Q E = @wr _ (evE G e sg h) (fun x h1 => @wr _ (match x with
    | .bl true => evA G es sg h1
    | .bl false => .ok (.bl false) h1
    | _ => .no) Q E) E := by
  first
    | (rw [evA]; exact wr_bind _ _ _)
    | (rw [evA]; done)
    | (rw [evA]; rfl)
    | (rw [evA]; simp only [wr_bind]; done)
    | (rw [evA]; simp only [wr_bind]; rfl)
@[simp↓] theorem d_nl  {Q : D → M → Prop} : @wr _ (evD G [] sg h) Q E = Q (.bl false) h := by
  first
    | (rw [evD]; exact wr_bind _ _ _)
    | (rw [evD]; done)
    | (rw [evD]; rfl)
    | (rw [evD]; simp only [wr_bind]; done)
    | (rw [evD]; simp only [wr_bind]; rfl)
@[simp↓] theorem d_cs (e : IE) (es : List IE) {Q : D → M → Prop} : @wr _ (evD G (e :: es) sg h) Q E = @wr _ (evE G e sg h) (fun x h1 => @wr _ (match x with
    | .bl false => evD G es sg h1
    | .bl true => .ok (.bl true) h1
    | _ => .no) Q E) E := by
  first
    | (rw [evD]; exact wr_bind _ _ _)
    | (rw [evD]; done)
    | (rw [evD]; rfl)
    | (rw [evD]; simp only [wr_bind]; done)
    | (rw [evD]; simp only [wr_bind]; rfl)
@[simp↓] theorem cs_nl  {Q : Bool → M → Prop} : @wr _ (evCs G [] sg h) Q E = Q true h := by
  first
    | (rw [evCs]; exact wr_bind _ _ _)
    | (rw [evCs]; done)
    | (rw [evCs]; rfl)
    | (rw [evCs]; simp only [wr_bind]; done)
    | (rw [evCs]; simp only [wr_bind]; rfl)
@[simp↓] theorem cs_cs (e : IE) (es : List IE) {Q : Bool → M → Prop} : @wr _ (evCs G (e :: es) sg h) Q E = @wr _ (evE G e sg h) (fun x h1 => @wr _ (match x with
    | .bl true => evCs G es sg h1
    | .bl false => .ok false h1
    | _ => .no) Q E) E := by
  first
    | (rw [evCs]; exact wr_bind _ _ _)
    | (rw [evCs]; done)
    | (rw [evCs]; rfl)
    | (rw [evCs]; simp only [wr_bind]; done)
    | (rw [evCs]; simp only [wr_bind]; rfl)
@[simp↓] theorem o_nl  {Q : Option D → M → Prop} : @wr _ (evO G none sg h) Q E = Q none h := by
  first
    | (rw [evO]; exact wr_bind _ _ _)
    | (rw [evO]; done)
    | (rw [evO]; rfl)
    | (rw [evO]; simp only [wr_bind]; done)
    | (rw [evO]; simp only [wr_bind]; rfl)
@[simp↓] theorem o_sm (e : IE) {Q : Option D → M → Prop} : @wr _ (evO G (some e) sg h) Q E = @wr _ (evE G e sg h) (fun x h1 => @wr _ (match x with
    | .int i => R.ok (some (D.int i)) h1
    | _ => .no) Q E) E := by
  first
    | (rw [evO]; exact wr_bind _ _ _)
    | (rw [evO]; done)
    | (rw [evO]; rfl)
    | (rw [evO]; simp only [wr_bind]; done)
    | (rw [evO]; simp only [wr_bind]; rfl)
@[simp↓] theorem i_vl (e : IE) {Q : It → M → Prop} : @wr _ (evI G (.val e) sg h) Q E = @wr _ (evE G e sg h) (fun x h1 => @wr _ (itVal x h1) Q E) E := by
  first
    | (rw [evI]; exact wr_bind _ _ _)
    | (rw [evI]; done)
    | (rw [evI]; rfl)
    | (rw [evI]; simp only [wr_bind]; done)
    | (rw [evI]; simp only [wr_bind]; rfl)
@[simp↓] theorem i_r1 (a : IE) {Q : It → M → Prop} : @wr _ (evI G (.rng1 a) sg h) Q E = @wr _ (evE G a sg h) (fun x h1 => @wr _ (itRng (.int 0) x h1) Q E) E := by
  first
    | (rw [evI]; exact wr_bind _ _ _)
    | (rw [evI]; done)
    | (rw [evI]; rfl)
    | (rw [evI]; simp only [wr_bind]; done)
    | (rw [evI]; simp only [wr_bind]; rfl)
@[simp↓] theorem i_zp (a b : IE) {Q : It → M → Prop} : @wr _ (evI G (.zip a b) sg h) Q E = @wr _ (evE G a sg h) (fun x h1 => @wr _ (evE G b sg h1) (fun y h2 => @wr _ (itZip x y h2) Q E) E) E := by
  rw [evI]
  simp only [wr_bind]
@[simp↓] theorem i_r2 (a b : IE) {Q : It → M → Prop} : @wr _ (evI G (.rng2 a b) sg h) Q E = @wr _ (evE G a sg h) (fun x h1 => @wr _ (evE G b sg h1) (fun y h2 => @wr _ (itRng x y h2) Q E) E) E := by
  first
    | (rw [evI]; exact wr_bind _ _ _)
    | (rw [evI]; done)
    | (rw [evI]; rfl)
    | (rw [evI]; simp only [wr_bind]; done)
    | (rw [evI]; simp only [wr_bind]; rfl)
section
variable {K : Wn}
@[simp↓] theorem s_ps  : @ws (evS G (.pass) sg h) K = K.nx sg h := by
  first
    | (rw [evS]; exact ws_st _ _ _)
    | (rw [evS]; done)
    | (rw [evS]; rfl)
    | (rw [evS]; simp only [ws_st]; done)
    | (rw [evS]; simp only [ws_st]; rfl)
@[simp↓] theorem s_nv  : @ws (evS G (.nev) sg h) K = False := by
  first
    | (rw [evS]; exact ws_st _ _ _)
    | (rw [evS]; done)
    | (rw [evS]; rfl)
    | (rw [evS]; simp only [ws_st]; done)
    | (rw [evS]; simp only [ws_st]; rfl)
@[simp↓] theorem s_as (g : IG) (e : IE) : @ws (evS G (.asg g e) sg h) K = @wr _ (evE G e sg h) (fun x h1 => @ws (match asgG g x sg with
    | some sg1 => S.ok .nx sg1 h1
    | none => .no) K) (fun c fs h => K.ex c fs sg h) := by
  first
    | (rw [evS]; exact ws_st _ _ _)
    | (rw [evS]; done)
    | (rw [evS]; rfl)
    | (rw [evS]; simp only [ws_st]; done)
    | (rw [evS]; simp only [ws_st]; rfl)
@[simp↓] theorem s_si (o i e : IE) : @ws (evS G (.seti o i e) sg h) K = @wr _ (evE G e sg h) (fun x h1 => @wr _ (evE G o sg h1) (fun p h2 => @wr _ (evE G i sg h2) (fun k h3 => @ws (match setIdx p k x h3 with
    | some h4 => S.ok .nx sg h4
    | none => .no) K) (fun c fs h => K.ex c fs sg h)) (fun c fs h => K.ex c fs sg h)) (fun c fs h => K.ex c fs sg h) := by
  first
    | (rw [evS]; exact ws_st _ _ _)
    | (rw [evS]; done)
    | (rw [evS]; rfl)
    | (rw [evS]; simp only [ws_st]; done)
    | (rw [evS]; simp only [ws_st]; rfl)
@[simp↓] theorem s_sf (o : IE) (f : Nat) (e : IE) : @ws (evS G (.setf o f e) sg h) K = @wr _ (evE G e sg h) (fun x h1 => @wr _ (evE G o sg h1) (fun p h2 => @ws (match setFld p f x h2 with
    | some h3 => S.ok .nx sg h3
    | none => .no) K) (fun c fs h => K.ex c fs sg h)) (fun c fs h => K.ex c fs sg h) := by
  first
    | (rw [evS]; exact ws_st _ _ _)
    | (rw [evS]; done)
    | (rw [evS]; rfl)
    | (rw [evS]; simp only [ws_st]; done)
    | (rw [evS]; simp only [ws_st]; rfl)
@[simp↓] theorem s_ex (e : IE) : @ws (evS G (.ex e) sg h) K = @wr _ (evE G e sg h) (fun _ h1 => K.nx sg h1) (fun c fs h => K.ex c fs sg h) := by
  first
    | (rw [evS]; exact ws_st _ _ _)
    | (rw [evS]; done)
    | (rw [evS]; rfl)
    | (rw [evS]; simp only [ws_st]; done)
    | (rw [evS]; simp only [ws_st]; rfl)
@[simp↓] theorem s_rt (e : IE) : @ws (evS G (.ret e) sg h) K = @wr _ (evE G e sg h) (fun x h1 => K.rt x h1) (fun c fs h => K.ex c fs sg h) := by
  first
    | (rw [evS]; exact ws_st _ _ _)
    | (rw [evS]; done)
    | (rw [evS]; rfl)
    | (rw [evS]; simp only [ws_st]; done)
    | (rw [evS]; simp only [ws_st]; rfl)
@[simp↓] theorem s_rn  : @ws (evS G (.retN) sg h) K = K.rt .non h := by
  first
    | (rw [evS]; exact ws_st _ _ _)
    | (rw [evS]; done)
    | (rw [evS]; rfl)
    | (rw [evS]; simp only [ws_st]; done)
    | (rw [evS]; simp only [ws_st]; rfl)
@[simp↓] theorem s_if (c : IE) (p q : List IS) : @ws (evS G (.ife c p q) sg h) K = @wr _ (evE G c sg h) (fun x h1 => @ws (match x with
    | .bl true => evSs G p sg h1
    | .bl false => evSs G q sg h1
    | _ => .no) K) (fun c fs h => K.ex c fs sg h) := by
  first
    | (rw [evS]; exact ws_st _ _ _)
    | (rw [evS]; done)
    | (rw [evS]; rfl)
    | (rw [evS]; simp only [ws_st]; done)
    | (rw [evS]; simp only [ws_st]; rfl)
@[simp↓] theorem s_fr (g : IG) (it : II) (b : List IS) : @ws (evS G (.forr g it b) sg h) K = @wr _ (evI G it sg h) (fun J h1 => @ws (forF J (fun x sg1 h2 => match asgG g x sg1 with
    | some sg2 => evSs G b sg2 h2
    | none => .no) G.w 0 sg h1) K) (fun c fs h => K.ex c fs sg h) := by
  first
    | (rw [evS]; exact ws_st _ _ _)
    | (rw [evS]; done)
    | (rw [evS]; rfl)
    | (rw [evS]; simp only [ws_st]; done)
    | (rw [evS]; simp only [ws_st]; rfl)
@[simp↓] theorem s_wl (c : IE) (b : List IS) : @ws (evS G (.whl c b) sg h) K = @ws (whlF (evE G c) (evSs G b) G.w sg h) K := by
  first
    | (rw [evS]; exact ws_st _ _ _)
    | (rw [evS]; done)
    | (rw [evS]; rfl)
    | (rw [evS]; simp only [ws_st]; done)
    | (rw [evS]; simp only [ws_st]; rfl)
end
end
/-- a call, by its body -/
theorem wr_call {P : Prog} {w n f : Nat} {xs : List D} {h : M} {Q : D → M → Prop} {E : Ex} {fd : FnD} (e : P.fn f = some fd) (hl : xs.length = fd.arity) (hd : fd.dfl = [])
    (hb : @ws (evSs (gam P w n none) fd.body (xs.map some ++ List.replicate (fd.slots - fd.arity) none) h) ⟨fun _ h => Q .non h, Q, fun _ _ => False, fun _ _ => False, fun c fs _ h => E c fs h⟩) : @wr _ (callN P w (n + 1) f xs h) Q E := by
  unfold callN
  rw [e]
  dsimp only
  rw [hd, hl, if_pos ⟨Nat.le_refl _, Nat.le_add_right _ _⟩, List.drop_nil, List.append_nil, wr_end]
  exact hb
/-! ### loops -/
theorem ws_for {J : It} {turn : D → Vars → M → S} {K : Wn} (I : Nat → Vars → M → Prop) (N : Nat) {w : Nat} {sg : Vars} {h : M} (hw : N < w) (h0 : I 0 sg h)
    (hstop : ∀ sg h, I N sg h → nth J h N = some none ∧ K.nx sg h)
    (hgo : ∀ k sg h, k < N → I k sg h → ∃ x, nth J h k = some (some x) ∧ @ws (turn x sg h) { K with nx := I (k + 1), ct := I (k + 1), bk := K.nx }) : @ws (forF J turn w 0 sg h) K := by
  have go : ∀ (m k w : Nat) (sg : Vars) (h : M), m + k = N → m < w → I k sg h → @ws (forF J turn w k sg h) K := by
    intro m
    induction m with
    | zero =>
      intro k w sg h e hw hi
      cases w with
      | zero => omega
      | succ w =>
        have : k = N := by omega
        subst this
        obtain ⟨e1, q⟩ := hstop sg h hi
        unfold forF
        rw [e1]
        exact q
    | succ m ih =>
      intro k w sg h e hw hi
      cases w with
      | zero => omega
      | succ w =>
        obtain ⟨x, e1, q⟩ := hgo k sg h (by omega) hi
        unfold forF
        rw [e1]
        dsimp only
        cases et : turn x sg h with
        | no => rw [et] at q; exact q
        | exc c fs sg' h' => rw [et] at q; exact q
        | ok fl sg' h' =>
          rw [et] at q
          cases fl with
          | nx => exact ih (k + 1) w sg' h' (by omega) (by omega) q
          | ct => exact ih (k + 1) w sg' h' (by omega) (by omega) q
          | brk => exact q
          | ret d => exact q
  exact go N 0 w sg h (by omega) hw h0
/-! ### sums -/
theorem lt_big {n : Nat} (h : n < 10 ^ 200) : n < BIG := Nat.lt_of_lt_of_le h (Nat.le_trans (Nat.pow_le_pow_left (show 10 ≤ 2 ^ 4 by decide) 200) (by rw [← Nat.pow_mul]; unfold BIG; exact Nat.pow_le_pow_right (by decide) (by decide)))
theorem lt_dbig {n : Nat} (h : n < 10 ^ 200) : n < DBIG := Nat.lt_of_lt_of_le h (Nat.le_trans (Nat.pow_le_pow_left (show 10 ≤ 2 ^ 4 by decide) 200) (by rw [← Nat.pow_mul]; unfold DBIG; exact Nat.pow_le_pow_right (by decide) (by decide)))
section
variable {i j : Int} {h : M}
@[simp] theorem b_add : binop .add (.int i) (.int j) h = .ok (.int (i + j)) h := nodef rfl
@[simp] theorem b_sub : binop .sub (.int i) (.int j) h = .ok (.int (i - j)) h := nodef rfl
theorem b_mul (h1 : i.natAbs < 10 ^ 200) (h2 : j.natAbs < 10 ^ 200) : binop .mul (.int i) (.int j) h = .ok (.int (i * j)) h := by
  have c : i.natAbs < BIG ∧ j.natAbs < BIG := ⟨lt_big h1, lt_big h2⟩
  unfold binop
  simp only [c, and_self, if_true]
theorem b_fdiv (h1 : 0 < j) (h2 : j.natAbs < 10 ^ 200) : binop .fdiv (.int i) (.int j) h = .ok (.int (i / j)) h := by
  have c : 0 < j ∧ j.natAbs < DBIG := ⟨h1, lt_dbig h2⟩
  unfold binop
  simp only [c, and_self, if_true]
theorem b_mod (h1 : 0 < j) : binop .mod (.int i) (.int j) h = .ok (.int (i % j)) h := by
  show (if 0 < j then _ else _) = _
  rw [if_pos h1]
theorem b_pow (h1 : 0 ≤ j) (h2 : j ≤ 1000000) (h3 : i.natAbs < 2 ^ 64) : binop .pow (.int i) (.int j) h = .ok (.int (i ^ j.toNat)) h := by
  show (if _ then _ else _) = _
  rw [if_pos ⟨h1, h2, h3⟩]
@[simp] theorem c_eq : cmpop .eq (.int i) (.int j) h = some (decide (i = j)) := nodef rfl
@[simp] theorem c_ne : cmpop .ne (.int i) (.int j) h = some (!decide (i = j)) := nodef rfl
@[simp] theorem c_eqb (a b : Bool) : cmpop .eq (.bl a) (.bl b) h = some (a == b) := nodef rfl
@[simp] theorem c_neb (a b : Bool) : cmpop .ne (.bl a) (.bl b) h = some (!(a == b)) := nodef rfl
@[simp] theorem c_lt : cmpop .lt (.int i) (.int j) h = some (decide (i < j)) := nodef rfl
@[simp] theorem c_le : cmpop .le (.int i) (.int j) h = some (decide (i ≤ j)) := nodef rfl
@[simp] theorem c_gt : cmpop .gt (.int i) (.int j) h = some (decide (j < i)) := nodef rfl
@[simp] theorem c_ge : cmpop .ge (.int i) (.int j) h = some (decide (j ≤ i)) := nodef rfl
end
section
variable {h : M} {i j k : Int} {xs : List D} {a : Nat}
@[simp] theorem g_nm (n : Nat) (d : D) (sg : Vars) : asgG (.nm n) d sg = some (sg.set n (some d)) := by rw [asgG]
@[simp] theorem g_tp (gs : List IG) (sg : Vars) : asgG (.tp gs) (.tup xs) sg = asgGs gs xs sg := by rw [asgG]
@[simp] theorem gs_nil (sg : Vars) : asgGs [] [] sg = some sg := by rw [asgGs]
@[simp] theorem gs_cons (g : IG) (gs : List IG) (d : D) (ds : List D) (sg : Vars) : asgGs (g :: gs) (d :: ds) sg = (asgG g d sg).bind (asgGs gs ds) := by rw [asgGs]
@[simp] theorem si_ref (d : D) : setIdx (.ref a) (.int k) d h = (match h[a]? with
    | some (.lst xs) => (ix xs.length k).map fun j => h.set a (.lst (xs.set j d))
    | _ => none) := nodef rfl
@[simp] theorem sf_ref (f : Nat) (d : D) : setFld (.ref a) f d h = (match h[a]? with
    | some (.ins c fs) => if fs.length < 900 then some (h.set a (.ins c (fput f d fs))) else none
    | _ => none) := nodef rfl
@[simp] theorem t_int (ts : List Ty) : isTys (.int i) h ts = some (ts.any (isKd .int)) := nodef rfl
@[simp] theorem t_bl (b : Bool) (ts : List Ty) : isTys (.bl b) h ts = some (ts.any (isKd .bl)) := nodef rfl
@[simp] theorem t_tup (ts : List Ty) : isTys (.tup xs) h ts = some (ts.any (isKd .tup)) := nodef rfl
@[simp] theorem t_str (x : List Nat) (ts : List Ty) : isTys (.str x) h ts = some (ts.any (isKd .str)) := nodef rfl
@[simp] theorem t_non (ts : List Ty) : isTys .non h ts = some (ts.any (isKd .non)) := nodef rfl
theorem t_lst (e : h[a]? = some (.lst xs)) (ts : List Ty) : isTys (.ref a) h ts = some (ts.any (isKd .lst)) := by
  unfold isTys kind
  simp [e]
@[simp] theorem v_tup : itVal (.tup xs) h = .ok (.items xs) h := nodef rfl
@[simp] theorem v_zip (ys : List D) : itZip (.tup xs) (.tup ys) h = .ok (.items (List.zipWith (fun a b => .tup [a, b]) xs ys)) h := nodef rfl
@[simp] theorem v_scr : itVal (.scr xs) h = .ok (.items xs) h := nodef rfl
theorem v_lst (e : h[a]? = some (.lst xs)) : itVal (.ref a) h = .ok (.live a) h := by
  unfold itVal
  simp [e]
@[simp] theorem x_tup : index (.tup xs) (.int i) h = (match at? xs i with
    | some d => .ok d h
    | none => .no) := nodef rfl
@[simp] theorem x_scr : index (.scr xs) (.int i) h = (match at? xs i with
    | some d => .ok d h
    | none => .no) := nodef rfl
@[simp] theorem x_ref : index (.ref a) (.int i) h = (match h[a]? with
    | some (.lst xs) => (match at? xs i with
      | some d => .ok d h
      | none => .no)
    | _ => .no) := nodef rfl
@[simp] theorem k_max : bcall .max [.int i, .int j] h = .ok (.int (maxI i j)) h := nodef rfl
@[simp] theorem k_max3 : bcall .max [.int i, .int j, .int k] h = .ok (.int (maxI (maxI i j) k)) h := nodef rfl
@[simp] theorem k_min : bcall .min [.int i, .int j] h = .ok (.int (minI i j)) h := nodef rfl
theorem k_dm (c : 0 < j ∧ j.natAbs < 1073741824) : bcall .divmod [.int i, .int j] h = .ok (.tup [.int (i / j), .int (i % j)]) h := by
  show (if 0 < j ∧ j.natAbs < 1073741824 then _ else _) = _
  rw [if_pos c]
@[simp] theorem k_lenT : bcall .len [.tup xs] h = .ok (.int xs.length) h := nodef rfl
@[simp] theorem k_lenS : bcall .len [.scr xs] h = .ok (.int xs.length) h := nodef rfl
theorem k_lenL (e : h[a]? = some (.lst xs)) : bcall .len [.ref a] h = .ok (.int xs.length) h := by
  show (match h[a]? with
    | some (.lst x) => R.ok (D.int x.length) h
    | _ => .no) = _
  rw [e]
@[simp] theorem k_intI : bcall .int [.int i] h = .ok (.int i) h := nodef rfl
@[simp] theorem k_intB (b : Bool) : bcall .int [.bl b] h = .ok (.int (if b then 1 else 0)) h := nodef rfl
@[simp] theorem k_tupT : bcall .tuple [.tup xs] h = .ok (.tup xs) h := nodef rfl
@[simp] theorem k_listT : bcall .list [.tup xs] h = .ok (.ref h.length) (h ++ [.lst xs]) := nodef rfl
theorem at_nat {xs : List D} (j : Nat) (h : j < xs.length) : at? xs (j : Int) = xs[j]? := by
  unfold at? ix
  rw [if_pos (by omega), if_pos (by omega)]
  simp
@[simp] theorem at0 (a : D) (r : List D) : at? (a :: r) 0 = some a := at_nat (xs := a :: r) 0 (by simp)
@[simp] theorem at1 (a b : D) (r : List D) : at? (a :: b :: r) 1 = some b := at_nat (xs := a :: b :: r) 1 (by simp)
@[simp] theorem at2 (a b c : D) (r : List D) : at? (a :: b :: c :: r) 2 = some c := at_nat (xs := a :: b :: c :: r) 2 (by simp)
@[simp] theorem at3 (a b c d : D) (r : List D) : at? (a :: b :: c :: d :: r) 3 = some d := at_nat (xs := a :: b :: c :: d :: r) 3 (by simp)
theorem at_all {xs : List D} {i : Int} {p : D → Prop} (h0 : 0 ≤ i) (h1 : i < xs.length) (hp : ∀ x ∈ xs, p x) : ∃ d, at? xs i = some d ∧ p d := by
  have hl : i.toNat < xs.length := by omega
  refine ⟨xs[i.toNat], ?_, hp _ (List.getElem_mem hl)⟩
  unfold at? ix
  rw [if_pos h0, if_pos h1]
  show xs[i.toNat]? = _
  exact List.getElem?_eq_getElem hl
theorem at_ints {ns : List Int} {i : Int} (h0 : 0 ≤ i) (h1 : i < ns.length) : ∃ v, at? (ns.map D.int) i = some (.int v) := by
  obtain ⟨d, e, v, rfl⟩ := at_all (xs := ns.map D.int) (p := fun d => ∃ v, d = .int v) h0 (by rw [List.length_map]; exact h1) fun x hx => by
    obtain ⟨v, _, rfl⟩ := List.mem_map.mp hx
    exact ⟨v, rfl⟩
  exact ⟨v, e⟩
end
/-- but for these places the heap stays, and it may grow -/
def Kp (c : List Nat) (h h' : M) : Prop := h.length ≤ h'.length ∧ ∀ i, i < h.length → i ∉ c → h'[i]? = h[i]?
theorem Kp.refl (c : List Nat) (h : M) : Kp c h h := ⟨Nat.le_refl _, fun _ _ _ => rfl⟩
theorem Kp.trans {c : List Nat} {h h1 h2 : M} (a : Kp c h h1) (b : Kp c h1 h2) : Kp c h h2 :=
  ⟨Nat.le_trans a.1 b.1, fun i l n => (b.2 i (Nat.lt_of_lt_of_le l a.1) n).trans (a.2 i l n)⟩
theorem Kp.wide {c c' : List Nat} {h h' : M} (a : Kp c h h') (w : ∀ i ∈ c, i < h.length → i ∈ c') : Kp c' h h' := ⟨a.1, fun i l n => a.2 i l fun m => n (w i m l)⟩
theorem Kp.push (c : List Nat) (h : M) (o : O) : Kp c h (h ++ [o]) := ⟨by simp, fun i l _ => List.getElem?_append_left l⟩
theorem Kp.set {c : List Nat} {h : M} {a : Nat} {o : O} (m : a ∈ c) : Kp c h (h.set a o) := ⟨by simp, fun i l n => List.getElem?_set_ne fun e => n (by rw [← e]; exact m)⟩
theorem Kp.at {c : List Nat} {h h' : M} (k : Kp c h h') {i : Nat} {o : O} (e : h[i]? = some o) (n : i ∉ c) : h'[i]? = some o := by
  rw [k.2 i (List.getElem?_eq_some_iff.mp e).1 n]
  exact e
end Rm

namespace Bk
open PySem PySem.Spec PyProof.Rows L2
def top (i : Nat) : Stmt := PySem.Challenge.pw_risemarks_k13_parts_and_back.main.body.getD i (.Pass ⟨0, 0, 0, 0⟩)
abbrev F_is_whole : Nat := 0
abbrev F_Shape___init__ : Nat := 1
abbrev F_mark_of : Nat := 2
abbrev F_parts_of : Nat := 3
abbrev F_pair_of : Nat := 4
abbrev F__law_hand : Nat := 5
abbrev F__law_pick : Nat := 6
abbrev F__law_number : Nat := 7
abbrev F__law_whole : Nat := 8
abbrev F__law_wide : Nat := 9
abbrev F__law_shape_numbers : Nat := 10
abbrev F__law_below : Nat := 11
abbrev F__law_tuple : Nat := 12
abbrev F__law_drawn : Nat := 13
abbrev F__law_right : Nat := 14
abbrev F_law : Nat := 15
/-- is_whole(thing), slots 0=thing -/
def D_is_whole : Rm.FnD := ⟨1, 1, [], [
  .ret (.conj [.isi (.var 0) [.int], .not (.isi (.var 0) [.bool])])]⟩
def E_is_whole : Rm.Ent := ⟨("is_whole", none), "is_whole", "is_whole", (top 5), ["thing"], ["thing"], D_is_whole⟩
/-- Shape.__init__(self, counts, slots), slots 0=self 1=counts 2=slots 3=thing -/
def D_Shape___init__ : Rm.FnD := ⟨3, 4, [], [
  .forr (.nm 3) (.val (.tup [.var 1, .var 2])) [.ife (.disj [.not (.call F_is_whole [.var 3]), .not (.cmp2 .le .le (.c (.int 1)) (.var 3) (.glob (.int 1000)))]) [.nev] []],
  .setf (.var 0) 0 (.var 1),
  .setf (.var 0) 1 (.var 2)]⟩
def E_Shape___init__ : Rm.Ent := ⟨("Shape", some "__init__"), "__init__", "Shape.__init__", (inClass (top 6) 0), ["self", "counts", "slots"], ["self", "counts", "slots", "thing"], D_Shape___init__⟩
/-- mark_of(shape, moment, slot, count), slots 0=shape 1=moment 2=slot 3=count -/
def D_mark_of : Rm.FnD := ⟨4, 4, [], [
  .ret (.bin .add (.bin .mul (.bin .add (.bin .mul (.var 1) (.fld (.var 0) 1)) (.var 2)) (.fld (.var 0) 0)) (.var 3))]⟩
def E_mark_of : Rm.Ent := ⟨("mark_of", none), "mark_of", "mark_of", (top 7), ["shape", "moment", "slot", "count"], ["shape", "moment", "slot", "count"], D_mark_of⟩
/-- parts_of(shape, mark), slots 0=shape 1=mark 2=rest 3=count 4=moment 5=slot -/
def D_parts_of : Rm.FnD := ⟨2, 6, [], [
  .asg (.tp [.nm 2, .nm 3]) (.blt .divmod [.var 1, .fld (.var 0) 0]),
  .asg (.tp [.nm 4, .nm 5]) (.blt .divmod [.var 2, .fld (.var 0) 1]),
  .ret (.tup [.var 4, .var 5, .var 3])]⟩
def E_parts_of : Rm.Ent := ⟨("parts_of", none), "parts_of", "parts_of", (top 8), ["shape", "mark"], ["shape", "mark", "rest", "count", "moment", "slot"], D_parts_of⟩
/-- pair_of(shape), slots 0=shape -/
def D_pair_of : Rm.FnD := ⟨1, 1, [], [
  .ret (.tup [.fld (.var 0) 0, .fld (.var 0) 1])]⟩
def E_pair_of : Rm.Ent := ⟨("pair_of", none), "pair_of", "pair_of", (top 9), ["shape"], ["shape"], D_pair_of⟩
/-- _law_hand(_law_script, _law_k), slots 0=_law_script 1=_law_k 2=_law_hand_here -/
def D__law_hand : Rm.FnD := ⟨2, 3, [], [
  .asg (.nm 2) (.lst [.c (.int 0), .c (.int 0), .c (.int 1)]),
  .ife (.cmp .lt (.var 1) (.blt .len [.var 0])) [.seti (.var 2) (.c (.int 0)) (.bin .mod (.idx (.var 0) (.var 1)) (.bin .mul (.bin .pow (.c (.int 10)) (.c (.int 60))) (.bin .pow (.c (.int 10)) (.c (.int 60)))))] [],
  .ife (.conj [.cmp .ge (.idx (.var 2) (.c (.int 0))) (.bin .pow (.c (.int 10)) (.c (.int 18))), .cmp .eq (.bin .mod (.idx (.var 0) (.c (.int 0))) (.c (.int 2))) (.c (.int 0))]) [.seti (.var 2) (.c (.int 2)) (.c (.int 0))] [],
  .ife (.cmp .eq (.var 1) (.c (.int 0))) [.seti (.var 2) (.c (.int 0)) (.bin .fdiv (.idx (.var 2) (.c (.int 0))) (.c (.int 2)))] [],
  .ret (.var 2)]⟩
def E__law_hand : Rm.Ent := ⟨("_law_hand", none), "_law_hand", "_law_hand", (top 11), ["_law_script", "_law_k"], ["_law_script", "_law_k", "_law_hand_here"], D__law_hand⟩
/-- _law_pick(_law_hand_here, _law_many), slots 0=_law_hand_here 1=_law_many 2=_law_by 3=_law_one 4=_law_two 5=_law_found 6=_law_low -/
def D__law_pick : Rm.FnD := ⟨2, 7, [], [
  .ife (.cmp .eq (.idx (.var 0) (.c (.int 2))) (.c (.int 0))) [.asg (.nm 5) (.bin .mod (.idx (.var 0) (.c (.int 0))) (.var 1)), .seti (.var 0) (.c (.int 0)) (.bin .fdiv (.idx (.var 0) (.c (.int 0))) (.var 1)), .ret (.var 5)] [],
  .ife (.cmp .gt (.var 1) (.c (.int 1000000))) [.asg (.nm 6) (.call F__law_pick [.var 0, .c (.int 1000000)]), .ret (.bin .mod (.bin .add (.var 6) (.bin .mul (.c (.int 1000000)) (.call F__law_pick [.var 0, .bin .add (.bin .fdiv (.var 1) (.c (.int 1000000))) (.c (.int 1))]))) (.var 1))] [],
  .seti (.var 0) (.c (.int 1)) (.bin .add (.idx (.var 0) (.c (.int 1))) (.c (.int 1))),
  .asg (.nm 2) (.bin .add (.c (.int 716151937)) (.bin .mul (.bin .mul (.c (.int 39916801)) (.idx (.var 0) (.c (.int 1)))) (.idx (.var 0) (.c (.int 1))))),
  .asg (.nm 3) (.bin .mod (.bin .mul (.bin .add (.bin .mod (.idx (.var 0) (.c (.int 0))) (.c (.int 2147483629))) (.c (.int 11))) (.var 2)) (.c (.int 998244353))),
  .asg (.nm 4) (.bin .mod (.bin .add (.bin .mul (.var 3) (.var 3)) (.bin .mul (.c (.int 48271)) (.var 3))) (.c (.int 1000000007))),
  .ret (.bin .mod (.bin .fdiv (.bin .mod (.bin .mul (.var 4) (.c (.int 48271))) (.c (.int 2147483399))) (.c (.int 16))) (.var 1))]⟩
def E__law_pick : Rm.Ent := ⟨("_law_pick", none), "_law_pick", "_law_pick", (top 12), ["_law_hand_here", "_law_many"], ["_law_hand_here", "_law_many", "_law_by", "_law_one", "_law_two", "_law_found", "_law_low"], D__law_pick⟩
/-- _law_number(_law_hand_here, _law_bound), slots 0=_law_hand_here 1=_law_bound 2=_law_way 3=_law_power 4=_law_base 5=_law_k -/
def D__law_number : Rm.FnD := ⟨2, 6, [], [
  .asg (.nm 2) (.call F__law_pick [.var 0, .c (.int 6)]),
  .ife (.cmp .eq (.var 2) (.c (.int 0))) [.ret (.bin .mod (.call F__law_pick [.var 0, .c (.int 40)]) (.bin .add (.var 1) (.c (.int 1))))] [],
  .ife (.cmp .eq (.var 2) (.c (.int 1))) [.ret (.bin .sub (.var 1) (.bin .mod (.call F__law_pick [.var 0, .c (.int 4)]) (.bin .add (.var 1) (.c (.int 1)))))] [],
  .ife (.cmp .eq (.var 2) (.c (.int 2))) [.asg (.nm 3) (.c (.int 1)), .asg (.nm 4) (.idx (.lst [.c (.int 2), .c (.int 10), .c (.int 32)]) (.call F__law_pick [.var 0, .c (.int 3)])), .forr (.nm 5) (.rng1 (.call F__law_pick [.var 0, .c (.int 40)])) [.asg (.nm 3) (.bin .mul (.var 3) (.var 4))], .ret (.bin .mod (.bin .sub (.bin .add (.var 3) (.call F__law_pick [.var 0, .c (.int 3)])) (.c (.int 1))) (.bin .add (.var 1) (.c (.int 1))))] [],
  .ret (.call F__law_pick [.var 0, .bin .add (.var 1) (.c (.int 1))])]⟩
def E__law_number : Rm.Ent := ⟨("_law_number", none), "_law_number", "_law_number", (top 13), ["_law_hand_here", "_law_bound"], ["_law_hand_here", "_law_bound", "_law_way", "_law_power", "_law_base", "_law_k"], D__law_number⟩
/-- _law_whole(_law_found), slots 0=_law_found -/
def D__law_whole : Rm.FnD := ⟨1, 1, [], [
  .ret (.conj [.isi (.var 0) [.int], .not (.isi (.var 0) [.bool])])]⟩
def E__law_whole : Rm.Ent := ⟨("_law_whole", none), "_law_whole", "_law_whole", (top 14), ["_law_found"], ["_law_found"], D__law_whole⟩
/-- _law_wide(_law_hand_here), slots 0=_law_hand_here 1=_law_way -/
def D__law_wide : Rm.FnD := ⟨1, 2, [], [
  .asg (.nm 1) (.call F__law_pick [.var 0, .c (.int 4)]),
  .ife (.cmp .eq (.var 1) (.c (.int 0))) [.ret (.bin .add (.c (.int 1)) (.call F__law_pick [.var 0, .c (.int 4)]))] [],
  .ife (.cmp .eq (.var 1) (.c (.int 1))) [.ret (.bin .sub (.c (.int 1000)) (.call F__law_pick [.var 0, .c (.int 2)]))] [],
  .ife (.cmp .eq (.var 1) (.c (.int 2))) [.ret (.c (.int 1))] [],
  .ret (.bin .add (.c (.int 1)) (.call F__law_pick [.var 0, .c (.int 1000)]))]⟩
def E__law_wide : Rm.Ent := ⟨("_law_wide", none), "_law_wide", "_law_wide", (top 15), ["_law_hand_here"], ["_law_hand_here", "_law_way"], D__law_wide⟩
/-- _law_shape_numbers(_law_hand_here), slots 0=_law_hand_here 1=_law_counts -/
def D__law_shape_numbers : Rm.FnD := ⟨1, 2, [], [
  .asg (.nm 1) (.call F__law_wide [.var 0]),
  .ret (.tup [.var 1, .call F__law_wide [.var 0]])]⟩
def E__law_shape_numbers : Rm.Ent := ⟨("_law_shape_numbers", none), "_law_shape_numbers", "_law_shape_numbers", (top 16), ["_law_hand_here"], ["_law_hand_here", "_law_counts"], D__law_shape_numbers⟩
/-- _law_below(_law_hand_here, _law_many), slots 0=_law_hand_here 1=_law_many 2=_law_way -/
def D__law_below : Rm.FnD := ⟨2, 3, [], [
  .asg (.nm 2) (.call F__law_pick [.var 0, .c (.int 4)]),
  .ife (.cmp .lt (.var 2) (.c (.int 2))) [.ret (.idx (.lst [.c (.int 0), .bin .sub (.var 1) (.c (.int 1))]) (.var 2))] [],
  .ret (.call F__law_pick [.var 0, .var 1])]⟩
def E__law_below : Rm.Ent := ⟨("_law_below", none), "_law_below", "_law_below", (top 17), ["_law_hand_here", "_law_many"], ["_law_hand_here", "_law_many", "_law_way"], D__law_below⟩
/-- _law_tuple(_law_found, _law_due), slots 0=_law_found 1=_law_due 2=_law_one 3=_law_other -/
def D__law_tuple : Rm.FnD := ⟨2, 4, [], [
  .ife (.disj [.not (.isi (.var 0) [.tuple]), .cmp .ne (.blt .len [.var 0]) (.blt .len [.var 1])]) [.ret (.c (.bl false))] [],
  .forr (.tp [.nm 2, .nm 3]) (.zip (.var 0) (.var 1)) [.ife (.disj [.not (.call F__law_whole [.var 2]), .cmp .ne (.var 2) (.var 3)]) [.ret (.c (.bl false))] []],
  .ret (.c (.bl true))]⟩
def E__law_tuple : Rm.Ent := ⟨("_law_tuple", none), "_law_tuple", "_law_tuple", (top 18), ["_law_found", "_law_due"], ["_law_found", "_law_due", "_law_one", "_law_other"], D__law_tuple⟩
/-- _law_drawn(_law_hand_here, _law_numbers), slots 0=_law_hand_here 1=_law_numbers 2=_law_moment 3=_law_slot 4=_law_count -/
def D__law_drawn : Rm.FnD := ⟨2, 5, [], [
  .asg (.nm 2) (.call F__law_number [.var 0, .bin .pow (.c (.int 10)) (.c (.int 30))]),
  .asg (.nm 3) (.call F__law_below [.var 0, .idx (.var 1) (.c (.int 1))]),
  .asg (.nm 4) (.call F__law_below [.var 0, .idx (.var 1) (.c (.int 0))]),
  .ret (.tup [.var 2, .var 3, .var 4, .call F__law_number [.var 0, .bin .pow (.c (.int 10)) (.c (.int 40))]])]⟩
def E__law_drawn : Rm.Ent := ⟨("_law_drawn", none), "_law_drawn", "_law_drawn", (top 19), ["_law_hand_here", "_law_numbers"], ["_law_hand_here", "_law_numbers", "_law_moment", "_law_slot", "_law_count"], D__law_drawn⟩
/-- _law_right(_law_shape, _law_numbers, _law_drawn_here), slots 0=_law_shape 1=_law_numbers 2=_law_drawn_here 3=_law_slot 4=_law_count 5=_law_mark 6=_law_due 7=_law_counts 8=_law_slots 9=_law_moment 10=_law_other -/
def D__law_right : Rm.FnD := ⟨3, 11, [], [
  .asg (.tp [.nm 7, .nm 8]) (.var 1),
  .asg (.tp [.nm 9, .nm 3, .nm 4, .nm 10]) (.var 2),
  .asg (.nm 3) (.bin .mod (.var 3) (.var 8)),
  .asg (.nm 4) (.bin .mod (.var 4) (.var 7)),
  .asg (.nm 5) (.call F_mark_of [.var 0, .var 9, .var 3, .var 4]),
  .ife (.disj [.not (.call F__law_whole [.var 5]), .cmp .ne (.var 5) (.bin .add (.bin .mul (.bin .add (.bin .mul (.var 9) (.var 8)) (.var 3)) (.var 7)) (.var 4))]) [.ret (.c (.bl false))] [],
  .ife (.not (.call F__law_tuple [.call F_parts_of [.var 0, .var 5], .tup [.var 9, .var 3, .var 4]])) [.ret (.c (.bl false))] [],
  .asg (.nm 6) (.tup [.bin .fdiv (.bin .fdiv (.var 10) (.var 7)) (.var 8), .bin .mod (.bin .fdiv (.var 10) (.var 7)) (.var 8), .bin .mod (.var 10) (.var 7)]),
  .ret (.conj [.call F__law_tuple [.call F_parts_of [.var 0, .var 10], .var 6], .call F__law_tuple [.call F_pair_of [.var 0], .tup [.var 7, .var 8]]])]⟩
def E__law_right : Rm.Ent := ⟨("_law_right", none), "_law_right", "_law_right", (top 20), ["_law_shape", "_law_numbers", "_law_drawn_here"], ["_law_shape", "_law_numbers", "_law_drawn_here", "_law_slot", "_law_count", "_law_mark", "_law_due", "_law_counts", "_law_slots", "_law_moment", "_law_other"], D__law_right⟩
/-- law(_law_script), slots 0=_law_script 1=_law_one 2=_law_two 3=_law_shapes 4=_law_kept 5=_law_k 6=_law_drawn_here 7=_law_shape 8=_law_numbers -/
def D_law : Rm.FnD := ⟨1, 9, [], [
  .asg (.nm 1) (.call F__law_shape_numbers [.call F__law_hand [.var 0, .c (.int 0)]]),
  .asg (.nm 2) (.call F__law_shape_numbers [.call F__law_hand [.var 0, .c (.int 1)]]),
  .asg (.nm 3) (.lst [.tup [.make 0 [.idx (.var 1) (.c (.int 0)), .idx (.var 1) (.c (.int 1))], .var 1], .tup [.make 0 [.idx (.var 2) (.c (.int 0)), .idx (.var 2) (.c (.int 1))], .var 2]]),
  .ex (.bm .append (.var 3) [.tup [.make 0 [.idx (.var 1) (.c (.int 1)), .idx (.var 1) (.c (.int 0))], .tup [.idx (.var 1) (.c (.int 1)), .idx (.var 1) (.c (.int 0))]]]),
  .asg (.nm 4) (.lc (.call F_pair_of [.var 7]) (.tp [.nm 7, .nm 8]) (.val (.var 3)) [] [7, 8]),
  .forr (.nm 5) (.rng2 (.c (.int 2)) (.blt .max [.c (.int 3), .blt .min [.c (.int 32), .blt .len [.var 0]]])) [.asg (.nm 6) (.call F__law_drawn [.call F__law_hand [.var 0, .var 5], .idx (.lst [.var 1, .var 2]) (.bin .mod (.var 5) (.c (.int 2)))]), .forr (.tp [.nm 7, .nm 8]) (.val (.bin .add (.var 3) (.slc (.var 3) none (some (.c (.int 1)))))) [.ife (.not (.call F__law_right [.var 7, .var 8, .var 6])) [.ret (.c (.bl false))] []]],
  .forr (.nm 5) (.rng1 (.c (.int 3))) [.asg (.tp [.nm 7, .nm 8]) (.idx (.var 3) (.var 5)), .ife (.disj [.cmp .ne (.idx (.var 4) (.var 5)) (.var 8), .cmp .ne (.fld (.var 7) 0) (.idx (.var 8) (.c (.int 0))), .cmp .ne (.fld (.var 7) 1) (.idx (.var 8) (.c (.int 1)))]) [.ret (.c (.bl false))] []],
  .ret (.c (.bl true))]⟩
def E_law : Rm.Ent := ⟨("law", none), "law", "law", (top 21), ["_law_script"], ["_law_script", "_law_one", "_law_two", "_law_shapes", "_law_kept", "_law_k", "_law_drawn_here", "_law_shape", "_law_numbers"], D_law⟩
def nam : Rm.Nam where
  flds := ["counts", "slots"]
  mths := []
  fns := [("is_whole", 0), ("mark_of", 2), ("parts_of", 3), ("pair_of", 4), ("_law_hand", 5), ("_law_pick", 6), ("_law_number", 7), ("_law_whole", 8), ("_law_wide", 9), ("_law_shape_numbers", 10), ("_law_below", 11), ("_law_tuple", 12), ("_law_drawn", 13), ("_law_right", 14), ("law", 15)]
  clss := [("Shape", 0)]
  excs := [("RiseError", 0), ("BadShape", 1)]
  cons := [("WIDEST", .int 1000)]
  blts := ["bool", "divmod", "int", "isinstance", "len", "max", "min", "range", "tuple", "zip"]
def bk : Rm.Book := ⟨nam, [E_is_whole, E_Shape___init__, E_mark_of, E_parts_of, E_pair_of, E__law_hand, E__law_pick, E__law_number, E__law_whole, E__law_wide, E__law_shape_numbers, E__law_below, E__law_tuple, E__law_drawn, E__law_right, E_law], [], [(0, 1)]⟩
theorem b_is_whole : E_is_whole.Bnd := fun _ _ _ _ _ _ us hl => match us, hl with | [_], _ => rfl
theorem b_Shape___init__ : E_Shape___init__.Bnd := fun _ _ _ _ _ _ us hl => match us, hl with | [_, _, _], _ => rfl
theorem b_mark_of : E_mark_of.Bnd := fun _ _ _ _ _ _ us hl => match us, hl with | [_, _, _, _], _ => rfl
theorem b_parts_of : E_parts_of.Bnd := fun _ _ _ _ _ _ us hl => match us, hl with | [_, _], _ => rfl
theorem b_pair_of : E_pair_of.Bnd := fun _ _ _ _ _ _ us hl => match us, hl with | [_], _ => rfl
theorem b__law_hand : E__law_hand.Bnd := fun _ _ _ _ _ _ us hl => match us, hl with | [_, _], _ => rfl
theorem b__law_pick : E__law_pick.Bnd := fun _ _ _ _ _ _ us hl => match us, hl with | [_, _], _ => rfl
theorem b__law_number : E__law_number.Bnd := fun _ _ _ _ _ _ us hl => match us, hl with | [_, _], _ => rfl
theorem b__law_whole : E__law_whole.Bnd := fun _ _ _ _ _ _ us hl => match us, hl with | [_], _ => rfl
theorem b__law_wide : E__law_wide.Bnd := fun _ _ _ _ _ _ us hl => match us, hl with | [_], _ => rfl
theorem b__law_shape_numbers : E__law_shape_numbers.Bnd := fun _ _ _ _ _ _ us hl => match us, hl with | [_], _ => rfl
theorem b__law_below : E__law_below.Bnd := fun _ _ _ _ _ _ us hl => match us, hl with | [_, _], _ => rfl
theorem b__law_tuple : E__law_tuple.Bnd := fun _ _ _ _ _ _ us hl => match us, hl with | [_, _], _ => rfl
theorem b__law_drawn : E__law_drawn.Bnd := fun _ _ _ _ _ _ us hl => match us, hl with | [_, _], _ => rfl
theorem b__law_right : E__law_right.Bnd := fun _ _ _ _ _ _ us hl => match us, hl with | [_, _, _], _ => rfl
theorem b_law : E_law.Bnd := fun _ _ _ _ _ _ us hl => match us, hl with | [_], _ => rfl
theorem bnd : ∀ e ∈ bk.es, e.Bnd := by
  show ∀ e ∈ [E_is_whole, E_Shape___init__, E_mark_of, E_parts_of, E_pair_of, E__law_hand, E__law_pick, E__law_number, E__law_whole, E__law_wide, E__law_shape_numbers, E__law_below, E__law_tuple, E__law_drawn, E__law_right, E_law], Rm.Ent.Bnd e
  exact Rm.all_cons b_is_whole (Rm.all_cons b_Shape___init__ (Rm.all_cons b_mark_of (Rm.all_cons b_parts_of (Rm.all_cons b_pair_of (Rm.all_cons b__law_hand (Rm.all_cons b__law_pick (Rm.all_cons b__law_number (Rm.all_cons b__law_whole (Rm.all_cons b__law_wide (Rm.all_cons b__law_shape_numbers (Rm.all_cons b__law_below (Rm.all_cons b__law_tuple (Rm.all_cons b__law_drawn (Rm.all_cons b__law_right (Rm.all_cons b_law (Rm.all_nil))))))))))))))))
theorem bk_ok : bk.ok = true := by decide +kernel
theorem bk_ck : bk.ck = true := by decide +kernel
abbrev P : Rm.Prog := bk.P
theorem ini0 : P.ini 0 = some F_Shape___init__ := rfl
theorem p_is_whole : P.fn F_is_whole = some D_is_whole := rfl
theorem p_Shape___init__ : P.fn F_Shape___init__ = some D_Shape___init__ := rfl
theorem p_mark_of : P.fn F_mark_of = some D_mark_of := rfl
theorem p_parts_of : P.fn F_parts_of = some D_parts_of := rfl
theorem p_pair_of : P.fn F_pair_of = some D_pair_of := rfl
theorem p__law_hand : P.fn F__law_hand = some D__law_hand := rfl
theorem p__law_pick : P.fn F__law_pick = some D__law_pick := rfl
theorem p__law_number : P.fn F__law_number = some D__law_number := rfl
theorem p__law_whole : P.fn F__law_whole = some D__law_whole := rfl
theorem p__law_wide : P.fn F__law_wide = some D__law_wide := rfl
theorem p__law_shape_numbers : P.fn F__law_shape_numbers = some D__law_shape_numbers := rfl
theorem p__law_below : P.fn F__law_below = some D__law_below := rfl
theorem p__law_tuple : P.fn F__law_tuple = some D__law_tuple := rfl
theorem p__law_drawn : P.fn F__law_drawn = some D__law_drawn := rfl
theorem p__law_right : P.fn F__law_right = some D__law_right := rfl
theorem p_law : P.fn F_law = some D_law := rfl
end Bk
namespace Bk
section
open Rm
def HandAt (h : M) (a : Nat) (B : Int) : Prop := ∃ x n m : Int, h[a]? = some (.lst [.int x, .int n, .int m]) ∧ 0 ≤ x ∧ x < 1000000000000000000000000000000000000000000000000000000000000000000000000000000000000000000000000000000000000000000000000 ∧ 0 ≤ n ∧ n ≤ B
theorem HandAt.lt {h : M} {a : Nat} {B : Int} (x : HandAt h a B) : a < h.length := by
  obtain ⟨_, _, _, e, _⟩ := x
  exact (List.getElem?_eq_some_iff.mp e).1
abbrev W : Nat := 100000
theorem hand_set {h : M} {a : Nat} {x n m B : Int} (ha : a < h.length) (x1 : 0 ≤ x) (x2 : x < 1000000000000000000000000000000000000000000000000000000000000000000000000000000000000000000000000000000000000000000000000) (c1 : 0 ≤ n) (c2 : n ≤ B) : HandAt (h.set a (.lst [.int x, .int n, .int m])) a B := ⟨x, n, m, List.getElem?_set_self ha, x1, x2, c1, c2⟩
theorem HandAt.more {h : M} {a : Nat} {B B' : Int} (x : HandAt h a B) (l : B ≤ B') : HandAt h a B' := by
  obtain ⟨x, n, m, e, x1, x2, c1, c2⟩ := x
  exact ⟨x, n, m, e, x1, x2, c1, Int.le_trans c2 l⟩
theorem HandAt.push {h : M} {a : Nat} {B : Int} (x : HandAt h a B) (o : O) : HandAt (h ++ [o]) a B := by
  have l := x.lt
  obtain ⟨x, n, m, e, r⟩ := x
  exact ⟨x, n, m, by rw [List.getElem?_append_left l]; exact e, r⟩
theorem abs_lt {i : Int} {n : Nat} (h1 : 0 ≤ i) (h2 : i < n) : i.natAbs < n := by omega
theorem mulb {i j A B : Int} (h1 : 0 ≤ i) (h2 : i ≤ A) (h3 : 0 ≤ j) (h4 : j ≤ B) : 0 ≤ i * j ∧ i * j ≤ A * B := ⟨Int.mul_nonneg h1 h3, Int.mul_le_mul h2 h4 h3 (Int.le_trans h1 h2)⟩
theorem pick_leaf {n : Nat} {a : Nat} {h : M} {many B : Int} {Q : D → M → Prop} {E : Ex} (hm : 0 < many) (hm2 : many ≤ 1000000000000000000000000000000000000000000000000000000000000) (hB : B ≤ 1000000000) (hs : many ≤ 1000000 ∨ ∃ x n : Int, h[a]? = some (.lst [.int x, .int n, .int 0])) (hh : HandAt h a B)
    (q : ∀ v h', 0 ≤ v → v < many → Kp [a] h h' → HandAt h' a (B + 1) → Q (.int v) h') : @wr _ (callN P W (n + 1) F__law_pick [.ref a, .int many] h) Q E := by
  have ha := hh.lt
  have hm3 : many.natAbs < 10 ^ 200 := by omega
  obtain ⟨x, c, m, e, x1, x2, c1, c2⟩ := hh
  refine wr_call p__law_pick rfl rfl ?_
  have kp : ∀ o, Kp [a] h (h.set a o) := fun o => Kp.set (List.mem_singleton.mpr rfl)
  have d1 : 0 ≤ x / many := Int.ediv_nonneg x1 (Int.le_of_lt hm)
  have d2 : x / many ≤ x := Int.ediv_le_self _ x1
  unfold D__law_pick
  by_cases m0 : m = 0
  · subst m0
    simp [ e, ix, b_mod hm, b_fdiv hm hm3]
    exact q _ _ (Int.emod_nonneg _ (by omega)) (Int.emod_lt_of_pos _ hm) (kp _) (hand_set ha d1 (by omega) c1 (by omega))
  · have hs : many ≤ 1000000 := by
      rcases hs with hs | ⟨_, _, hs⟩
      · exact hs
      · rw [e] at hs
        simp at hs
        exact absurd hs.2.2 m0
    have hs' : ¬ 1000000 < many := by omega
    have gs : ∀ o, (h.set a o)[a]? = some o := fun o => List.getElem?_set_self ha
    have b0 : (c + 1).natAbs < 10 ^ 200 := by omega
    have b1 : (39916801 * (c + 1)).natAbs < 10 ^ 200 := by omega
    simp [ e, ix, b_mod, b_fdiv, b_mul, m0, hs', gs, b0, b1]
    have m1 := mulb (i := 39916801) (j := c + 1) (A := 39916801) (B := 1000000001) (by omega) (by omega) (by omega) (by omega)
    have m2 := mulb (i := 39916801 * (c + 1)) (j := c + 1) (A := 39916801 * 1000000001) (B := 1000000001) m1.1 m1.2 (by omega) (by omega)
    generalize 39916801 * (c + 1) * (c + 1) = y at m2 ⊢
    have r1 := Int.emod_nonneg x (show (2147483629 : Int) ≠ 0 by decide)
    have r2 := Int.emod_lt_of_pos x (show (0 : Int) < 2147483629 by decide)
    generalize x % 2147483629 = z at r1 r2 ⊢
    rw [b_mul (by omega) (by omega)]
    have m3 := mulb (i := z + 11) (j := 716151937 + y) (A := 2147483640) (B := 716151937 + 39916801 * 1000000001 * 1000000001) (by omega) (by omega) (by omega) (by omega)
    generalize (z + 11) * (716151937 + y) = u at m3 ⊢
    simp [ b_mod, b_fdiv]
    have r3 := Int.emod_nonneg u (show (998244353 : Int) ≠ 0 by decide)
    have r4 := Int.emod_lt_of_pos u (show (0 : Int) < 998244353 by decide)
    generalize u % 998244353 = o at r3 r4 ⊢
    have m4 := mulb (i := o) (j := o) (A := 998244353) (B := 998244353) (by omega) (by omega) (by omega) (by omega)
    rw [b_mul (by omega) (by omega)]
    generalize o * o = oo at m4 ⊢
    simp [ b_mod, b_fdiv]
    rw [b_mul (by omega) (by omega)]
    simp [ b_mod, b_fdiv]
    have r5 := Int.emod_nonneg (oo + 48271 * o) (show (1000000007 : Int) ≠ 0 by decide)
    have r6 := Int.emod_lt_of_pos (oo + 48271 * o) (show (0 : Int) < 1000000007 by decide)
    generalize (oo + 48271 * o) % 1000000007 = p at r5 r6 ⊢
    rw [b_mul (by omega) (by omega)]
    simp [ b_mod, b_fdiv, hm]
    exact q _ _ (Int.emod_nonneg _ (by omega)) (Int.emod_lt_of_pos _ hm) (kp _) (hand_set ha x1 x2 (by omega) (by omega))
def lim : Nat → Int
  | 0 => 1000000
  | L + 1 => 500000 * lim L
theorem lim_ge : ∀ L, 1000000 ≤ lim L
  | 0 => by decide
  | L + 1 => by
    have := lim_ge L
    unfold lim
    omega
theorem pick_any : ∀ (L n : Nat), L < n → ∀ (a : Nat) (h : M) (many B : Int) (Q : D → M → Prop) (E : Ex), 0 < many → many ≤ lim L → many ≤ 1000000000000000000000000000000000000000000000000000000000000 → B + L + 1 ≤ 1000000000 → HandAt h a B →
    (∀ v h', 0 ≤ v → v < many → Kp [a] h h' → HandAt h' a (B + L + 1) → Q (.int v) h') → @wr _ (callN P W n F__law_pick [.ref a, .int many] h) Q E
  | L, 0, hn => by omega
  | 0, n + 1, hn => by
    intro a h many B Q E hm hl h60 hB hh q
    exact pick_leaf hm h60 (by omega) (.inl hl) hh fun v h' v1 v2 k hh' => q v h' v1 v2 k (hh'.more (by omega))
  | L + 1, n + 1, hn => by
    intro a h many B Q E hm hl h60 hB hh q
    have hh0 := hh
    obtain ⟨x, c, m, e, x1, x2, c1, c2⟩ := hh
    by_cases m0 : m = 0
    · subst m0
      exact pick_leaf hm h60 (by omega) (.inr ⟨x, c, e⟩) hh0 fun v h' v1 v2 k hh' => q v h' v1 v2 k (hh'.more (by omega))
    · by_cases hs : many ≤ 1000000
      · exact pick_leaf hm h60 (by omega) (.inl hs) hh0 fun v h' v1 v2 k hh' => q v h' v1 v2 k (hh'.more (by omega))
      · have hs' : 1000000 < many := by omega
        have lg := lim_ge L
        have hl' : many ≤ 500000 * lim L := hl
        refine wr_call p__law_pick rfl rfl ?_
        unfold D__law_pick
        simp [ e, ix, b_mod, b_fdiv, b_mul, m0, hs']
        refine pick_any 0 n (by omega) _ _ _ _ _ _ (by decide) (by decide) (by decide) (by omega) hh0 fun v h1 v1 v2 k1 hh1 => ?_
        refine pick_any L n (by omega) _ _ _ _ _ _ (by omega) (by omega) (by omega) (by omega) hh1 fun u h2 u1 u2 k2 hh2 => ?_
        rw [b_mul (by omega) (by omega)]
        simp [ b_mod hm]
        exact q _ _ (Int.emod_nonneg _ (by omega)) (Int.emod_lt_of_pos _ hm) (k1.trans k2) (hh2.more (by omega))
theorem pick_ok {n : Nat} (hn : 10 ≤ n) {a : Nat} {h : M} {many B : Int} {Q : D → M → Prop} {E : Ex} (hm : 0 < many) (hl : many ≤ 100000000000000000000000000000000000000000000000) (hB : B ≤ 100000000) (hh : HandAt h a B)
    (q : ∀ v h', 0 ≤ v → v < many → Kp [a] h h' → HandAt h' a (B + 10) → Q (.int v) h') : @wr _ (callN P W n F__law_pick [.ref a, .int many] h) Q E :=
  pick_any 8 n (by omega) _ _ _ _ _ _ hm (Int.le_trans hl (by decide)) (Int.le_trans hl (by decide)) (by omega) hh fun v h' v1 v2 k hh' => q v h' v1 v2 k (hh'.more (by omega))
theorem hand_ok {n : Nat} (hn : 1 ≤ n) {ns : List Int} {k : Int} {h : M} {Q : D → M → Prop} {E : Ex} (hk : 0 ≤ k) (hl : ns.length ≤ 63)
    (q : ∀ h', Kp [] h h' → HandAt h' h.length 0 → Q (.ref h.length) h') : @wr _ (callN P W n F__law_hand [.scr (ns.map D.int), .int k] h) Q E := by
  obtain ⟨n, rfl⟩ : ∃ m, n = m + 1 := ⟨n - 1, by omega⟩
  refine wr_call p__law_hand rfl rfl ?_
  unfold D__law_hand
  have gs : ∀ (o o' : O), (h ++ [o]).set h.length o' = h ++ [o'] := fun o o' => by simp
  have kp : ∀ o, Kp [] h (h ++ [o]) := fun o => Kp.push _ _ _
  have fin : ∀ x m : Int, 0 ≤ x → x < 1000000000000000000000000000000000000000000000000000000000000000000000000000000000000000000000000000000000000000000000000 → Q (.ref h.length) (h ++ [.lst [.int x, .int 0, .int m]]) := fun x m x1 x2 => q _ (kp _) ⟨x, 0, m, by simp, x1, x2, by omega, by omega⟩
  (try simp [ix, fget, fput, bmOk, isLst, isKd, alloc, b_mod, b_fdiv, b_pow, k_dm, k_lenL, t_lst, v_lst])
  by_cases c : k < ns.length
  · obtain ⟨v, ev⟩ := at_ints (ns := ns) hk c
    obtain ⟨v0, ev0⟩ := at_ints (ns := ns) (i := 0) (by omega) (by omega)
    (try simp [ix, fget, fput, bmOk, isLst, isKd, alloc, b_mod, b_fdiv, b_pow, k_dm, k_lenL, t_lst, v_lst, c, ev])
    rw [b_mul (by decide) (by decide)]
    (try simp [ix, fget, fput, bmOk, isLst, isKd, alloc, b_mod, b_fdiv, b_pow, k_dm, k_lenL, t_lst, v_lst, gs])
    have r1 := Int.emod_nonneg v (show (1000000000000000000000000000000000000000000000000000000000000000000000000000000000000000000000000000000000000000000000000 : Int) ≠ 0 by decide)
    have r2 := Int.emod_lt_of_pos v (show (0 : Int) < 1000000000000000000000000000000000000000000000000000000000000000000000000000000000000000000000000000000000000000000000000 by decide)
    generalize v % 1000000000000000000000000000000000000000000000000000000000000000000000000000000000000000000000000000000000000000000000000 = x at r1 r2 ⊢
    have d1 : 0 ≤ x / 2 := by omega
    have d2 : x / 2 < 1000000000000000000000000000000000000000000000000000000000000000000000000000000000000000000000000000000000000000000000000 := by omega
    by_cases c2 : 1000000000000000000 ≤ x
    · (try simp [ix, fget, fput, bmOk, isLst, isKd, alloc, b_mod, b_fdiv, b_pow, k_dm, k_lenL, t_lst, v_lst, c2, ev0])
      by_cases c3 : v0 % 2 = 0
      · by_cases c4 : k = 0
        · (try simp [ix, fget, fput, bmOk, isLst, isKd, alloc, b_mod, b_fdiv, b_pow, k_dm, k_lenL, t_lst, v_lst, c3, c4, gs])
          exact fin _ _ d1 d2
        · (try simp [ix, fget, fput, bmOk, isLst, isKd, alloc, b_mod, b_fdiv, b_pow, k_dm, k_lenL, t_lst, v_lst, c3, c4, gs])
          exact fin _ _ r1 r2
      · by_cases c4 : k = 0
        · (try simp [ix, fget, fput, bmOk, isLst, isKd, alloc, b_mod, b_fdiv, b_pow, k_dm, k_lenL, t_lst, v_lst, c3, c4, gs])
          exact fin _ _ d1 d2
        · (try simp [ix, fget, fput, bmOk, isLst, isKd, alloc, b_mod, b_fdiv, b_pow, k_dm, k_lenL, t_lst, v_lst, c3, c4, gs])
          exact fin _ _ r1 r2
    · by_cases c4 : k = 0
      · (try simp [ix, fget, fput, bmOk, isLst, isKd, alloc, b_mod, b_fdiv, b_pow, k_dm, k_lenL, t_lst, v_lst, c2, c4, gs])
        exact fin _ _ d1 d2
      · (try simp [ix, fget, fput, bmOk, isLst, isKd, alloc, b_mod, b_fdiv, b_pow, k_dm, k_lenL, t_lst, v_lst, c2, c4, gs])
        exact fin _ _ r1 r2
  · by_cases c4 : k = 0
    · subst c4
      have c' : ¬ 0 < ns.length := by omega
      (try simp [ix, fget, fput, bmOk, isLst, isKd, alloc, b_mod, b_fdiv, b_pow, k_dm, k_lenL, t_lst, v_lst, c', gs])
      exact fin _ _ (by omega) (by omega)
    · (try simp [ix, fget, fput, bmOk, isLst, isKd, alloc, b_mod, b_fdiv, b_pow, k_dm, k_lenL, t_lst, v_lst, c, c4, gs])
      exact fin _ _ (by omega) (by omega)
theorem lst_at' {h : M} {o : O} : (h ++ [o])[h.length]? = some o := by simp
theorem it_rng {i j : Int} {h : M} (h1 : -1000000 ≤ i ∧ i ≤ 1000000 ∧ -1000000 ≤ j ∧ j ≤ 1000000) : itRng (.int i) (.int j) h = .ok (.items (rngL i j)) h := by
  show (if -RNG ≤ i ∧ i ≤ RNG ∧ -RNG ≤ j ∧ j ≤ RNG then _ else _) = _
  exact if_pos h1
theorem rng_go {i j : Int} {h : M} {k : Nat} (hk : (k : Int) < j - i) : nth (.items (rngL i j)) h k = some (some (.int (i + k))) := by
  unfold nth rngL
  dsimp only
  rw [List.getElem?_map, List.getElem?_range (by omega)]
  rfl
theorem rng_end {i j : Int} {h : M} : nth (.items (rngL i j)) h (j - i).toNat = some none := by
  unfold nth rngL
  dsimp only
  rw [List.getElem?_map, List.getElem?_eq_none (by rw [List.length_range]; exact Nat.le_refl _)]
  rfl
theorem kpFresh {h h1 h2 : M} (a : Kp [] h h1) (b : Kp [h.length] h1 h2) : Kp [] h h2 := ⟨Nat.le_trans a.1 b.1, fun i l n => (b.2 i (Nat.lt_of_lt_of_le l a.1) (by simp; omega)).trans (a.2 i l n)⟩
theorem lst_at {h : M} {xs : List D} : (h ++ [O.lst xs])[h.length]? = some (O.lst xs) := by simp
theorem idx_one {p : Int → Prop} {xs : List D} {i : Int} (h0 : 0 ≤ i) (h1 : i < xs.length) (hp : ∀ x ∈ xs, ∃ v, x = .int v ∧ p v) : ∃ v, at? xs i = some (.int v) ∧ p v := by
  obtain ⟨d, e1, v, rfl, pv⟩ := at_all (p := fun d => ∃ v, d = .int v ∧ p v) h0 h1 hp
  exact ⟨v, e1, pv⟩
theorem p32 {k : Nat} (h : k ≤ 40) : (32 : Int) ^ k ≤ 10 ^ 62 := by
  have h1 : (32 : Nat) ^ k ≤ 32 ^ 40 := Nat.pow_le_pow_right (by decide) h
  have h2 : (32 : Nat) ^ 40 ≤ 10 ^ 62 := by decide
  exact_mod_cast Nat.le_trans h1 h2
theorem number_ok {n : Nat} (hn : 11 ≤ n) {a : Nat} {h : M} {B b : Int} {Q : D → M → Prop} {E : Ex} (hB : B ≤ 10000000) (hh : HandAt h a B) (b1 : 1 ≤ b) (b2 : b ≤ 10000000000000000000000000000000000000000)
    (q : ∀ v h', 0 ≤ v → v ≤ b → Kp [a] h h' → HandAt h' a (B + 60) → Q (.int v) h') : @wr _ (callN P W n F__law_number [.ref a, .int b] h) Q E := by
  obtain ⟨n, rfl⟩ : ∃ m, n = m + 1 := ⟨n - 1, by omega⟩
  refine wr_call p__law_number rfl rfl ?_
  unfold D__law_number
  have bp : 0 < b + 1 := by omega
  have md : ∀ x : Int, 0 ≤ x % (b + 1) ∧ x % (b + 1) ≤ b := fun x => ⟨Int.emod_nonneg _ (by omega), by have := Int.emod_lt_of_pos x bp; omega⟩
  (try simp [ix, fget, fput, bmOk, isLst, isKd, alloc, b_mod, b_fdiv, b_pow, k_dm, k_lenL, t_lst, v_lst])
  refine pick_ok (by omega) (by omega) (by omega) (by omega) hh fun v h1 v1 v2 k1 hh1 => ?_
  by_cases c0 : v = 0
  · (try simp [ix, fget, fput, bmOk, isLst, isKd, alloc, b_mod, b_fdiv, b_pow, k_dm, k_lenL, t_lst, v_lst, c0])
    refine pick_ok (by omega) (by omega) (by omega) (by omega) hh1 fun x h2 x1 x2 k2 hh2 => ?_
    (try simp [ix, fget, fput, bmOk, isLst, isKd, alloc, b_mod, b_fdiv, b_pow, k_dm, k_lenL, t_lst, v_lst, b_mod bp])
    exact q _ _ (md x).1 (md x).2 (k1.trans k2) (hh2.more (by omega))
  · by_cases c1 : v = 1
    · (try simp [ix, fget, fput, bmOk, isLst, isKd, alloc, b_mod, b_fdiv, b_pow, k_dm, k_lenL, t_lst, v_lst, c1])
      refine pick_ok (by omega) (by omega) (by omega) (by omega) hh1 fun x h2 x1 x2 k2 hh2 => ?_
      (try simp [ix, fget, fput, bmOk, isLst, isKd, alloc, b_mod, b_fdiv, b_pow, k_dm, k_lenL, t_lst, v_lst, b_mod bp])
      have := md x
      exact q _ _ (by omega) (by omega) (k1.trans k2) (hh2.more (by omega))
    · by_cases c2 : v = 2
      · (try simp [ix, fget, fput, bmOk, isLst, isKd, alloc, b_mod, b_fdiv, b_pow, k_dm, k_lenL, t_lst, v_lst, c2])
        have kp := Kp.push [a] h1 (.lst [.int 2, .int 10, .int 32])
        refine pick_ok (by omega) (by omega) (by omega) (by omega) (hh1.push _) fun x h2 x1 x2 k2 hh2 => ?_
        have g2 : h2[h1.length]? = some (.lst [.int 2, .int 10, .int 32]) := k2.at lst_at (by have := hh1.lt; simp; omega)
        obtain ⟨y, ey, y1, y2⟩ := idx_one (p := fun y => 1 ≤ y ∧ y ≤ 32) (xs := [.int 2, .int 10, .int 32]) x1 (by simp; omega) (by simp)
        (try simp [ix, fget, fput, bmOk, isLst, isKd, alloc, b_mod, b_fdiv, b_pow, k_dm, k_lenL, t_lst, v_lst, g2, ey])
        refine pick_ok (by omega) (by omega) (by omega) (by omega) hh2 fun z h3 z1 z2 k3 hh3 => ?_
        rw [it_rng (by omega)]
        (try simp [ix, fget, fput, bmOk, isLst, isKd, alloc, b_mod, b_fdiv, b_pow, k_dm, k_lenL, t_lst, v_lst])
        have kk := k1.trans (kp.trans (k2.trans k3))
        refine ws_for (fun k sg h' => h' = h3 ∧ ∃ pw d, (1 ≤ pw ∧ pw ≤ 32 ^ k) ∧ sg = [some (.ref a), some (.int b), some (.int 2), some (.int pw), some (.int y), d]) (z - 0).toNat (by show _ < 100000; omega) ⟨rfl, 1, _, ⟨by decide, by simp⟩, rfl⟩ (fun sg h' hi => ⟨rng_end, ?_⟩) (fun k sg h' hk hi => ⟨_, rng_go (by omega), ?_⟩)
        · obtain ⟨rfl, pw, d, ⟨p1, p2⟩, rfl⟩ := hi
          (try simp [ix, fget, fput, bmOk, isLst, isKd, alloc, b_mod, b_fdiv, b_pow, k_dm, k_lenL, t_lst, v_lst])
          refine pick_ok (by omega) (by omega) (by omega) (by omega) hh3 fun u h4 u1 u2 k4 hh4 => ?_
          (try simp [ix, fget, fput, bmOk, isLst, isKd, alloc, b_mod, b_fdiv, b_pow, k_dm, k_lenL, t_lst, v_lst, b_mod bp])
          exact q _ _ (md _).1 (md _).2 (kk.trans k4) (hh4.more (by omega))
        · obtain ⟨rfl, pw, d, ⟨p1, p2⟩, rfl⟩ := hi
          have p3 := p32 (k := k) (by omega)
          have m1 := mulb (i := pw) (j := y) (A := 32 ^ k) (B := 32) (by omega) p2 (by omega) y2
          (try simp [ix, fget, fput, bmOk, isLst, isKd, alloc, b_mod, b_fdiv, b_pow, k_dm, k_lenL, t_lst, v_lst])
          rw [b_mul (by omega) (by omega)]
          (try simp [ix, fget, fput, bmOk, isLst, isKd, alloc, b_mod, b_fdiv, b_pow, k_dm, k_lenL, t_lst, v_lst])
          have p4 : 1 ≤ pw * y := by have := Int.mul_le_mul p1 y1 (by decide) (by omega); omega
          rw [Int.pow_succ]
          exact ⟨p4, m1.2⟩
      · (try simp [ix, fget, fput, bmOk, isLst, isKd, alloc, b_mod, b_fdiv, b_pow, k_dm, k_lenL, t_lst, v_lst, c0, c1, c2])
        refine pick_ok (by omega) (by omega) (by omega) (by omega) hh1 fun x h2 x1 x2 k2 hh2 => ?_
        exact q _ _ x1 (by omega) (k1.trans k2) (hh2.more (by omega))
theorem wide_ok {n : Nat} (hn : 11 ≤ n) {a : Nat} {h : M} {B : Int} {Q : D → M → Prop} {E : Ex} (hB : B ≤ 10000000) (hh : HandAt h a B)
    (q : ∀ v h', 1 ≤ v → v ≤ 1000 → Kp [a] h h' → HandAt h' a (B + 20) → Q (.int v) h') : @wr _ (callN P W n F__law_wide [.ref a] h) Q E := by
  obtain ⟨n, rfl⟩ : ∃ m, n = m + 1 := ⟨n - 1, by omega⟩
  refine wr_call p__law_wide rfl rfl ?_
  unfold D__law_wide
  (try simp [ix, fget, fput, bmOk, isLst, isKd, alloc, b_mod, b_fdiv, b_pow, k_dm, k_lenL, t_lst, v_lst])
  refine pick_ok (by omega) (by omega) (by omega) (by omega) hh fun v h1 v1 v2 k1 hh1 => ?_
  by_cases c0 : v = 0
  · (try simp [ix, fget, fput, bmOk, isLst, isKd, alloc, b_mod, b_fdiv, b_pow, k_dm, k_lenL, t_lst, v_lst, c0])
    refine pick_ok (by omega) (by omega) (by omega) (by omega) hh1 fun x h2 x1 x2 k2 hh2 => ?_
    exact q _ _ (by omega) (by omega) (k1.trans k2) (hh2.more (by omega))
  · by_cases c1 : v = 1
    · (try simp [ix, fget, fput, bmOk, isLst, isKd, alloc, b_mod, b_fdiv, b_pow, k_dm, k_lenL, t_lst, v_lst, c1])
      refine pick_ok (by omega) (by omega) (by omega) (by omega) hh1 fun x h2 x1 x2 k2 hh2 => ?_
      exact q _ _ (by omega) (by omega) (k1.trans k2) (hh2.more (by omega))
    · by_cases c2 : v = 2
      · (try simp [ix, fget, fput, bmOk, isLst, isKd, alloc, b_mod, b_fdiv, b_pow, k_dm, k_lenL, t_lst, v_lst, c2])
        exact q _ _ (by omega) (by omega) k1 (hh1.more (by omega))
      · (try simp [ix, fget, fput, bmOk, isLst, isKd, alloc, b_mod, b_fdiv, b_pow, k_dm, k_lenL, t_lst, v_lst, c0, c1, c2])
        refine pick_ok (by omega) (by omega) (by omega) (by omega) hh1 fun x h2 x1 x2 k2 hh2 => ?_
        exact q _ _ (by omega) (by omega) (k1.trans k2) (hh2.more (by omega))
theorem snum_ok {n : Nat} (hn : 12 ≤ n) {a : Nat} {h : M} {B : Int} {Q : D → M → Prop} {E : Ex} (hB : B ≤ 1000000) (hh : HandAt h a B)
    (q : ∀ c s h', 1 ≤ c → c ≤ 1000 → 1 ≤ s → s ≤ 1000 → Kp [a] h h' → HandAt h' a (B + 40) → Q (.tup [.int c, .int s]) h') : @wr _ (callN P W n F__law_shape_numbers [.ref a] h) Q E := by
  obtain ⟨n, rfl⟩ : ∃ m, n = m + 1 := ⟨n - 1, by omega⟩
  refine wr_call p__law_shape_numbers rfl rfl ?_
  unfold D__law_shape_numbers
  (try simp [ix, fget, fput, bmOk, isLst, isKd, alloc, b_mod, b_fdiv, b_pow, k_dm, k_lenL, t_lst, v_lst])
  refine wide_ok (by omega) (by omega) hh fun c h1 c1 c2 k1 hh1 => ?_
  (try simp [ix, fget, fput, bmOk, isLst, isKd, alloc, b_mod, b_fdiv, b_pow, k_dm, k_lenL, t_lst, v_lst])
  refine wide_ok (by omega) (by omega) hh1 fun s h2 s1 s2 k2 hh2 => ?_
  exact q _ _ _ c1 c2 s1 s2 (k1.trans k2) (hh2.more (by omega))
theorem below_ok {n : Nat} (hn : 11 ≤ n) {a : Nat} {h : M} {B m : Int} {Q : D → M → Prop} {E : Ex} (hB : B ≤ 10000000) (hh : HandAt h a B) (m1 : 1 ≤ m) (m2 : m ≤ 1000)
    (q : ∀ v h', 0 ≤ v → v < m → Kp [a] h h' → HandAt h' a (B + 20) → Q (.int v) h') : @wr _ (callN P W n F__law_below [.ref a, .int m] h) Q E := by
  obtain ⟨n, rfl⟩ : ∃ m, n = m + 1 := ⟨n - 1, by omega⟩
  refine wr_call p__law_below rfl rfl ?_
  unfold D__law_below
  (try simp [ix, fget, fput, bmOk, isLst, isKd, alloc, b_mod, b_fdiv, b_pow, k_dm, k_lenL, t_lst, v_lst])
  refine pick_ok (by omega) (by omega) (by omega) (by omega) hh fun v h1 v1 v2 k1 hh1 => ?_
  by_cases c : v < 2
  · obtain ⟨y, ey, y1, y2⟩ := idx_one (p := fun y => 0 ≤ y ∧ y < m) (xs := [.int 0, .int (m - 1)]) v1 (by simp; omega) (by simp; omega)
    (try simp [ix, fget, fput, bmOk, isLst, isKd, alloc, b_mod, b_fdiv, b_pow, k_dm, k_lenL, t_lst, v_lst, c, ey])
    exact q _ _ y1 y2 (k1.trans (Kp.push _ _ _)) ((hh1.push _).more (by omega))
  · (try simp [ix, fget, fput, bmOk, isLst, isKd, alloc, b_mod, b_fdiv, b_pow, k_dm, k_lenL, t_lst, v_lst, c])
    refine pick_ok (by omega) (by omega) (by omega) (by omega) hh1 fun x h2 x1 x2 k2 hh2 => ?_
    exact q _ _ x1 x2 (k1.trans k2) (hh2.more (by omega))
theorem drawn_ok {n : Nat} (hn : 12 ≤ n) {a : Nat} {h : M} {B c s : Int} {Q : D → M → Prop} {E : Ex} (hB : B ≤ 1000000) (hh : HandAt h a B) (c1 : 1 ≤ c) (c2 : c ≤ 1000) (s1 : 1 ≤ s) (s2 : s ≤ 1000)
    (q : ∀ m t x o h', 0 ≤ m → m ≤ 1000000000000000000000000000000 → 0 ≤ t → t < s → 0 ≤ x → x < c → 0 ≤ o → o ≤ 10000000000000000000000000000000000000000 → Kp [a] h h' → Q (.tup [.int m, .int t, .int x, .int o]) h') : @wr _ (callN P W n F__law_drawn [.ref a, .tup [.int c, .int s]] h) Q E := by
  obtain ⟨n, rfl⟩ : ∃ m, n = m + 1 := ⟨n - 1, by omega⟩
  refine wr_call p__law_drawn rfl rfl ?_
  unfold D__law_drawn
  (try simp [ix, fget, fput, bmOk, isLst, isKd, alloc, b_mod, b_fdiv, b_pow, k_dm, k_lenL, t_lst, v_lst])
  refine number_ok (by omega) (by omega) hh (by omega) (by omega) fun m h1 m1 m2 k1 hh1 => ?_
  (try simp [ix, fget, fput, bmOk, isLst, isKd, alloc, b_mod, b_fdiv, b_pow, k_dm, k_lenL, t_lst, v_lst])
  refine below_ok (by omega) (by omega) hh1 s1 s2 fun t h2 t1 t2 k2 hh2 => ?_
  (try simp [ix, fget, fput, bmOk, isLst, isKd, alloc, b_mod, b_fdiv, b_pow, k_dm, k_lenL, t_lst, v_lst])
  refine below_ok (by omega) (by omega) hh2 c1 c2 fun x h3 x1 x2 k3 hh3 => ?_
  (try simp [ix, fget, fput, bmOk, isLst, isKd, alloc, b_mod, b_fdiv, b_pow, k_dm, k_lenL, t_lst, v_lst])
  refine number_ok (by omega) (by omega) hh3 (by omega) (by omega) fun o h4 o1 o2 k4 hh4 => ?_
  exact q _ _ _ _ _ m1 m2 t1 t2 x1 x2 o1 o2 (k1.trans (k2.trans (k3.trans k4)))
theorem whole2 {n : Nat} (hn : 1 ≤ n) {i : Int} {h : M} {Q : D → M → Prop} {E : Ex} (q : Q (.bl true) h) : @wr _ (callN P W n F__law_whole [.int i] h) Q E := by
  obtain ⟨n, rfl⟩ : ∃ m, n = m + 1 := ⟨n - 1, by omega⟩
  refine wr_call p__law_whole rfl rfl ?_
  unfold D__law_whole
  (try simp [ix, fget, fput, bmOk, isLst, isKd, alloc, b_mod, b_fdiv, b_pow, k_dm, k_lenL, t_lst, v_lst])
  exact q
theorem same_ok {n : Nat} (hn : 2 ≤ n) {is : List Int} {h : M} {Q : D → M → Prop} {E : Ex} (hl : is.length ≤ 100) (q : Q (.bl true) h) : @wr _ (callN P W n F__law_tuple [.tup (is.map D.int), .tup (is.map D.int)] h) Q E := by
  obtain ⟨n, rfl⟩ : ∃ m, n = m + 1 := ⟨n - 1, by omega⟩
  refine wr_call p__law_tuple rfl rfl ?_
  unfold D__law_tuple
  (try simp [ix, fget, fput, bmOk, isLst, isKd, alloc, b_mod, b_fdiv, b_pow, k_dm, k_lenL, t_lst, v_lst])
  refine ws_for (fun k sg h' => h' = h ∧ ∃ d2 d3, sg = [some (.tup (is.map D.int)), some (.tup (is.map D.int)), d2, d3]) is.length (by show _ < 100000; omega) ⟨rfl, _, _, rfl⟩ (fun sg h' hi => ?_) (fun k sg h' hk hi => ?_)
  · obtain ⟨rfl, d2, d3, rfl⟩ := hi
    refine ⟨by unfold nth; dsimp only; rw [List.getElem?_eq_none (by simp)], ?_⟩
    (try simp [ix, fget, fput, bmOk, isLst, isKd, alloc, b_mod, b_fdiv, b_pow, k_dm, k_lenL, t_lst, v_lst])
    exact q
  · obtain ⟨rfl, d2, d3, rfl⟩ := hi
    refine ⟨.tup [.int is[k], .int is[k]], by unfold nth; dsimp only; simp [hk], ?_⟩
    (try simp [ix, fget, fput, bmOk, isLst, isKd, alloc, b_mod, b_fdiv, b_pow, k_dm, k_lenL, t_lst, v_lst])
    refine whole2 (by omega) ?_
    (try simp [ix, fget, fput, bmOk, isLst, isKd, alloc, b_mod, b_fdiv, b_pow, k_dm, k_lenL, t_lst, v_lst])
theorem whole_int {n : Nat} (hn : 1 ≤ n) {i : Int} {h : M} {Q : D → M → Prop} {E : Ex} (q : Q (.bl true) h) : @wr _ (callN P W n F_is_whole [.int i] h) Q E := by
  obtain ⟨n, rfl⟩ : ∃ m, n = m + 1 := ⟨n - 1, by omega⟩
  refine wr_call p_is_whole rfl rfl ?_
  unfold D_is_whole
  (try simp [ix, fget, fput, bmOk, isLst, isKd, alloc, b_mod, b_fdiv, b_pow, k_dm, k_lenL, t_lst, v_lst])
  exact q
/-- a shape of the numbers c, s stands at p -/
def ShapeAt (h : M) (p : Nat) (c s : Int) : Prop := h[p]? = some (.ins 0 [(0, .int c), (1, .int s)])
theorem ShapeAt.kp {h h' : M} {p : Nat} {c s : Int} (x : ShapeAt h p c s) (k : Kp [] h h') : ShapeAt h' p c s := k.at x (by simp)
theorem shape_ok {n : Nat} (hn : 2 ≤ n) {c s : Int} {p : Nat} {h : M} {Q : D → M → Prop} {E : Ex} (c1 : 1 ≤ c) (c2 : c ≤ 1000) (s1 : 1 ≤ s) (s2 : s ≤ 1000) (hp : h[p]? = some (.ins 0 []))
    (q : Q .non (h.set p (.ins 0 [(0, .int c), (1, .int s)]))) : @wr _ (callN P W n F_Shape___init__ [.ref p, .int c, .int s] h) Q E := by
  obtain ⟨n, rfl⟩ : ∃ m, n = m + 1 := ⟨n - 1, by omega⟩
  have pl := (List.getElem?_eq_some_iff.mp hp).1
  have gs : ∀ o, (h.set p o)[p]? = some o := fun o => List.getElem?_set_self pl
  refine wr_call p_Shape___init__ rfl rfl ?_
  unfold D_Shape___init__
  (try simp [ix, fget, fput, bmOk, isLst, isKd, alloc, b_mod, b_fdiv, b_pow, k_dm, k_lenL, t_lst, v_lst])
  refine ws_for (fun k sg h' => h' = h ∧ ∃ d, sg = [some (.ref p), some (.int c), some (.int s), d]) 2 (by decide) ⟨rfl, _, rfl⟩ (fun sg h' hi => ?_) (fun k sg h' hk hi => ?_)
  · obtain ⟨rfl, d, rfl⟩ := hi
    refine ⟨rfl, ?_⟩
    (try simp [ix, fget, fput, bmOk, isLst, isKd, alloc, b_mod, b_fdiv, b_pow, k_dm, k_lenL, t_lst, v_lst, hp, gs])
    exact q
  · obtain ⟨rfl, d, rfl⟩ := hi
    have key : ∀ (t : Int) (d : Option D), 1 ≤ t → t ≤ 1000 → @ws (evSs (gam P W n none) [.ife (.disj [.not (.call F_is_whole [.var 3]), .not (.cmp2 .le .le (.c (.int 1)) (.var 3) (.glob (.int 1000)))]) [.nev] []] [some (.ref p), some (.int c), some (.int s), some (.int t)] h') ⟨fun sg h => h = h' ∧ ∃ d, sg = [some (.ref p), some (.int c), some (.int s), d], fun _ _ => False, fun _ _ => False, fun _ _ => False, fun _ _ _ _ => False⟩ := fun t d t1 t2 => by
      (try simp [ix, fget, fput, bmOk, isLst, isKd, alloc, b_mod, b_fdiv, b_pow, k_dm, k_lenL, t_lst, v_lst])
      refine whole_int (by omega) ?_
      (try simp [ix, fget, fput, bmOk, isLst, isKd, alloc, b_mod, b_fdiv, b_pow, k_dm, k_lenL, t_lst, v_lst, t1, t2])
    match k, hk with
    | 0, _ => exact ⟨_, rfl, ws_mono (key c d c1 c2) (fun _ _ x => x) (fun _ _ x => x.elim) (fun _ _ x => x.elim) (fun _ _ x => x.elim) (fun _ _ _ _ x => x.elim)⟩
    | 1, _ => exact ⟨_, rfl, ws_mono (key s d s1 s2) (fun _ _ x => x) (fun _ _ x => x.elim) (fun _ _ x => x.elim) (fun _ _ x => x.elim) (fun _ _ _ _ x => x.elim)⟩
theorem mark13 {n : Nat} (hn : 1 ≤ n) {c s m t x : Int} {p : Nat} {h : M} {Q : D → M → Prop} {E : Ex} (hp : h[p]? = some (.ins 0 [(0, .int c), (1, .int s)])) (c1 : 1 ≤ c) (c2 : c ≤ 1000) (s1 : 1 ≤ s) (s2 : s ≤ 1000) (m1 : 0 ≤ m) (m2 : m ≤ 1000000000000000000000000000000) (t1 : 0 ≤ t) (t2 : t ≤ 1000)
    (q : Q (.int ((m * s + t) * c + x)) h) : @wr _ (callN P W n F_mark_of [.ref p, .int m, .int t, .int x] h) Q E := by
  obtain ⟨n, rfl⟩ : ∃ m, n = m + 1 := ⟨n - 1, by omega⟩
  refine wr_call p_mark_of rfl rfl ?_
  unfold D_mark_of
  have r := mulb (i := m) (j := s) (A := 1000000000000000000000000000000) (B := 1000) m1 m2 (by omega) s2
  (try simp [ix, fget, fput, bmOk, isLst, isKd, alloc, b_mod, b_fdiv, b_pow, k_dm, k_lenL, t_lst, v_lst, hp])
  rw [b_mul (by omega) (by omega)]
  (try simp [ix, fget, fput, bmOk, isLst, isKd, alloc, b_mod, b_fdiv, b_pow, k_dm, k_lenL, t_lst, v_lst, hp])
  rw [b_mul (by omega) (by omega)]
  (try simp [ix, fget, fput, bmOk, isLst, isKd, alloc, b_mod, b_fdiv, b_pow, k_dm, k_lenL, t_lst, v_lst])
  exact q
theorem parts13 {n : Nat} (hn : 1 ≤ n) {c s k : Int} {p : Nat} {h : M} {Q : D → M → Prop} {E : Ex} (hp : h[p]? = some (.ins 0 [(0, .int c), (1, .int s)])) (c1 : 1 ≤ c) (c2 : c ≤ 1000) (s1 : 1 ≤ s) (s2 : s ≤ 1000)
    (q : Q (.tup [.int (k / c / s), .int (k / c % s), .int (k % c)]) h) : @wr _ (callN P W n F_parts_of [.ref p, .int k] h) Q E := by
  obtain ⟨n, rfl⟩ : ∃ m, n = m + 1 := ⟨n - 1, by omega⟩
  refine wr_call p_parts_of rfl rfl ?_
  unfold D_parts_of
  have b1 : 0 < c ∧ c.natAbs < 1073741824 := by omega
  have b2 : 0 < s ∧ s.natAbs < 1073741824 := by omega
  (try simp [ix, fget, fput, bmOk, isLst, isKd, alloc, b_mod, b_fdiv, b_pow, k_dm, k_lenL, t_lst, v_lst, hp, b1, b2])
  exact q
theorem pair13 {n : Nat} (hn : 1 ≤ n) {c s : Int} {p : Nat} {h : M} {Q : D → M → Prop} {E : Ex} (hp : h[p]? = some (.ins 0 [(0, .int c), (1, .int s)])) (q : Q (.tup [.int c, .int s]) h) : @wr _ (callN P W n F_pair_of [.ref p] h) Q E := by
  obtain ⟨n, rfl⟩ : ∃ m, n = m + 1 := ⟨n - 1, by omega⟩
  refine wr_call p_pair_of rfl rfl ?_
  unfold D_pair_of
  (try simp [ix, fget, fput, bmOk, isLst, isKd, alloc, b_mod, b_fdiv, b_pow, k_dm, k_lenL, t_lst, v_lst, hp])
  exact q
theorem right13 {n : Nat} (hn : 4 ≤ n) {c s m t x o : Int} {p : Nat} {h : M} {Q : D → M → Prop} {E : Ex} (hp : h[p]? = some (.ins 0 [(0, .int c), (1, .int s)])) (c1 : 1 ≤ c) (c2 : c ≤ 1000) (s1 : 1 ≤ s) (s2 : s ≤ 1000) (m1 : 0 ≤ m) (m2 : m ≤ 1000000000000000000000000000000)
    (q : Q (.bl true) h) : @wr _ (callN P W n F__law_right [.ref p, .tup [.int c, .int s], .tup [.int m, .int t, .int x, .int o]] h) Q E := by
  obtain ⟨n, rfl⟩ : ∃ m, n = m + 1 := ⟨n - 1, by omega⟩
  refine wr_call p__law_right rfl rfl ?_
  unfold D__law_right
  have bs : 0 < s := by omega
  have bc : 0 < c := by omega
  have b3 : c.natAbs < 10 ^ 200 := by omega
  have b4 : s.natAbs < 10 ^ 200 := by omega
  have t1 := Int.emod_nonneg t (show s ≠ 0 by omega)
  have t2 := Int.emod_lt_of_pos t bs
  have x1 := Int.emod_nonneg x (show c ≠ 0 by omega)
  have x2 := Int.emod_lt_of_pos x bc
  (try simp [ix, fget, fput, bmOk, isLst, isKd, alloc, b_mod, b_fdiv, b_pow, k_dm, k_lenL, t_lst, v_lst, b_mod bs, b_mod bc])
  generalize t % s = t' at t1 t2 ⊢
  generalize x % c = x' at x1 x2 ⊢
  refine mark13 (by omega) hp c1 c2 s1 s2 m1 m2 t1 (by omega) ?_
  have r := mulb (i := m) (j := s) (A := 1000000000000000000000000000000) (B := 1000) m1 m2 (by omega) s2
  (try simp [ix, fget, fput, bmOk, isLst, isKd, alloc, b_mod, b_fdiv, b_pow, k_dm, k_lenL, t_lst, v_lst])
  refine whole2 (by omega) ?_
  (try simp [ix, fget, fput, bmOk, isLst, isKd, alloc, b_mod, b_fdiv, b_pow, k_dm, k_lenL, t_lst, v_lst])
  rw [b_mul (by omega) (by omega)]
  (try simp [ix, fget, fput, bmOk, isLst, isKd, alloc, b_mod, b_fdiv, b_pow, k_dm, k_lenL, t_lst, v_lst])
  rw [b_mul (by omega) (by omega)]
  (try simp [ix, fget, fput, bmOk, isLst, isKd, alloc, b_mod, b_fdiv, b_pow, k_dm, k_lenL, t_lst, v_lst])
  refine parts13 (by omega) hp c1 c2 s1 s2 ?_
  have e1 : ((m * s + t') * c + x') / c = m * s + t' := by
    rw [Int.add_comm, Int.add_mul_ediv_right _ _ (by omega), Int.ediv_eq_zero_of_lt x1 x2, Int.zero_add]
  have e2 : ((m * s + t') * c + x') % c = x' := by
    rw [Int.add_comm, Int.add_mul_emod_self_right, Int.emod_eq_of_lt x1 x2]
  have e3 : (m * s + t') / s = m := by
    rw [Int.add_comm, Int.add_mul_ediv_right _ _ (by omega), Int.ediv_eq_zero_of_lt t1 t2, Int.zero_add]
  have e4 : (m * s + t') % s = t' := by
    rw [Int.add_comm, Int.add_mul_emod_self_right, Int.emod_eq_of_lt t1 t2]
  rw [e1, e2, e3, e4]
  (try simp [ix, fget, fput, bmOk, isLst, isKd, alloc, b_mod, b_fdiv, b_pow, k_dm, k_lenL, t_lst, v_lst])
  refine same_ok (is := [m, t', x']) (by omega) (by simp) ?_
  (try simp [ix, fget, fput, bmOk, isLst, isKd, alloc, b_mod, b_fdiv, b_pow, k_dm, k_lenL, t_lst, v_lst, b_mod bs, b_mod bc, b_fdiv bs b4, b_fdiv bc b3])
  refine parts13 (by omega) hp c1 c2 s1 s2 ?_
  (try simp [ix, fget, fput, bmOk, isLst, isKd, alloc, b_mod, b_fdiv, b_pow, k_dm, k_lenL, t_lst, v_lst])
  refine same_ok (is := [o / c / s, o / c % s, o % c]) (by omega) (by simp) ?_
  (try simp [ix, fget, fput, bmOk, isLst, isKd, alloc, b_mod, b_fdiv, b_pow, k_dm, k_lenL, t_lst, v_lst])
  refine pair13 (by omega) hp ?_
  (try simp [ix, fget, fput, bmOk, isLst, isKd, alloc, b_mod, b_fdiv, b_pow, k_dm, k_lenL, t_lst, v_lst])
  refine same_ok (is := [c, s]) (by omega) (by simp) ?_
  (try simp [ix, fget, fput, bmOk, isLst, isKd, alloc, b_mod, b_fdiv, b_pow, k_dm, k_lenL, t_lst, v_lst])
  exact q
@[simp↓] theorem e_lc {G : Env} {sg : Vars} {h : M} {E : Ex} {Q : D → M → Prop} (e : IE) (g : IG) (it : II) (cs : List IE) (own : List Nat) : @wr _ (evE G (.lc e g it cs own) sg h) Q E = @wr _ (evI G it sg h) (fun J h1 => @wr _ (lcF J h1.length (fun x h2 => match asgG g x (wipeV sg own) with
      | some sg1 => (evCs G cs sg1 h2).bind fun b h3 => (match b with
        | true => (evE G e sg1 h3).bind fun d h4 => .ok (some d) h4
        | false => .ok none h3)
      | none => .no) G.w 0 (h1 ++ [.lst []])) Q E) E := by
  rw [evE]
  exact wr_bind _ _ _
theorem wr_lc {J : It} {j : Nat} {turn : D → M → R (Option D)} {Q : D → M → Prop} {E : Ex} (I : Nat → M → Prop) (N : Nat) {w : Nat} {h : M} (hw : N < w) (h0 : I 0 h) (hstop : ∀ h, I N h → nth J h N = some none ∧ Q (.ref j) h)
    (hgo : ∀ k h, k < N → I k h → ∃ x, nth J h k = some (some x) ∧ @wr _ (turn x h) (fun od h' => match od with
      | none => I (k + 1) h'
      | some d => ∃ ys, h'[j]? = some (.lst ys) ∧ ys.length < LINE ∧ I (k + 1) (h'.set j (.lst (ys ++ [d])))) (fun _ _ _ => False)) : @wr _ (lcF J j turn w 0 h) Q E := by
  have go : ∀ (m k w : Nat) (h : M), m + k = N → m < w → I k h → @wr _ (lcF J j turn w k h) Q E := by
    intro m
    induction m with
    | zero =>
      intro k w h e hw hi
      cases w with
      | zero => omega
      | succ w =>
        have : k = N := by omega
        subst this
        obtain ⟨e1, q⟩ := hstop h hi
        unfold lcF
        rw [e1]
        exact q
    | succ m ih =>
      intro k w h e hw hi
      cases w with
      | zero => omega
      | succ w =>
        obtain ⟨x, e1, q⟩ := hgo k h (by omega) hi
        unfold lcF
        rw [e1]
        dsimp only
        cases et : turn x h with
        | no => rw [et] at q; exact q
        | exc c fs h' => rw [et] at q; exact q.elim
        | ok od h' =>
          rw [et] at q
          cases od with
          | none => exact ih (k + 1) w h' (by omega) (by omega) q
          | some d =>
            obtain ⟨ys, e2, l, hi'⟩ := q
            dsimp only
            rw [e2]
            dsimp only
            rw [if_pos l]
            exact ih (k + 1) w _ (by omega) (by omega) hi'
  exact go N 0 w h (by omega) hw h0
theorem handKp {h h' : M} {a : Nat} {B : Int} {c : List Nat} (x : HandAt h a B) (k : Kp c h h') (n : a ∉ c) : HandAt h' a B := by
  obtain ⟨x, n', m, e, r⟩ := x
  exact ⟨x, n', m, k.at e n, r⟩
theorem b_cat {a b : Nat} {xs ys : List D} {h : M} (e1 : h[a]? = some (.lst xs)) (e2 : h[b]? = some (.lst ys)) (hl : xs.length + ys.length ≤ 1000000) : binop .add (.ref a) (.ref b) h = .ok (.ref h.length) (h ++ [.lst (xs ++ ys)]) := by
  unfold binop
  simp only [e1, e2]
  rw [if_pos (show xs.length + ys.length ≤ LINE from hl)]
  rfl
theorem sl_scr {xs : List D} {i j : Int} {h : M} : slice (.scr xs) (some (.int i)) (some (.int j)) h = .ok (.ref h.length) (h ++ [.lst (cut xs (some i) (some j))]) := rfl
theorem cut_ints {ns : List Int} {lo hi : Option Int} : ∀ d ∈ cut (ns.map D.int) lo hi, ∃ v, d = .int v := fun d hd => by
  obtain ⟨v, _, rfl⟩ := List.mem_map.mp (cut_mem hd)
  exact ⟨v, rfl⟩
theorem cut_len {α : Type} {xs : List α} {lo hi : Option Int} : (cut xs lo hi).length ≤ xs.length := by
  unfold cut
  rw [List.length_take, List.length_drop]
  omega
theorem minI_le' {i j : Int} : minI i j ≤ i ∧ minI i j ≤ j := by
  unfold minI
  split <;> omega
theorem minI_eq' {i j : Int} : minI i j = i ∨ minI i j = j := by
  unfold minI
  split <;> simp
theorem sl_lst {h : M} {a : Nat} {xs : List D} {v : Int} (e : h[a]? = some (.lst xs)) : slice (.ref a) none (some (.int v)) h = .ok (.ref h.length) (h ++ [.lst (cut xs none (some v))]) := by
  unfold slice
  simp only [optI]
  rw [e]
  rfl
theorem nth_live {h : M} {a k : Nat} {xs : List D} (e : h[a]? = some (.lst xs)) : nth (.live a) h k = some xs[k]? := by
  unfold nth
  dsimp only
  rw [e]
theorem app_at {h t : M} (j : Nat) : (h ++ t)[h.length + j]? = t[j]? := by
  rw [List.getElem?_append_right (by omega), Nat.add_sub_cancel_left]
theorem app_set {h t : M} (j : Nat) (o : O) : (h ++ t).set (h.length + j) o = h ++ t.set j o := by
  rw [List.set_append_right _ _ (by omega), Nat.add_sub_cancel_left]
theorem b_app {h : M} {a : Nat} {xs : List D} {d : D} (e : h[a]? = some (.lst xs)) (hl : xs.length < 1000000) : bmeth .append (.ref a) [d] h = .ok .non (h.set a (.lst (xs ++ [d]))) := by
  unfold bmeth
  dsimp only
  rw [e]
  dsimp only
  exact if_pos hl
theorem c_ne2 {a b : Int} {h : M} : cmpop .ne (.tup [.int a, .int b]) (.tup [.int a, .int b]) h = some false := by
  simp [cmpop, eqD, toP, eqP, eqPs]
def deep : Nat := 40
theorem body_ok {n : Nat} (hn : 20 ≤ n) {ns : List Int} (hl : ns.length ≤ 63) : @wr _ (callN P W n F_law [.scr (ns.map D.int)] []) (fun d _ => d = .bl true) (fun _ _ _ => False) := by
  obtain ⟨n, rfl⟩ : ∃ m, n = m + 1 := ⟨n - 1, by omega⟩
  refine wr_call p_law rfl rfl ?_
  unfold D_law
  (try simp [ix, fget, fput, bmOk, isLst, isKd, alloc, b_mod, b_fdiv, b_pow, k_dm, k_lenL, t_lst, v_lst])
  refine hand_ok (by omega) (by omega) hl fun h1 k1 hh1 => ?_
  (try simp [ix, fget, fput, bmOk, isLst, isKd, alloc, b_mod, b_fdiv, b_pow, k_dm, k_lenL, t_lst, v_lst])
  refine snum_ok (by omega) (by omega) hh1 fun c s h2 c1 c2 s1 s2 k2 hh2 => ?_
  (try simp [ix, fget, fput, bmOk, isLst, isKd, alloc, b_mod, b_fdiv, b_pow, k_dm, k_lenL, t_lst, v_lst])
  refine hand_ok (by omega) (by omega) hl fun h3 k3 hh3 => ?_
  (try simp [ix, fget, fput, bmOk, isLst, isKd, alloc, b_mod, b_fdiv, b_pow, k_dm, k_lenL, t_lst, v_lst])
  refine snum_ok (by omega) (by omega) hh3 fun c' s' h4 c1' c2' s1' s2' k4 hh4 => ?_
  (try simp [ix, fget, fput, bmOk, isLst, isKd, alloc, b_mod, b_fdiv, b_pow, k_dm, k_lenL, t_lst, v_lst, ini0])
  refine shape_ok (by omega) c1 c2 s1 s2 lst_at' ?_
  (try simp [ix, fget, fput, bmOk, isLst, isKd, alloc, b_mod, b_fdiv, b_pow, k_dm, k_lenL, t_lst, v_lst, ini0])
  refine shape_ok (by omega) c1' c2' s1' s2' (by simp) ?_
  (try simp [ix, fget, fput, bmOk, isLst, isKd, alloc, b_mod, b_fdiv, b_pow, k_dm, k_lenL, t_lst, v_lst, ini0])
  refine shape_ok (by omega) s1 s2 c1 c2 (app_at 3) ?_
  (try simp [ix, fget, fput, bmOk, isLst, isKd, alloc, b_mod, b_fdiv, b_pow, k_dm, k_lenL, t_lst, v_lst])
  rw [show h4.length + 2 + 1 = h4.length + 3 from rfl, app_set 3, b_app (app_at 2) (by simp), app_set 2]
  simp only [List.set_cons_succ, List.set_cons_zero, List.cons_append, List.nil_append]
  simp only [wr_ok]
  (try simp [ix, fget, fput, bmOk, isLst, isKd, alloc, b_mod, b_fdiv, b_pow, k_dm, k_lenL, t_lst, v_lst])
  generalize hH : (h4 ++ [O.ins 0 [(0, D.int c), (1, D.int s)], O.ins 0 [(0, D.int c'), (1, D.int s')], O.lst [D.tup [D.ref h4.length, D.tup [D.int c, D.int s]], D.tup [D.ref (h4.length + 1), D.tup [D.int c', D.int s']], D.tup [D.ref (h4.length + 3), D.tup [D.int s, D.int c]]], O.ins 0 [(0, D.int s), (1, D.int c)], O.lst []] : M) = H0
  have a0 : H0[h4.length]? = some (.ins 0 [(0, .int c), (1, .int s)]) := by rw [← hH]; exact app_at 0
  have a1 : H0[h4.length + 1]? = some (.ins 0 [(0, .int c'), (1, .int s')]) := by rw [← hH]; exact app_at 1
  have a3 : H0[h4.length + 3]? = some (.ins 0 [(0, .int s), (1, .int c)]) := by rw [← hH]; exact app_at 3
  have al : H0[h4.length + 2]? = some (.lst [D.tup [D.ref h4.length, D.tup [D.int c, D.int s]], D.tup [D.ref (h4.length + 1), D.tup [D.int c', D.int s']], D.tup [D.ref (h4.length + 3), D.tup [D.int s, D.int c]]]) := by rw [← hH]; exact app_at 2
  have a4 : H0[h4.length + 4]? = some (.lst []) := by rw [← hH]; exact app_at 4
  clear hH
  generalize h4.length = q at a0 a1 a3 al a4 ⊢
  have nm : ∀ i, i ≠ q + 4 → i ∉ [q + 4] := fun i h m => h (List.mem_singleton.mp m)
  refine wr_lc (fun k h' => Kp [q + 4] H0 h' ∧ h'[q + 4]? = some (.lst (([.tup [.int c, .int s], .tup [.int c', .int s'], .tup [.int s, .int c]] : List D).take k))) 3 (by decide) ⟨Kp.refl _ _, a4⟩ (fun h' hi => ?_) (fun k h' hk hi => ?_)
  · obtain ⟨kk, ek⟩ := hi
    have al' := kk.at al (nm _ (by omega))
    refine ⟨by rw [nth_live al']; rfl, ?_⟩
    (try simp [ix, fget, fput, bmOk, isLst, isKd, alloc, b_mod, b_fdiv, b_pow, k_dm, k_lenL, t_lst, v_lst])
    have b0 := kk.at a0 (nm _ (by omega))
    have b1 := kk.at a1 (nm _ (by omega))
    have b3 := kk.at a3 (nm _ (by omega))
    have mn := @minI_le' 32 ns.length
    have mx : 3 ≤ maxI 3 (minI 32 ns.length) ∧ maxI 3 (minI 32 ns.length) ≤ 32 := by unfold maxI; split <;> omega
    rw [it_rng (by omega)]
    (try simp [ix, fget, fput, bmOk, isLst, isKd, alloc, b_mod, b_fdiv, b_pow, k_dm, k_lenL, t_lst, v_lst])
    refine ws_for (fun k sg hz => Kp [] h' hz ∧ ∃ d5 d6 d7 d8, sg = [some (.scr (ns.map D.int)), some (.tup [.int c, .int s]), some (.tup [.int c', .int s']), some (.ref (q + 2)), some (.ref (q + 4)), d5, d6, d7, d8]) (maxI 3 (minI 32 ns.length) - 2).toNat (by show _ < 100000; omega) ⟨Kp.refl _ _, _, _, _, _, rfl⟩ (fun sg hz hi => ⟨rng_end, ?_⟩) (fun k sg hz hk hi => ⟨_, rng_go (by omega), ?_⟩)
    · obtain ⟨kz, d5, d6, d7, d8, rfl⟩ := hi
      (try simp [ix, fget, fput, bmOk, isLst, isKd, alloc, b_mod, b_fdiv, b_pow, k_dm, k_lenL, t_lst, v_lst])
      rw [it_rng (by omega)]
      (try simp [ix, fget, fput, bmOk, isLst, isKd, alloc, b_mod, b_fdiv, b_pow, k_dm, k_lenL, t_lst, v_lst])
      have alz := kz.at al' (by simp)
      have z0 := kz.at b0 (by simp)
      have z1 := kz.at b1 (by simp)
      have z3 := kz.at b3 (by simp)
      have zk : hz[q + 4]? = some (.lst [.tup [.int c, .int s], .tup [.int c', .int s'], .tup [.int s, .int c]]) := kz.at ek (by simp)
      refine ws_for (fun k sg hy => hy = hz ∧ ∃ d5 d7 d8, sg = [some (.scr (ns.map D.int)), some (.tup [.int c, .int s]), some (.tup [.int c', .int s']), some (.ref (q + 2)), some (.ref (q + 4)), d5, d6, d7, d8]) 3 (by decide) ⟨rfl, _, _, _, rfl⟩ (fun sg hy hi => ⟨rng_end (i := 0) (j := 3), ?_⟩) (fun k sg hy hk hi => ⟨_, rng_go (by omega), ?_⟩)
      · obtain ⟨rfl, d5, d7, d8, rfl⟩ := hi
        (try simp [ix, fget, fput, bmOk, isLst, isKd, alloc, b_mod, b_fdiv, b_pow, k_dm, k_lenL, t_lst, v_lst])
      · obtain ⟨rfl, d5, d7, d8, rfl⟩ := hi
        match k, hk with
        | 0, _ => (try simp [ix, fget, fput, bmOk, isLst, isKd, alloc, b_mod, b_fdiv, b_pow, k_dm, k_lenL, t_lst, v_lst, alz, zk, z0, z1, z3, c_ne2])
        | 1, _ => (try simp [ix, fget, fput, bmOk, isLst, isKd, alloc, b_mod, b_fdiv, b_pow, k_dm, k_lenL, t_lst, v_lst, alz, zk, z0, z1, z3, c_ne2])
        | 2, _ => (try simp [ix, fget, fput, bmOk, isLst, isKd, alloc, b_mod, b_fdiv, b_pow, k_dm, k_lenL, t_lst, v_lst, alz, zk, z0, z1, z3, c_ne2])
    · obtain ⟨kz, d5, d6, d7, d8, rfl⟩ := hi
      (try simp [ix, fget, fput, bmOk, isLst, isKd, alloc, b_mod, b_fdiv, b_pow, k_dm, k_lenL, t_lst, v_lst])
      refine hand_ok (by omega) (by omega) hl fun h5 k5 hh5 => ?_
      have r1 := Int.emod_nonneg (k : Int) (show (2 : Int) ≠ 0 by decide)
      have r2 := Int.emod_lt_of_pos (k : Int) (show (0 : Int) < 2 by decide)
      have pickd : ∃ cc ss, at? [D.tup [.int c, .int s], .tup [.int c', .int s']] ((k : Int) % 2) = some (.tup [.int cc, .int ss]) ∧ 1 ≤ cc ∧ cc ≤ 1000 ∧ 1 ≤ ss ∧ ss ≤ 1000 := by
        generalize (k : Int) % 2 = r at r1 r2 ⊢
        have : r = 0 ∨ r = 1 := by omega
        rcases this with rfl | rfl
        · exact ⟨_, _, at0 _ _, c1, c2, s1, s2⟩
        · exact ⟨_, _, at1 _ _ _, c1', c2', s1', s2'⟩
      obtain ⟨cc, ss, ep, cc1, cc2, ss1, ss2⟩ := pickd
      (try simp [ix, fget, fput, bmOk, isLst, isKd, alloc, b_mod, b_fdiv, b_pow, k_dm, k_lenL, t_lst, v_lst, ep])
      have kp5 := Kp.push [hz.length] h5 (.lst [D.tup [.int c, .int s], .tup [.int c', .int s']])
      refine drawn_ok (by omega) (by decide) (hh5.push _) cc1 cc2 ss1 ss2 fun m t x o h6 m1 m2 t1 t2 x1 x2 o1 o2 k6 => ?_
      have k06 : Kp [] hz h6 := kpFresh k5 (kp5.trans k6)
      have kz6 : Kp [] h' h6 := kz.trans k06
      have al6 := kz6.at al' (by simp)
      have p0 := kz6.at b0 (by simp)
      have p1 := kz6.at b1 (by simp)
      have p3 := kz6.at b3 (by simp)
      (try simp [ix, fget, fput, bmOk, isLst, isKd, alloc, b_mod, b_fdiv, b_pow, k_dm, k_lenL, t_lst, v_lst])
      rw [sl_lst al6]
      (try simp [ix, fget, fput, bmOk, isLst, isKd, alloc, b_mod, b_fdiv, b_pow, k_dm, k_lenL, t_lst, v_lst, cut, sIx])
      rw [b_cat (xs := [D.tup [D.ref q, D.tup [D.int c, D.int s]], D.tup [D.ref (q + 1), D.tup [D.int c', D.int s']], D.tup [D.ref (q + 3), D.tup [D.int s, D.int c]]]) (ys := [D.tup [D.ref q, D.tup [D.int c, D.int s]]]) ((Kp.push [] h6 _).at al6 (by simp)) lst_at' (by simp)]
      (try simp [ix, fget, fput, bmOk, isLst, isKd, alloc, b_mod, b_fdiv, b_pow, k_dm, k_lenL, t_lst, v_lst])
      have k7 : Kp [] h6 (h6 ++ [O.lst [D.tup [D.ref q, D.tup [D.int c, D.int s]]], O.lst [D.tup [D.ref q, D.tup [D.int c, D.int s]], D.tup [D.ref (q + 1), D.tup [D.int c', D.int s']], D.tup [D.ref (q + 3), D.tup [D.int s, D.int c]], D.tup [D.ref q, D.tup [D.int c, D.int s]]]]) := ⟨by simp, fun i l _ => List.getElem?_append_left l⟩
      have e7 : (h6 ++ [O.lst [D.tup [D.ref q, D.tup [D.int c, D.int s]]], O.lst [D.tup [D.ref q, D.tup [D.int c, D.int s]], D.tup [D.ref (q + 1), D.tup [D.int c', D.int s']], D.tup [D.ref (q + 3), D.tup [D.int s, D.int c]], D.tup [D.ref q, D.tup [D.int c, D.int s]]]])[h6.length + 1]? = some (.lst [D.tup [D.ref q, D.tup [D.int c, D.int s]], D.tup [D.ref (q + 1), D.tup [D.int c', D.int s']], D.tup [D.ref (q + 3), D.tup [D.int s, D.int c]], D.tup [D.ref q, D.tup [D.int c, D.int s]]]) := app_at 1
      have f0 := k7.at p0 (by simp)
      have f1 := k7.at p1 (by simp)
      have f3 := k7.at p3 (by simp)
      have k07 := kz6.trans k7
      generalize h6 ++ [O.lst [D.tup [D.ref q, D.tup [D.int c, D.int s]]], O.lst [D.tup [D.ref q, D.tup [D.int c, D.int s]], D.tup [D.ref (q + 1), D.tup [D.int c', D.int s']], D.tup [D.ref (q + 3), D.tup [D.int s, D.int c]], D.tup [D.ref q, D.tup [D.int c, D.int s]]]] = H7 at e7 f0 f1 f3 k07 ⊢
      generalize h6.length + 1 = r7 at e7 ⊢
      refine ws_for (fun j sg hy => hy = H7 ∧ ∃ d7 d8, sg = [some (.scr (ns.map D.int)), some (.tup [.int c, .int s]), some (.tup [.int c', .int s']), some (.ref (q + 2)), some (.ref (q + 4)), some (.int (2 + k)), some (.tup [.int m, .int t, .int x, .int o]), d7, d8]) 4 (by decide) ⟨rfl, _, _, rfl⟩ (fun sg hy hi => ?_) (fun j sg hy hj hi => ?_)
      · obtain ⟨rfl, d7, d8, rfl⟩ := hi
        refine ⟨by rw [nth_live e7]; rfl, ?_⟩
        (try simp [ix, fget, fput, bmOk, isLst, isKd, alloc, b_mod, b_fdiv, b_pow, k_dm, k_lenL, t_lst, v_lst])
        exact k07
      · obtain ⟨rfl, d7, d8, rfl⟩ := hi
        match j, hj with
        | 0, _ =>
          refine ⟨_, by rw [nth_live e7]; rfl, ?_⟩
          (try simp [ix, fget, fput, bmOk, isLst, isKd, alloc, b_mod, b_fdiv, b_pow, k_dm, k_lenL, t_lst, v_lst])
          refine right13 (by omega) f0 c1 c2 s1 s2 m1 m2 ?_
          (try simp [ix, fget, fput, bmOk, isLst, isKd, alloc, b_mod, b_fdiv, b_pow, k_dm, k_lenL, t_lst, v_lst])
        | 1, _ =>
          refine ⟨_, by rw [nth_live e7]; rfl, ?_⟩
          (try simp [ix, fget, fput, bmOk, isLst, isKd, alloc, b_mod, b_fdiv, b_pow, k_dm, k_lenL, t_lst, v_lst])
          refine right13 (by omega) f1 c1' c2' s1' s2' m1 m2 ?_
          (try simp [ix, fget, fput, bmOk, isLst, isKd, alloc, b_mod, b_fdiv, b_pow, k_dm, k_lenL, t_lst, v_lst])
        | 2, _ =>
          refine ⟨_, by rw [nth_live e7]; rfl, ?_⟩
          (try simp [ix, fget, fput, bmOk, isLst, isKd, alloc, b_mod, b_fdiv, b_pow, k_dm, k_lenL, t_lst, v_lst])
          refine right13 (by omega) f3 s1 s2 c1 c2 m1 m2 ?_
          (try simp [ix, fget, fput, bmOk, isLst, isKd, alloc, b_mod, b_fdiv, b_pow, k_dm, k_lenL, t_lst, v_lst])
        | 3, _ =>
          refine ⟨_, by rw [nth_live e7]; rfl, ?_⟩
          (try simp [ix, fget, fput, bmOk, isLst, isKd, alloc, b_mod, b_fdiv, b_pow, k_dm, k_lenL, t_lst, v_lst])
          refine right13 (by omega) f0 c1 c2 s1 s2 m1 m2 ?_
          (try simp [ix, fget, fput, bmOk, isLst, isKd, alloc, b_mod, b_fdiv, b_pow, k_dm, k_lenL, t_lst, v_lst])
  · obtain ⟨kk, ek⟩ := hi
    have al' := kk.at al (nm _ (by omega))
    have b0 := kk.at a0 (nm _ (by omega))
    have b1 := kk.at a1 (nm _ (by omega))
    have b3 := kk.at a3 (nm _ (by omega))
    have ql := (List.getElem?_eq_some_iff.mp ek).1
    match k, hk, ek with
    | 0, _, ek =>
      refine ⟨_, by rw [nth_live al']; rfl, ?_⟩
      (try simp [ix, fget, fput, bmOk, isLst, isKd, alloc, b_mod, b_fdiv, b_pow, k_dm, k_lenL, t_lst, v_lst, wipeV])
      refine pair13 (by omega) b0 ?_
      (try simp [ix, fget, fput, bmOk, isLst, isKd, alloc, b_mod, b_fdiv, b_pow, k_dm, k_lenL, t_lst, v_lst])
      exact ⟨_, ek, by simp [LINE], kk.trans (Kp.set (by simp)), by rw [List.getElem?_set_self ql]; rfl⟩
    | 1, _, ek =>
      refine ⟨_, by rw [nth_live al']; rfl, ?_⟩
      (try simp [ix, fget, fput, bmOk, isLst, isKd, alloc, b_mod, b_fdiv, b_pow, k_dm, k_lenL, t_lst, v_lst, wipeV])
      refine pair13 (by omega) b1 ?_
      (try simp [ix, fget, fput, bmOk, isLst, isKd, alloc, b_mod, b_fdiv, b_pow, k_dm, k_lenL, t_lst, v_lst])
      exact ⟨_, ek, by simp [LINE], kk.trans (Kp.set (by simp)), by rw [List.getElem?_set_self ql]; rfl⟩
    | 2, _, ek =>
      refine ⟨_, by rw [nth_live al']; rfl, ?_⟩
      (try simp [ix, fget, fput, bmOk, isLst, isKd, alloc, b_mod, b_fdiv, b_pow, k_dm, k_lenL, t_lst, v_lst, wipeV])
      refine pair13 (by omega) b3 ?_
      (try simp [ix, fget, fput, bmOk, isLst, isKd, alloc, b_mod, b_fdiv, b_pow, k_dm, k_lenL, t_lst, v_lst])
      exact ⟨_, ek, by simp [LINE], kk.trans (Kp.set (by simp)), by rw [List.getElem?_set_self ql]; rfl⟩
theorem plain : ∀ ns : List Int, ns.length ≤ 63 → ∃ h, Rm.callN P W deep F_law [.scr (ns.map .int)] [] = .ok (.bl true) h := by
  intro ns hl
  have q := body_ok (n := deep) (by decide) hl
  cases e : callN P W deep F_law [.scr (ns.map .int)] [] with
  | ok d h =>
    rw [e] at q
    have q : d = .bl true := q
    rw [q]
    exact ⟨h, rfl⟩
  | exc c fs h => rw [e] at q; exact q.elim
  | no => rw [e] at q; exact q.elim

end
open PySem PySem.Spec PyProof.Rows L2
abbrev R : PySem.W.OpenRow := PySem.W.OpenLaw.row PySem.Challenge.rw_risemarks_k13_parts_and_back
abbrev hk : PySem.W.Hook := He.hookD 6 bk.fa bk.ds
def ob (s : PySem.W.SharedT) : He.AlD := He.obsDG 6 bk.fa bk.ds (HandSHeadRun.getT s)
theorem ob_eq (s : PySem.W.SharedT) : ob s = hk.obs s.abs := He.obsDG_eq (HandSHeadRun.getT_eq s)
def loose : List PySem.Str := (["RiseError", "BadShape", "WIDEST", "is_whole", "Shape", "mark_of", "parts_of", "pair_of", "_law_hand", "_law_pick", "_law_number", "_law_whole", "_law_wide", "_law_shape_numbers", "_law_below", "_law_tuple", "_law_drawn", "_law_right"] : List PySem.Str)
theorem run (w : World) : HandSHeadRun.RunEq R (PySem.W.view R.prog [21]) hk ob 20000 loose w := by
  intro os
  kernel_rfl
end Bk
open PySem PySem.W PySem.Calls PyProof.Rows
theorem PySem.Challenge.cw_risemarks_k13_parts_and_back_holds : PySem.Challenge.rw_risemarks_k13_parts_and_back.Holds := by
  w_on; o_law
  refine HandSHeadRun.head_any (r := OpenLaw.row PySem.Challenge.rw_risemarks_k13_parts_and_back) (q := view (OpenLaw.row PySem.Challenge.rw_risemarks_k13_parts_and_back).prog [21]) (H := Bk.hk) (ob := Bk.ob) (M := 20000) (loose := Bk.loose) (d := HandSHeadRun.topDef (OpenLaw.row PySem.Challenge.rw_risemarks_k13_parts_and_back).prog 21) (kwd := []) Bk.ob_eq
    (by kernel_rfl) (fun s => by kernel_rfl) Bk.run (by kernel_rfl) (by kernel_rfl) (by kernel_rfl) (by rfl) (by first | assumption | decide +kernel) (by decide +kernel) ⟨rfl, rfl, rfl, rfl, rfl, by decide +kernel⟩ ?hw ?hc
  case hw => w_witness2
  case hc =>
    refine L2.walk_ofE (l := PySem.Challenge.rw_risemarks_k13_parts_and_back) (n := 63) (k := 2 * Bk.deep + 2) (x := "_law_script") (CX := L2.CX0) rfl (by decide) (by kernel_rfl) ⟨rfl, by decide, by decide⟩ ?F (fun _ _ _ _ z => z)
    intro w mg fa h Y G hmg0
    obtain ⟨K, KX, c⟩ := Y
    have hmg : mg ("law" : PySem.Str) = some (.ref fa) := by
      have e : (HandSHeadRun.topDef (OpenLaw.row PySem.Challenge.rw_risemarks_k13_parts_and_back).prog 21).name = ("law" : PySem.Str) := by kernel_rfl
      rw [← e]
      exact hmg0
    obtain ⟨fd, sp, h1, h2, h3⟩ := Rm.law_of (x := "_law_script") (prog := (PySem.Challenge.rw_risemarks_k13_parts_and_back).prog) (wd := w) Bk.bk_ok Bk.bnd Bk.bk_ck (f := 15) (e := Bk.E_law) rfl rfl (by decide +kernel) Bk.plain KX G c hmg
    exact ⟨K, fd, sp, KX, h1, h2, h3⟩
