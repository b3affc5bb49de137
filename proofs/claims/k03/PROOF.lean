import PyProof.Rows.All
import Wide.All
import OpenK.AllK
import Wide.FinOn
import HandS.ForMost
import HandS.ForExc
import HandS.TupAny
import HandS.TupMul
import HandS.IsInst
import HandS.Style
import PyProof.NeKinds
import HandS.WordsExc
import HandS.CallLocal
import HandS.Text
import HandS.Iter
import HandS.Exc
import HandS.Comp
import KE.KExcIs
import HandS.ExcValue
import PySem.Challenge.RW_longbeat_k03_rows_known
set_option Elab.async false
set_option linter.all false
set_option maxRecDepth 100000
set_option autoImplicit false
/-! ## Lb0 -/
/-! Lb0: a small language of words that are already resolved (slots in place of names), and what it does to plain data.
A list or dict that may change is held by one slot (own) or came as an argument; nothing here speaks of the heap. -/
namespace Lb
open PySem L2

abbrev D := PyData
/-- what a changeable thing holds -/
inductive CV where
  | l (xs : List D)
  | m (kvs : List (D × D))
/-- an exception: its class's name, what it carries -/
structure Exn where
  cls : Str
  arg : D
/-- a value while an expression is reckoned -/
inductive Vl where
  | d (x : D)
  | n (c : CV)
  | s (i : Nat)
  | a (j : Nat)
  | f (x : Str)
  | z (ns : List Int)
  | x (e : Exn)
/-- what a slot holds -/
inductive Sl where
  | no
  | d (x : D)
  | o (c : CV)
  | a (j : Nat)
  | f (x : Str)
  | z (ns : List Int)
  | x (e : Exn)
/-- what a def is handed -/
inductive Ag where
  | d (x : D)
  | c (c : CV)
  | f (x : Str)
  | z (ns : List Int)
  | x (e : Exn)
/-- what a def hands back: data, a new thing, its j-th argument itself, a def -/
inductive Rv where
  | d (x : D)
  | n (c : CV)
  | a (j : Nat)
  | f (x : Str)
/-- the state: slots, and what the changeable arguments hold -/
structure W where
  r : List Sl
  a : List (Option CV)

def CV.dat : CV → D
  | .l xs => .list xs
  | .m kvs => .dict kvs
def slotDat : Option Sl → Option D
  | some (.d x) => some x
  | some (.o c) => some c.dat
  | _ => none
def argDat : Option (Option CV) → Option D
  | some (some c) => some c.dat
  | _ => none
/-- what a value reads as -/
def rd (w : W) : Vl → Option D
  | .d x => some x
  | .n c => some c.dat
  | .s i => slotDat w.r[i]?
  | .a j => argDat w.a[j]?
  | .f _ => none
  | .z _ => none
  | .x _ => none
/-- it must be a list -/
def lstP (w : W) (v : Vl) (P : Prop) : Prop := match rd w v with
  | some (.list _) => P
  | _ => False
/-- read it, then go on -/
def rdP (w : W) (v : Vl) (k : D → Prop) : Prop := match rd w v with
  | some x => k x
  | none => False

inductive Bop where | add | sub | mul | fdiv | mod | pow
  deriving DecidableEq
inductive Cop where | lt | le | gt | ge | eq | ne | inn | notin
  deriving DecidableEq
inductive Ty where | int | bool | str | tuple | list | dict
  deriving DecidableEq
inductive Bi where | len | abs | min2 | max2 | intOf | strOf | reprOf | tupleOf | listOf | sumOf | maxOf | minOf | allOf | anyOf | isi (t : Ty) | isiLT | dictOf | sortedOf | sortedSet | lenSet
  deriving DecidableEq
mutual
/-- expressions -/
inductive SE where
  | v (i : Nat)
  | k (c : D)
  | g (x : Str)
  | fn (x : Str)
  | bin (o : Bop) (a b : SE)
  | neg (a : SE)
  | cmp (o : Cop) (a b : SE)
  | chain (o p : Cop) (a b c : SE)
  | isN (neg : Bool) (a : SE)
  | isB (neg : Bool) (c : Bool) (a : SE)
  | and (a b : SE)
  | or (a b : SE)
  | not (a : SE)
  | ife (t : ST) (a b : SE)
  | tup (es : SEs)
  | lst (es : SEs)
  | dic0
  | dic1 (a b : SE)
  | ix (a b : SE)
  | sl (a : SE) (lo hi : SO)
  | rv (a : SE)
  | call (f : Str) (es : SEs)
  | callv (i : Nat) (es : SEs)
  | zlen (i : Nat)
  | zix (i : Nat) (b : SE)
  | isx (a : SE) (c : Str)
  | cnt (o e : SE)
  | idx (o e : SE)
  | sumL (es : SEs)
  | noneIn (a : SE)
  | stuck
  | bi (b : Bi) (es : SEs)
  | app (o e : SE)
  | pop (o : SE)
  | ext (o e : SE)
  | join (o e : SE)
  | upper (o : SE)
  | lc (own : List Nat) (e : SE) (tg : Tg) (it : SI) (c : SC)
/-- tests -/
inductive ST where
  | e (a : SE)
  | tr (a : SE)
  | not (a : ST)
  | and (a b : ST)
  | or (a b : ST)
inductive SEs where
  | nil
  | cons (a : SE) (r : SEs)
inductive SO where
  | no
  | so (a : SE)
/-- what a for walks -/
inductive SI where
  | seq (a : SE)
  | str (a : SE)
  | rng1 (a : SE)
  | rng2 (a b : SE)
  | enum (a : SE)
  | zip (a b : SE)
/-- a comprehension's test -/
inductive SC where
  | no
  | so (a : ST)
/-- targets that are names, or tuples of such -/
inductive Tg where
  | v (i : Nat)
  | t (ts : Tgs)
inductive Tgs where
  | nil
  | cons (a : Tg) (r : Tgs)
end
/-- statements -/
inductive SS where
  | asg (tg : Tg) (e : SE)
  | par (i j : Nat) (a b : SE)
  | aug (i : Nat) (o : Bop) (e : SE)
  | put (o i e : SE)
  | augIx (o i : SE) (op : Bop) (e : SE)
  | ex (e : SE)
  | ret (e : SE)
  | retN
  | ite (c : ST) (a b : List SS)
  | for (tg : Tg) (it : SI) (b : List SS)
  | whl (c : ST) (b : List SS)
  | pass
  | brk
  | cont
  | rais (x : Str)
  | tryx (b : List SS) (c : Str) (n : Nat) (h : List SS)
  | stuck

/-! ### what operators do to data -/
def isT : Ty → D → Bool
  | .int, .int _ => true
  | .int, .bool _ => true
  | .bool, .bool _ => true
  | .str, .str _ => true
  | .tuple, .tuple _ => true
  | .list, .list _ => true
  | .dict, .dict _ => true
  | _, _ => false

def binP : Bop → D → D → (Vl → Prop) → Prop
  | .add, .int i, .int j, k => k (.d (.int (i + j)))
  | .add, .str x, .str y, k => x.length + y.length ≤ sizeLine ∧ k (.d (.str (x ++ y)))
  | .add, .tuple xs, .tuple ys, k => xs.length + ys.length ≤ sizeLine ∧ k (.d (.tuple (xs ++ ys)))
  | .add, .list xs, .list ys, k => xs.length + ys.length ≤ sizeLine ∧ k (.n (.l (xs ++ ys)))
  | .sub, .int i, .int j, k => k (.d (.int (i - j)))
  | .mul, .int i, .int j, k => CMul i j ∧ k (.d (.int (i * j)))
  | .mul, .list xs, .int j, k => (-(2 ^ 63) ≤ j ∧ j < 2 ^ 63 ∧ xs.length * j.toNat ≤ sizeLine) ∧ k (.n (.l (List.replicate j.toNat xs).flatten))
  | .mul, .tuple xs, .int j, k => (xs ≠ [] ∧ 2 ≤ j ∧ j ≤ 1000 ∧ xs.length ≤ 1000) ∧ k (.d (.tuple (List.replicate j.toNat xs).flatten))
  | .fdiv, .int i, .int j, k => CDivN i j ∧ k (.d (.int (i.fdiv j)))
  | .mod, .int i, .int j, k => j ≠ 0 ∧ k (.d (.int (i.fmod j)))
  | .pow, .int i, .int j, k => CPow i j ∧ k (.d (.int (i ^ j.toNat)))
  | _, _, _, _ => False

/-- of scalars == is equality -/
def scalD : D → D → Bool
  | .none, .none => true | .none, .int _ => true | .int _, .none => true | .none, .bool _ => true | .bool _, .none => true | .none, .str _ => true | .str _, .none => true
  | .int _, .int _ => true | .bool _, .bool _ => true | .str _, .str _ => true
  | .int _, .str _ => true | .str _, .int _ => true | .bool _, .str _ => true | .str _, .bool _ => true
  | _, _ => false
/-- what == may be asked of -/
def nilD : D → D → Bool
  | .list _, .list [] => true
  | .tuple _, .tuple [] => true
  | _, _ => false
def EqOk (a b : D) : Prop := scalD a b = true ∨ (a.canLay0 = true ∧ b.canLay0 = true ∧ min a.depth b.depth ≤ 64) ∨ nilD a b = true
/-- texts and ints: what «in» a list or tuple may be asked of by equality -/
def flatD : D → Bool
  | .none => true | .bool _ => true | .int _ => true | .str _ => true
  | _ => false
def eqFlat (x y : D) : Bool := PyData.eqv y x
def inP (neg : Bool) (x y : D) (k : Bool → Prop) : Prop := match x, y with
  | .str c, .str z => (∃ n, c = ⟨#[n]⟩) ∧ k (bif neg then !decide ((c.cps[0]?.getD 0) ∈ z.cps.toList) else decide ((c.cps[0]?.getD 0) ∈ z.cps.toList))
  | x, .tuple ys => (flatD x = true ∧ ys.all flatD = true) ∧ k (bif neg then !ys.any (eqFlat x) else ys.any (eqFlat x))
  | x, .list ys => (flatD x = true ∧ ys.all flatD = true) ∧ k (bif neg then !ys.any (eqFlat x) else ys.any (eqFlat x))
  | _, _ => False
def cmpP : Cop → D → D → (Bool → Prop) → Prop
  | .lt, .int i, .int j, k => k (decide (i < j))
  | .le, .int i, .int j, k => k (decide (i ≤ j))
  | .gt, .int i, .int j, k => k (decide (j < i))
  | .ge, .int i, .int j, k => k (decide (j ≤ i))
  | .lt, .str x, .str y, k => k (decide (x.cps.toList < y.cps.toList))
  | .eq, a, b, k => EqOk a b ∧ k (PyData.eqv a b)
  | .ne, a, b, k => EqOk a b ∧ k (!PyData.eqv a b)
  | .inn, a, b, k => inP false a b k
  | .notin, a, b, k => inP true a b k
  | _, _, _, _ => False

/-- the place of an index -/
def ixD (xs : List D) (i : Int) (k : D → Prop) : Prop := match atI xs i with
  | some x => k x
  | none => False
def ixP : D → D → (D → Prop) → Prop
  | .list xs, .int i, k => ixD xs i k
  | .tuple xs, .int i, k => ixD xs i k
  | .str z, .int i, k => (match atI z.cps.toList i with
      | some c => k (.str ⟨#[c]⟩)
      | none => False)
  | _, _, _ => False
def cutD (xs : List D) (lo hi : Option Int) : List D := (xs.drop (HT.sIx xs.length 0 lo)).take (HT.sIx xs.length xs.length hi - HT.sIx xs.length 0 lo)
def slP (x : D) (lo hi : Option Int) (k : Vl → Prop) : Prop := match x with
  | .list xs => k (.n (.l (cutD xs lo hi)))
  | .tuple xs => k (.d (.tuple (cutD xs lo hi)))
  | .str z => k (.d (.str (cutS z lo hi)))
  | _ => False
def rvP (x : D) (k : Vl → Prop) : Prop := match x with
  | .list xs => k (.n (.l xs.reverse))
  | .tuple xs => k (.d (.tuple xs.reverse))
  | .str z => k (.d (.str ⟨z.cps.toList.reverse.toArray⟩))
  | _ => False

def intsD : List D → Option (List Int)
  | [] => some []
  | .int i :: r => (intsD r).map (i :: ·)
  | _ => none
def boolsD : List D → Option (List Bool)
  | [] => some []
  | .bool b :: r => (boolsD r).map (b :: ·)
  | _ => none
def strsD : List D → Option (List Str)
  | [] => some []
  | .str x :: r => (strsD r).map (x :: ·)
  | _ => none
def itemsD : D → Option (List D)
  | .list xs => some xs
  | .tuple xs => some xs
  | _ => none
def optP {α : Type} (o : Option α) (k : α → Prop) : Prop := match o with
  | some x => k x
  | none => False

def one1 (xs : List D) (f : D → Prop) : Prop := match xs with
  | [x] => f x
  | _ => False
def two2 (xs : List D) (f : D → D → Prop) : Prop := match xs with
  | [x, y] => f x y
  | _ => False
def intP (x : D) (f : Int → Prop) : Prop := match x with
  | .int i => f i
  | _ => False
/-- a built-in function, by what its arguments read as -/
def biP (b : Bi) (xs : List D) (k : Vl → Prop) : Prop := match b with
  | .len => one1 xs fun x => match x with
    | .str x => k (.d (.int (x.length : Nat)))
    | .tuple xs => k (.d (.int (xs.length : Nat)))
    | .list xs => k (.d (.int (xs.length : Nat)))
    | _ => False
  | .abs => one1 xs fun x => intP x fun i => k (.d (.int (if i < 0 then -i else i)))
  | .min2 => two2 xs fun x y => intP x fun i => intP y fun j => k (.d (.int (if j < i then j else i)))
  | .max2 => two2 xs fun x y => intP x fun i => intP y fun j => k (.d (.int (if j > i then j else i)))
  | .intOf => one1 xs fun x => match x with
    | .int i => k (.d (.int i))
    | .bool b => k (.d (.int (if b then 1 else 0)))
    | _ => False
  | .strOf => one1 xs fun x => intP x fun i => (i.natAbs.log2 < 1920 ∧ (toString i : Str).length ≤ sizeLine) ∧ k (.d (.str (toString i)))
  | .isi t => one1 xs fun x => k (.d (.bool (isT t x)))
  | .isiLT => one1 xs fun x => k (.d (.bool (isT .list x || isT .tuple x)))
  | .tupleOf => one1 xs fun x => match x with
    | .list ys => k (.d (.tuple ys))
    | .tuple ys => k (.d (.tuple ys))
    | _ => False
  | .listOf => one1 xs fun x => match x with
    | .list ys => k (.n (.l ys))
    | .tuple ys => k (.n (.l ys))
    | _ => False
  | .sumOf => one1 xs fun x => match x with
    | .list ys => optP (intsD ys) fun ns => k (.d (.int ns.sum))
    | _ => False
  | .reprOf => one1 xs fun x => (isT .list x = true ∧ x.canLay0 = true ∧ x.depth ≤ 60 ∧ x.showable = true ∧ x.shown.length ≤ sizeLine) ∧ k (.d (.str x.shown))
  | _ => False

def mtJoin (a : Str) (ys : List Str) (k : Vl → Prop) : Prop := (ys.map (·.length)).sum + ys.length * a.length ≤ 16777216 ∧ k (.d (.str (Txt.join a ys)))
def strP (x : D) (f : Str → Prop) : Prop := match x with
  | .str z => f z
  | _ => False

/-! ### state -/
def W.setR (w : W) (i : Nat) (s : Sl) : W := ⟨w.r.set i s, w.a⟩
/-- a changeable value's thing is changed -/
def W.putC (w : W) (v : Vl) (c : CV) : W := match v with
  | .s i => ⟨w.r.set i (.o c), w.a⟩
  | .a j => ⟨w.r, w.a.set j (some c)⟩
  | _ => w
/-- what a changeable value holds, if it may be changed -/
def getC (w : W) : Vl → Option CV
  | .s i => (match w.r[i]? with
    | some (.o c) => some c
    | _ => none)
  | .a j => (match w.a[j]? with
    | some (some c) => some c
    | _ => none)
  | _ => none
def getCP (w : W) (v : Vl) (k : CV → Prop) : Prop := match getC w v with
  | some c => k c
  | none => False
/-- is it None -/
def isNP (w : W) (v : Vl) (k : Bool → Prop) : Prop := match v with
  | .d .none => k true
  | .d _ => k false
  | .n _ => k false
  | .f _ => k false
  | .z _ => k false
  | .x _ => k false
  | v => getCP w v fun _ => k false
/-- a name's value -/
def varP (w : W) (i : Nat) (k : Vl → Prop) : Prop := match w.r[i]? with
  | some (.d x) => k (.d x)
  | some (.o _) => k (.s i)
  | some (.a j) => k (.a j)
  | some (.f x) => k (.f x)
  | some (.z ns) => k (.z ns)
  | some (.x e) => k (.x e)
  | _ => False
/-- a value becomes data: a new thing is never changed from then on, an own list is given up -/
def datP (w : W) (v : Vl) (k : D → W → Prop) : Prop := match v with
  | .d x => k x w
  | .n c => k c.dat w
  | .s i => (match w.r[i]? with
    | some (.o c) => k c.dat (w.setR i (.d c.dat))
    | some (.d x) => k x w
    | _ => False)
  | _ => False
/-- a value is bound to a slot -/
def bindP (w : W) (i : Nat) (v : Vl) (k : W → Prop) : Prop := match v with
  | .d x => k (w.setR i (.d x))
  | .n c => k (w.setR i (.o c))
  | .a j => (match w.a[j]? with
    | some (some _) => k (w.setR i (.a j))
    | _ => False)
  | .f x => k (w.setR i (.f x))
  | .s j => (match w.r[j]? with
    | some (.o c) => if i = j then k w else k ((w.setR j (.d c.dat)).setR i (.d c.dat))
    | some (.d x) => k (w.setR i (.d x))
    | _ => False)
  | .z _ => False
  | .x e => k (w.setR i (.x e))
/-- data or a new thing -/
def valP (w : W) (v : Vl) (k : Vl → W → Prop) : Prop := match v with
  | .n c => k (.n c) w
  | v => datP w v fun x w' => k (.d x) w'
/-- the arguments of a call -/
def agOf (w : W) : Vl → Option Ag
  | .d x => some (.d x)
  | .n c => some (.c c)
  | .f x => some (.f x)
  | .z ns => some (.z ns)
  | .x e => some (.x e)
  | .s i => (match w.r[i]? with
    | some (.o c) => some (.c c)
    | some (.d x) => some (.d x)
    | _ => none)
  | .a j => (match w.a[j]? with
    | some (some c) => some (.c c)
    | _ => none)
def agsOf (w : W) : List Vl → Option (List Ag)
  | [] => some []
  | v :: r => match agOf w v, agsOf w r with
    | some x, some y => some (x :: y)
    | _, _ => none
/-- which slots and arguments are handed on as changeable things -/
def shareds : List Vl → List (Nat ⊕ Nat)
  | [] => []
  | .s i :: r => Sum.inl i :: shareds r
  | .a j :: r => Sum.inr j :: shareds r
  | _ :: r => shareds r
def distinctB : List (Nat ⊕ Nat) → Bool
  | [] => true
  | x :: r => !r.any (fun y => decide (x = y)) && distinctB r
/-- behind the call: what the callee left in its changeable arguments -/
def backs (w : W) : List Vl → List (Option CV) → W
  | v :: r, some c :: cs => backs (w.putC v c) r cs
  | _ :: r, none :: cs => backs w r cs
  | _, _ => w
/-- what the callee handed back, as the caller's value -/
def resOf (vs : List Vl) (cs : List (Option CV)) : Rv → Option Vl
  | .d x => some (.d x)
  | .n c => some (.n c)
  | .f x => some (.f x)
  | .a j => (match vs[j]?, cs[j]? with
    | some (.n _), some (some c) => some (.n c)
    | some v, _ => some v
    | _, _ => none)

/-- the def's start -/
def slOf (j : Nat) : Ag → Sl
  | .d x => .d x
  | .c _ => .a j
  | .f x => .f x
  | .z ns => .z ns
  | .x e => .x e
def cvOf : Ag → Option CV
  | .c c => some c
  | _ => none
def slsFrom : Nat → List Ag → List Sl
  | _, [] => []
  | j, x :: r => slOf j x :: slsFrom (j + 1) r
def startW (n : Nat) (ags : List Ag) : W := ⟨slsFrom 0 ags ++ List.replicate (n - ags.length) .no, ags.map cvOf⟩
/-- the def's end -/
def rvOf (w : W) : Vl → Option Rv
  | .d x => some (.d x)
  | .n c => some (.n c)
  | .f x => some (.f x)
  | .a j => (match w.a[j]? with
    | some (some _) => some (.a j)
    | _ => none)
  | .s i => (match w.r[i]? with
    | some (.o c) => some (.n c)
    | some (.d x) => some (.d x)
    | _ => none)
  | .z _ => none
  | .x _ => none
/-- the changeable arguments stand where they stood -/
def shpB : List Ag → List (Option CV) → Bool
  | [], [] => true
  | .c _ :: r, some _ :: t => shpB r t
  | .c _ :: _, _ => false
  | _ :: r, none :: t => shpB r t
  | _, _ => false

/-! ### what is reckoned -/
abbrev CallT := Str → List Ag → (Rv → List (Option CV) → Prop) → (Exn → List (Option CV) → Prop) → Prop
structure Sg where
  call : CallT
  con : Str → Option D

/-- the program's refusals -/
def XCL : List Str := ["BeatError", "NoProgram", "NoMachine", "NoKind", "NoState", "NoGuess", "NoDeed", "NoPaper", "NoBook", "NoPlace", "TooMany", "NoInput", "NoText"]
/-- is a class of the program's refusals below another class -/
def subX (c d : Str) : Bool := decide (c = d) || decide (d ∈ (["BeatError", "ValueError"] : List Str))
def isxP (v : Vl) (c : Str) (k : Bool → Prop) : Prop := match v with
  | .x e => e.cls ∈ XCL ∧ k (subX e.cls c)
  | _ => False
/-- how often, where first -/
def cntP (p x : D) (k : Int → Prop) : Prop := match p with
  | .list xs => (flatD x = true ∧ xs.all flatD = true) ∧ k ((xs.countP (eqFlat x) : Nat) : Int)
  | _ => False
def idxP (p x : D) (k : Int → Prop) : Prop := match p with
  | .list xs => (flatD x = true ∧ xs.all flatD = true) ∧ optP (xs.findIdx? (eqFlat x)) fun j => k (j : Nat)
  | _ => False
def callP (Γ : Sg) (f : Str) (vs : List Vl) (w : W) (ex : Exn → W → Prop) (k : Vl → W → Prop) : Prop :=
  optP (agsOf w vs) fun ags => distinctB (shareds vs) = true ∧
    Γ.call f ags (fun r cs => optP (resOf vs cs r) fun v => k v (backs w vs cs)) (fun e cs => ex e (backs w vs cs))

def rdsP (w : W) : List Vl → (List D → Prop) → Prop
  | [], k => k []
  | v :: r, k => rdP w v fun x => rdsP w r fun xs => k (x :: xs)
def truP (x : D) (k : Bool → Prop) : Prop := match x with
  | .bool b => k b
  | _ => False
def truA (x : D) (k : Bool → Prop) : Prop := match x with
  | .bool b => k b
  | .int i => k (i != 0)
  | .str x => k (x.length != 0)
  | .list xs => k (!xs.isEmpty)
  | .tuple xs => k (!xs.isEmpty)
  | .none => k false
  | _ => False
/-- changes -/
def appP (w : W) (v : Vl) (x : D) (k : W → Prop) : Prop := getCP w v fun c => match c with
  | .l xs => xs.length < sizeLine ∧ k (w.putC v (.l (xs ++ [x])))
  | _ => False
def popP (w : W) (v : Vl) (k : D → W → Prop) : Prop := getCP w v fun c => match c with
  | .l xs => (match xs[xs.length - 1]? with
    | some y => k y (w.putC v (.l xs.dropLast))
    | none => False)
  | _ => False
def extP (w : W) (v : Vl) (x : D) (k : W → Prop) : Prop := getCP w v fun c => match c, x with
  | .l xs, .list zs => xs.length + zs.length ≤ sizeLine ∧ k (w.putC v (.l (xs ++ zs)))
  | .l xs, .tuple zs => xs.length + zs.length ≤ sizeLine ∧ k (w.putC v (.l (xs ++ zs)))
  | _, _ => False
/-- lists of a list -/
def lstsD : List D → Option (List (List D))
  | [] => some []
  | .list x :: r => (lstsD r).map (x :: ·)
  | _ => none
/-- sum(lists, []) -/
def sumLP (w : W) (vs : List Vl) (k : Vl → Prop) : Prop := match vs with
  | [x, .n (.l [])] => rdP w x fun p => match p with
    | .list ys => optP (lstsD ys) fun zs => zs.flatten.length ≤ sizeLine ∧ k (.n (.l zs.flatten))
    | _ => False
  | _ => False
/-- None in a list of lists and Nones -/
def nlD : D → Bool
  | .none => true | .list _ => true
  | _ => false
def nnD : D → Bool
  | .none => true
  | _ => false
def noneInP (p : D) (k : Bool → Prop) : Prop := match p with
  | .list ys => ys.all nlD = true ∧ k (ys.any nnD)
  | _ => False
def putIxP (w : W) (v : Vl) (i : D) (x : D) (k : W → Prop) : Prop := getCP w v fun c => match c, i with
  | .l xs, .int n => (match ixN xs.length n with
    | some j => k (w.putC v (.l (xs.set j x)))
    | none => False)
  | _, _ => False

/-- a walk over items: before each turn the walked thing must be as it was -/
def walk (same : W → Prop) (body : D → W → (W → Prop) → (W → Prop) → Prop) : List D → W → (W → Prop) → (W → Prop) → Prop
  | [], w, k, _ => same w ∧ k w
  | x :: xs, w, k, b => same w ∧ body x w (fun w' => walk same body xs w' k b) b
/-- the walked thing is as it was -/
def sameAs (v : Vl) (ds : List D) (w : W) : Prop := match v with
  | .a j => w.a[j]? = some (some (.l ds))
  | _ => True
/-- what range gives -/
def rng1D (n : Int) : List D := (List.range n.toNat).map fun (i : Nat) => .int i
def rng2D (i j : Int) : List D := (List.range (j - i).toNat).map fun (n : Nat) => .int (i + n)
/-- a text's signs -/
def signsD (z : Str) : List D := z.cps.toList.map fun c => .str ⟨#[c]⟩
/-- a list or a tuple is walked: an own list is given up, an argument must stay as it is -/
def seqP (w : W) (v : Vl) (k : Vl → List D → W → Prop) : Prop := match v with
  | .a j => (match w.a[j]? with
    | some (some (.l ds)) => k (.a j) ds w
    | _ => False)
  | v => datP w v fun p w1 => match p with
    | .list xs => k (.d p) xs w1
    | .tuple xs => k (.d p) xs w1
    | _ => False
/-- a comprehension's walk: the list made so far -/
def walkC (same : W → Prop) (body : D → W → (Option D → W → Prop) → Prop) : List D → List D → W → (List D → W → Prop) → Prop
  | [], acc, w, k => same w ∧ k acc w
  | x :: xs, acc, w, k => same w ∧ body x w fun o w' => match o with
    | some y => acc.length < sizeLine ∧ walkC same body xs (acc ++ [y]) w' k
    | none => walkC same body xs acc w' k

mutual
def tgP : Tg → D → W → (W → Prop) → Prop
  | .v i, x, w, k => k (w.setR i (.d x))
  | .t ts, x, w, k => (match x with
    | .tuple xs => tgsP ts xs w k
    | _ => False)
def tgsP : Tgs → List D → W → (W → Prop) → Prop
  | .nil, xs, w, k => xs = [] ∧ k w
  | .cons t r, xs, w, k => (match xs with
    | x :: ys => tgP t x w fun w' => tgsP r ys w' k
    | [] => False)
end
/-- the comprehension's own slots: empty or data ahead, and as ahead behind -/
def ownOk (w : W) : List Nat → Prop
  | [] => True
  | i :: r => (match w.r[i]? with
    | some .no => True
    | some (.d _) => True
    | _ => False) ∧ ownOk w r
def wipeW (w : W) : List Nat → W
  | [] => w
  | i :: r => (wipeW w r).setR i .no
def restore (w0 w : W) : List Nat → W
  | [] => w
  | i :: r => (restore w0 w r).setR i (w0.r[i]?.getD .no)

abbrev KV' := Vl → W → Prop
abbrev KX := Exn → W → Prop

mutual
def evE (Γ : Sg) : SE → W → KX → KV' → Prop
  | .v i, w, _, k => varP w i fun v => k v w
  | .k c, w, _, k => k (.d c) w
  | .g x, w, _, k => optP (Γ.con x) fun c => k (.d c) w
  | .fn x, w, _, k => k (.f x) w
  | .bin o a b, w, ex, k => evE Γ a w ex fun x w1 => evE Γ b w1 ex fun y w2 => rdP w2 x fun p => rdP w2 y fun q => binP o p q fun v => k v w2
  | .neg a, w, ex, k => evE Γ a w ex fun x w1 => rdP w1 x fun p => match p with
    | .int i => k (.d (.int (-i))) w1
    | _ => False
  | .cmp o a b, w, ex, k => evE Γ a w ex fun x w1 => evE Γ b w1 ex fun y w2 => rdP w2 x fun p => rdP w2 y fun q => cmpP o p q fun v => k (.d (.bool v)) w2
  | .chain o p a b c, w, ex, k => evE Γ a w ex fun x w1 => evE Γ b w1 ex fun y w2 => rdP w2 x fun x' => rdP w2 y fun y' => cmpP o x' y' fun r =>
      if r = true then evE Γ c w2 ex fun z w3 => rdP w3 y fun y'' => rdP w3 z fun z' => cmpP p y'' z' fun v => k (.d (.bool v)) w3 else k (.d (.bool false)) w2
  | .isN neg a, w, ex, k => evE Γ a w ex fun x w1 => isNP w1 x fun r => k (.d (.bool (neg != r))) w1
  | .isB neg c a, w, ex, k => evE Γ a w ex fun x w1 => rdP w1 x fun p => truP p fun r => k (.d (.bool (neg != decide (r = c)))) w1
  | .and a b, w, ex, k => evE Γ a w ex fun x w1 => rdP w1 x fun p => truP p fun r => if r = true then evE Γ b w1 ex k else k (.d (.bool false)) w1
  | .or a b, w, ex, k => evE Γ a w ex fun x w1 => rdP w1 x fun p => truP p fun r => if r = true then k (.d (.bool true)) w1 else evE Γ b w1 ex k
  | .not a, w, ex, k => evE Γ a w ex fun x w1 => rdP w1 x fun p => truP p fun r => k (.d (.bool (!r))) w1
  | .ife t a b, w, ex, k => evT Γ t w ex fun r w1 => if r = true then evE Γ a w1 ex k else evE Γ b w1 ex k
  | .tup es, w, ex, k => evD Γ es w ex fun xs w1 => xs.length ≤ sizeLine ∧ k (.d (.tuple xs)) w1
  | .lst es, w, ex, k => evD Γ es w ex fun xs w1 => xs.length ≤ sizeLine ∧ k (.n (.l xs)) w1
  | .dic0, w, _, k => k (.n (.m [])) w
  | .dic1 a b, w, ex, k => evE Γ a w ex fun x w1 => evE Γ b w1 ex fun y w2 => rdP w2 x fun p => datP w2 y fun q w3 => match p with
    | .str z => k (.n (.m [(.str z, q)])) w3
    | _ => False
  | .ix a b, w, ex, k => evE Γ a w ex fun x w1 => evE Γ b w1 ex fun y w2 => rdP w2 y fun q => rdP w2 x fun p => ixP p q fun v => k (.d v) w2
  | .zlen i, w, _, k => (match w.r[i]? with
    | some (.z ns) => k (.d (.int (ns.length : Nat))) w
    | _ => False)
  | .zix i b, w, ex, k => (match w.r[i]? with
    | some (.z ns) => evE Γ b w ex fun y w1 => rdP w1 y fun q => intP q fun n => optP (atI ns n) fun m => k (.d (.int m)) w1
    | _ => False)
  | .sl a lo hi, w, ex, k => evE Γ a w ex fun x w1 => evO Γ lo w1 ex fun l w2 => evO Γ hi w2 ex fun h w3 => rdP w3 x fun p => slP p l h fun v => k v w3
  | .rv a, w, ex, k => evE Γ a w ex fun x w1 => rdP w1 x fun p => rvP p fun v => k v w1
  | .call f es, w, ex, k => evA Γ es w ex fun vs w1 => callP Γ f vs w1 ex k
  | .callv i es, w, ex, k => match w.r[i]? with
    | some (.f x) => XCL.contains x = false ∧ evA Γ es w ex fun vs w1 => callP Γ x vs w1 ex k
    | _ => False
  | .bi b es, w, ex, k => evA Γ es w ex fun vs w1 => rdsP w1 vs fun xs => biP b xs fun v => k v w1
  | .app o e, w, ex, k => evE Γ o w ex fun x w1 => lstP w1 x (evE Γ e w1 ex fun v w2 => datP w2 v fun q w3 => appP w3 x q fun w4 => k (.d .none) w4)
  | .pop o, w, ex, k => evE Γ o w ex fun x w1 => lstP w1 x (popP w1 x fun y w2 => k (.d y) w2)
  | .ext o e, w, ex, k => evE Γ o w ex fun x w1 => lstP w1 x (evE Γ e w1 ex fun v w2 => rdP w2 v fun q => extP w2 x q fun w3 => k (.d .none) w3)
  | .join o e, w, ex, k => evE Γ o w ex fun x w1 => rdP w1 x fun p => strP p fun a => evE Γ e w1 ex fun v w2 => rdP w2 v fun q => optP (itemsD q) fun ys => optP (strsD ys) fun zs => mtJoin a zs fun v => k v w2
  | .upper o, w, ex, k => evE Γ o w ex fun x w1 => rdP w1 x fun p => strP p fun a => a.length ≤ 5592405 ∧ k (.d (.str (Txt.upper a))) w1
  | .isx a c, w, ex, k => evE Γ a w ex fun v w1 => isxP v c fun b => k (.d (.bool b)) w1
  | .cnt o e, w, ex, k => evE Γ o w ex fun v w1 => lstP w1 v (evE Γ e w1 ex fun u w2 => rdP w2 v fun p => rdP w2 u fun q => cntP p q fun n => k (.d (.int n)) w2)
  | .idx o e, w, ex, k => evE Γ o w ex fun v w1 => lstP w1 v (evE Γ e w1 ex fun u w2 => rdP w2 v fun p => rdP w2 u fun q => idxP p q fun n => k (.d (.int n)) w2)
  | .sumL es, w, ex, k => evA Γ es w ex fun vs w1 => sumLP w1 vs fun v => k v w1
  | .noneIn a, w, ex, k => evE Γ a w ex fun x w1 => rdP w1 x fun p => noneInP p fun b => k (.d (.bool b)) w1
  | .stuck, _, _, _ => False
  | .lc own e tg it c, w, ex, k => evI Γ it w ex fun v ds w1 => ownOk w1 own ∧
      walkC (sameAs v ds) (fun x w' ky => tgP tg x (wipeW w' own) fun w2 => evC Γ c w2 (fun _ _ => False) fun r w3 =>
        if r = true then evE Γ e w3 (fun _ _ => False) fun y w4 => datP w4 y fun q w5 => ky (some q) (restore w1 w5 own) else ky none (restore w1 w3 own)) ds [] w1 fun acc w' => k (.n (.l acc)) w'
def evT (Γ : Sg) : ST → W → KX → (Bool → W → Prop) → Prop
  | .e a, w, ex, k => evE Γ a w ex fun x w1 => rdP w1 x fun p => truP p fun r => k r w1
  | .tr a, w, ex, k => evE Γ a w ex fun x w1 => rdP w1 x fun p => truA p fun r => k r w1
  | .not a, w, ex, k => evT Γ a w ex fun r w1 => k (!r) w1
  | .and a b, w, ex, k => evT Γ a w ex fun r w1 => if r = true then evT Γ b w1 ex k else k false w1
  | .or a b, w, ex, k => evT Γ a w ex fun r w1 => if r = true then k true w1 else evT Γ b w1 ex k
/-- arguments, from the left -/
def evA (Γ : Sg) : SEs → W → KX → (List Vl → W → Prop) → Prop
  | .nil, w, _, k => k [] w
  | .cons a r, w, ex, k => evE Γ a w ex fun x w1 => evA Γ r w1 ex fun xs w2 => k (x :: xs) w2
/-- items of a display, from the left -/
def evD (Γ : Sg) : SEs → W → KX → (List D → W → Prop) → Prop
  | .nil, w, _, k => k [] w
  | .cons a r, w, ex, k => evE Γ a w ex fun x w1 => datP w1 x fun p w2 => evD Γ r w2 ex fun xs w3 => k (p :: xs) w3
def evO (Γ : Sg) : SO → W → KX → (Option Int → W → Prop) → Prop
  | .no, w, _, k => k none w
  | .so a, w, ex, k => evE Γ a w ex fun x w1 => rdP w1 x fun p => match p with
    | .int i => k (some i) w1
    | _ => False
def evI (Γ : Sg) : SI → W → KX → (Vl → List D → W → Prop) → Prop
  | .seq a, w, ex, k => evE Γ a w ex fun x w1 => seqP w1 x k
  | .str a, w, ex, k => evE Γ a w ex fun x w1 => rdP w1 x fun p => match p with
    | .str z => k (.d p) (signsD z) w1
    | _ => False
  | .rng1 a, w, ex, k => evE Γ a w ex fun x w1 => rdP w1 x fun p => intP p fun n => (-(2 ^ 62) ≤ n ∧ n < 2 ^ 62) ∧ k (.d .none) (rng1D n) w1
  | .rng2 a b, w, ex, k => evE Γ a w ex fun x w1 => evE Γ b w1 ex fun y w2 => rdP w2 x fun p => rdP w2 y fun q => intP p fun i => intP q fun j => (-(2 ^ 62) ≤ i ∧ i < 2 ^ 62 ∧ -(2 ^ 62) ≤ j ∧ j < 2 ^ 62) ∧ k (.d .none) (rng2D i j) w2
  | .enum a, w, ex, k => False
  | .zip a b, w, ex, k => False
def evC (Γ : Sg) : SC → W → KX → (Bool → W → Prop) → Prop
  | .no, w, _, k => k true w
  | .so t, w, ex, k => evT Γ t w ex k
end

structure Ends' where
  nx : W → Prop
  rt : Vl → W → Prop
  bk : W → Prop
  ct : W → Prop
  ex : KX
def tgV (tg : Tg) (v : Vl) (w : W) (k : W → Prop) : Prop := match tg with
  | .v i => bindP w i v k
  | .t ts => rdP w v fun x => tgP (.t ts) x w k
/-- += and -= -/
def augP (o : Bop) (p q : D) (k : D → Prop) : Prop := match p, q with
  | .int m, .int n => (match o with
    | .add => k (.int (m + n))
    | .sub => k (.int (m - n))
    | _ => False)
  | _, _ => False
/-- the ends of an except suite: the exception's name is gone -/
def suiteD (n : Nat) (D : Ends') : Ends' := ⟨fun w2 => D.nx (w2.setR n .no), D.rt, fun w2 => D.bk (w2.setR n .no), fun w2 => D.ct (w2.setR n .no), fun _ _ => False⟩
def tryD (c : Str) (n : Nat) (run : W → Ends' → Prop) (D : Ends') : Ends' := ⟨D.nx, D.rt, D.bk, D.ct, fun e w1 => if subX e.cls c = true then e.arg = .none ∧ run (w1.setR n (.x e)) (suiteD n D) else D.ex e w1⟩
/-- while, by so many turns at most -/
def whileN (c : W → (Bool → W → Prop) → Prop) (b : W → (W → Prop) → Prop) (k : W → Prop) : Nat → W → Prop
  | 0, _ => False
  | n + 1, w => c w fun r w1 => if r = true then b w1 (whileN c b k n) else k w1

mutual
def evS (Γ : Sg) : SS → W → Ends' → Prop
  | .asg tg e, w, D => evE Γ e w D.ex fun v w1 => tgV tg v w1 D.nx
  | .par i j a b, w, D => evE Γ a w D.ex fun x w1 => valP w1 x fun x' w2 => evE Γ b w2 D.ex fun y w3 => valP w3 y fun y' w4 => bindP w4 i x' fun w5 => bindP w5 j y' D.nx
  | .aug i o e, w, D => varP w i fun x => evE Γ e w D.ex fun y w1 => rdP w1 x fun p => rdP w1 y fun q => augP o p q fun z => D.nx (w1.setR i (.d z))
  | .put o i e, w, D => evE Γ e w D.ex fun v w1 => datP w1 v fun x w2 => evE Γ o w2 D.ex fun y w3 => evE Γ i w3 D.ex fun z w4 => rdP w4 z fun q => putIxP w4 y q x D.nx
  | .augIx o i op e, w, D => evE Γ o w D.ex fun x w1 => evE Γ i w1 D.ex fun y w2 => rdP w2 y fun q => intP q fun n => 0 ≤ n ∧ getCP w2 x fun c => rdP w2 (.n c) fun p => ixP p (.int n) fun z => evE Γ e w2 D.ex fun v w3 => rdP w3 v fun u => augP op z u fun r => putIxP w3 x (.int n) r D.nx
  | .ex e, w, D => evE Γ e w D.ex fun _ w1 => D.nx w1
  | .ret e, w, D => evE Γ e w D.ex D.rt
  | .retN, w, D => D.rt (.d .none) w
  | .ite c a b, w, D => evT Γ c w D.ex fun r w1 => if r = true then evSs Γ a w1 D else evSs Γ b w1 D
  | .for tg it b, w, D => evI Γ it w D.ex fun v ds w1 =>
      walk (sameAs v ds) (fun x w' k bk => tgP tg x w' fun w2 => evSs Γ b w2 { D with nx := k, ct := k, bk := bk }) ds w1 D.nx D.nx
  | .whl c b, w, D => ∃ n, whileN (fun w' k => evT Γ c w' D.ex k) (fun w' k => evSs Γ b w' { D with nx := k, ct := k, bk := D.nx }) D.nx n w
  | .pass, w, D => D.nx w
  | .brk, w, D => D.bk w
  | .cont, w, D => D.ct w
  | .rais x, w, D => D.ex ⟨x, .none⟩ w
  | .tryx b c n h, w, D => evSs Γ b w (tryD c n (fun w1 D1 => evSs Γ h w1 D1) D)
  | .stuck, _, _ => False
def evSs (Γ : Sg) : List SS → W → Ends' → Prop
  | [], w, D => D.nx w
  | s :: r, w, D => evS Γ s w { D with nx := fun w' => evSs Γ r w' D }
end

/-- a def of the text: how many slots, what it does -/
structure Df where
  n : Nat
  ps : Nat
  body : List SS
/-- how a def's body ends -/
def dEnds (ags : List Ag) (Q : Rv → List (Option CV) → Prop) (E : Exn → List (Option CV) → Prop) : Ends' :=
  { nx := fun w => shpB ags w.a = true ∧ Q (.d .none) w.a, rt := fun v w => shpB ags w.a = true ∧ optP (rvOf w v) fun r => Q r w.a, bk := fun _ => False, ct := fun _ => False, ex := fun e w => shpB ags w.a = true ∧ E e w.a }
theorem dE_nx (ags : List Ag) (Q : Rv → List (Option CV) → Prop) (E : Exn → List (Option CV) → Prop) (w : W) : (dEnds ags Q E).nx w = (shpB ags w.a = true ∧ Q (.d .none) w.a) := rfl
theorem dE_rt (ags : List Ag) (Q : Rv → List (Option CV) → Prop) (E : Exn → List (Option CV) → Prop) (v : Vl) (w : W) : (dEnds ags Q E).rt v w = (shpB ags w.a = true ∧ optP (rvOf w v) fun r => Q r w.a) := rfl
theorem dE_ex (ags : List Ag) (Q : Rv → List (Option CV) → Prop) (E : Exn → List (Option CV) → Prop) (e : Exn) (w : W) : (dEnds ags Q E).ex e w = (shpB ags w.a = true ∧ E e w.a) := rfl
/-- a def's call -/
def runDf (Γ : Sg) (d : Df) (ags : List Ag) (Q : Rv → List (Option CV) → Prop) (E : Exn → List (Option CV) → Prop) : Prop :=
  ags.length = d.ps ∧ evSs Γ d.body (startW d.n ags) (dEnds ags Q E)
/-- calls at most k deep -/
def sem (T : Str → Option Df) (con : Str → Option D) : Nat → CallT
  | 0, _, _, _, _ => False
  | k + 1, f, ags, Q, E => optP (T f) fun d => runDf ⟨sem T con k, con⟩ d ags Q E
end Lb
/-! ## Lb1 -/
/-! Lb1: how plain data, own things and slots lie in the heap. -/
namespace Lb
open PySem PySem.Spec L2

/-! ### data in the heap. F: the addresses that may still be changed -/
mutual
inductive DR (K : PySem.W.Frag) (H : Hp) (F : Addr → Prop) : V → D → Prop
  | non : DR K H F .non .none
  | bl (b : Bool) : DR K H F (.bl b) (.bool b)
  | int (i : Int) : DR K H F (.int i) (.int i)
  | str (x : Str) (h : x.length ≤ sizeLine) : DR K H F (.str x) (.str x)
  | tup {a : Addr} {vs : List V} {ds : List D} : SqT K H a vs → DRs K H F vs ds → DR K H F (.ref a) (.tuple ds)
  | lst {a : Addr} {vs : List V} {ds : List D} : H a = some (.lst vs) → ¬ F a → DRs K H F vs ds → DR K H F (.ref a) (.list ds)
  | dic {a : Addr} {kvs : List (Key × V)} {ds : List (D × D)} : H a = some (.dK kvs) → ¬ F a → DRk K H F kvs ds → DR K H F (.ref a) (.dict ds)
inductive DRs (K : PySem.W.Frag) (H : Hp) (F : Addr → Prop) : List V → List D → Prop
  | nil : DRs K H F [] []
  | cons {v : V} {vs : List V} {d : D} {ds : List D} : DR K H F v d → DRs K H F vs ds → DRs K H F (v :: vs) (d :: ds)
inductive DRk (K : PySem.W.Frag) (H : Hp) (F : Addr → Prop) : List (Key × V) → List (D × D) → Prop
  | nil : DRk K H F [] []
  | str {x : Str} {v : V} {kvs : List (Key × V)} {d : D} {ds : List (D × D)} : x.length ≤ sizeLine → DR K H F v d → DRk K H F kvs ds → DRk K H F ((.inr x, v) :: kvs) ((.str x, d) :: ds)
  | int {i : Int} {v : V} {kvs : List (Key × V)} {d : D} {ds : List (D × D)} : DR K H F v d → DRk K H F kvs ds → DRk K H F ((.inl i, v) :: kvs) ((.int i, d) :: ds)
end
/-- what a changeable thing holds, at its address -/
inductive CR (K : PySem.W.Frag) (H : Hp) (F : Addr → Prop) : Addr → CV → Prop
  | l {a : Addr} {vs : List V} {ds : List D} : H a = some (.lst vs) → DRs K H F vs ds → CR K H F a (.l ds)
  | m {a : Addr} {kvs : List (Key × V)} {ds : List (D × D)} : H a = some (.dK kvs) → DRk K H F kvs ds → CR K H F a (.m ds)

/-- an exception of the class cls at a -/
def XO (cls : Value) (a : Addr) : HO := .ext fun h => ∃ (oe : Obj) (vs : Array Value), h.get? a = some oe ∧ oe.cls = cls ∧ oe.dict = none ∧ oe.data = .fields vs
/-- what stands stays, but at M -/
def Stay (M : Addr → Prop) (H H' : Hp) : Prop := ∀ b o, H b = some o → ¬ M b → H' b = some o
/-- M holds changeable things alone -/
def MutAt (M : Addr → Prop) (H : Hp) : Prop := ∀ b, M b → (∃ vs, H b = some (.lst vs)) ∨ ∃ kvs, H b = some (.dK kvs)

section
variable {K : PySem.W.Frag} {H H' : Hp} {M F F' : Addr → Prop}
theorem Stay.sqT (s : Stay M H H') (m : MutAt M H) {a : Addr} {vs : List V} (h : SqT K H a vs) : SqT K H' a vs := by
  have no : ∀ o, H a = some o → (∀ ws, o ≠ .lst ws) → (∀ kvs, o ≠ .dK kvs) → ¬ M a := fun o e n1 n2 hm => by
    rcases m a hm with ⟨ws, q⟩ | ⟨kvs, q⟩
    · rw [e] at q; exact n1 ws (Option.some.inj q)
    · rw [e] at q; exact n2 kvs (Option.some.inj q)
  rcases h with (h | ⟨o, h⟩) | h
  · exact .inl (.inl (s _ _ h (no _ h (fun _ z => by cases z) fun _ z => by cases z)))
  · exact .inl (.inr ⟨o, s _ _ h (no _ h (fun _ z => by cases z) fun _ z => by cases z)⟩)
  · exact .inr h
theorem Stay.frz (s : Stay M H H') (m : MutAt M H) {a : Addr} {o : Obj} {u : HO} (h : H a = some (.frz o u)) : H' a = some (.frz o u) := by
  refine s _ _ h fun hm => ?_
  rcases m a hm with ⟨ws, q⟩ | ⟨kvs, q⟩
  · rw [h] at q; cases q
  · rw [h] at q; cases q
theorem Stay.ext (s : Stay M H H') (m : MutAt M H) {a : Addr} {c : Value} (h : H a = some (XO c a)) : H' a = some (XO c a) := by
  refine s _ _ h fun hm => ?_
  rcases m a hm with ⟨ws, q⟩ | ⟨kvs, q⟩
  · rw [h] at q; cases q
  · rw [h] at q; cases q
theorem Stay.frzL (s : Stay M H H') (m : MutAt M H) {a : Addr} {vs : List V} (h : (∃ o, H a = some (.frz o (.lst vs))) ∨ (∃ (o : Obj) (its : Array Value) (n : Nat), K.lookup a = some o ∧ o.cls = .type "list" ∧ o.dict = none ∧ o.data = .seq its n ∧ its.size ≤ sizeLine ∧ Vals vs its.toList)) :
    (∃ o, H' a = some (.frz o (.lst vs))) ∨ (∃ (o : Obj) (its : Array Value) (n : Nat), K.lookup a = some o ∧ o.cls = .type "list" ∧ o.dict = none ∧ o.data = .seq its n ∧ its.size ≤ sizeLine ∧ Vals vs its.toList) := by
  rcases h with ⟨o, h⟩ | h
  · exact .inl ⟨o, s.frz m h⟩
  · exact .inr h
mutual
theorem DR.step (s : Stay M H H') (m : MutAt M H) (hM : ∀ b, M b → F b) (hF : ∀ b, F' b → F b ∨ H b = none) : ∀ {v : V} {d : D}, DR K H F v d → DR K H' F' v d
  | _, _, .non => .non
  | _, _, .bl b => .bl b
  | _, _, .int i => .int i
  | _, _, .str x h => .str x h
  | _, _, .tup h r => .tup (s.sqT m h) (DRs.step s m hM hF r)
  | _, _, .lst h n r => .lst (s _ _ h fun q => n (hM _ q)) (fun q => (hF _ q).elim n fun z => by rw [h] at z; cases z) (DRs.step s m hM hF r)
  | _, _, .dic h n r => .dic (s _ _ h fun q => n (hM _ q)) (fun q => (hF _ q).elim n fun z => by rw [h] at z; cases z) (DRk.step s m hM hF r)
theorem DRs.step (s : Stay M H H') (m : MutAt M H) (hM : ∀ b, M b → F b) (hF : ∀ b, F' b → F b ∨ H b = none) : ∀ {vs : List V} {ds : List D}, DRs K H F vs ds → DRs K H' F' vs ds
  | _, _, .nil => .nil
  | _, _, .cons r t => .cons (DR.step s m hM hF r) (DRs.step s m hM hF t)
theorem DRk.step (s : Stay M H H') (m : MutAt M H) (hM : ∀ b, M b → F b) (hF : ∀ b, F' b → F b ∨ H b = none) : ∀ {vs : List (Key × V)} {ds : List (D × D)}, DRk K H F vs ds → DRk K H' F' vs ds
  | _, _, .nil => .nil
  | _, _, .str x r t => .str x (DR.step s m hM hF r) (DRk.step s m hM hF t)
  | _, _, .int r t => .int (DR.step s m hM hF r) (DRk.step s m hM hF t)
end
theorem CR.step (s : Stay M H H') (m : MutAt M H) (hM : ∀ b, M b → F b) (hF : ∀ b, F' b → F b ∨ H b = none) {a : Addr} {c : CV} (na : ¬ M a) : CR K H F a c → CR K H' F' a c
  | .l h r => .l (s _ _ h na) (r.step s m hM hF)
  | .m h r => .m (s _ _ h na) (r.step s m hM hF)
theorem CR.mut {a : Addr} {c : CV} : CR K H F a c → (∃ vs, H a = some (.lst vs)) ∨ ∃ kvs, H a = some (.dK kvs)
  | .l h _ => .inl ⟨_, h⟩
  | .m h _ => .inr ⟨_, h⟩
theorem CR.some {a : Addr} {c : CV} (r : CR K H F a c) : H a ≠ none := by
  rcases r.mut with ⟨_, e⟩ | ⟨_, e⟩ <;> (rw [e]; exact fun z => by cases z)
theorem CR.dat {a : Addr} {c : CV} (r : CR K H F a c) (n : ¬ F a) : DR K H F (.ref a) c.dat := by
  cases r with
  | l h r => exact .lst h n r
  | m h r => exact .dic h n r
theorem Stay.refl : Stay M H H := fun _ _ e _ => e
theorem Stay.upd {M : Addr → Prop} {H : Hp} {a : Addr} {o : HO} (h : H a = none) : Stay M H (upd H a o) := fun b u e _ => by
  rw [upd_ne (ne_of_none e h)]; exact e
theorem Stay.put {M : Addr → Prop} {H : Hp} {a : Addr} {o : HO} (h : M a) : Stay M H (L2.upd H a o) := fun b u e n => by
  have ne : b ≠ a := fun z => n (by rw [z]; exact h)
  rw [L2.upd_ne ne]; exact e
theorem DRs.length : ∀ {vs : List V} {ds : List D}, DRs K H F vs ds → vs.length = ds.length
  | _, _, .nil => rfl
  | _, _, .cons _ t => congrArg (· + 1) t.length
theorem DRs.get : ∀ {vs : List V} {ds : List D} {i : Nat} {d : D}, DRs K H F vs ds → ds[i]? = some d → ∃ v, vs[i]? = some v ∧ DR K H F v d
  | _, _, _, _, .nil, e => by simp at e
  | _, _, 0, _, .cons r _, e => by simp at e; subst e; exact ⟨_, rfl, r⟩
  | _, _, i + 1, _, .cons _ t, e => by
    obtain ⟨v, h1, h2⟩ := t.get (i := i) (by simpa using e)
    exact ⟨v, by simpa using h1, h2⟩
theorem DRs.get' : ∀ {vs : List V} {ds : List D} {i : Nat} {v : V}, DRs K H F vs ds → vs[i]? = some v → ∃ d, ds[i]? = some d ∧ DR K H F v d
  | _, _, _, _, .nil, e => by simp at e
  | _, _, 0, _, .cons r _, e => by simp at e; subst e; exact ⟨_, rfl, r⟩
  | _, _, i + 1, _, .cons _ t, e => by
    obtain ⟨v, h1, h2⟩ := t.get' (i := i) (by simpa using e)
    exact ⟨v, by simpa using h1, h2⟩
theorem DRs.append : ∀ {vs ws : List V} {ds es : List D}, DRs K H F vs ds → DRs K H F ws es → DRs K H F (vs ++ ws) (ds ++ es)
  | _, _, _, _, .nil, s => s
  | _, _, _, _, .cons r t, s => .cons r (t.append s)
theorem DRs.drop : ∀ {vs : List V} {ds : List D} (n : Nat), DRs K H F vs ds → DRs K H F (vs.drop n) (ds.drop n)
  | _, _, 0, r => r
  | _, _, _ + 1, .nil => .nil
  | _, _, n + 1, .cons _ t => t.drop n
theorem DRs.take : ∀ {vs : List V} {ds : List D} (n : Nat), DRs K H F vs ds → DRs K H F (vs.take n) (ds.take n)
  | _, _, 0, _ => .nil
  | _, _, _ + 1, .nil => .nil
  | _, _, n + 1, .cons r t => .cons r (t.take n)
theorem DRs.reverse {vs : List V} {ds : List D} (h : DRs K H F vs ds) : DRs K H F vs.reverse ds.reverse := by
  induction vs generalizing ds with
  | nil => cases h; exact .nil
  | cons v vs ih =>
    cases h with
    | cons r t =>
      rw [List.reverse_cons, List.reverse_cons]
      exact (ih t).append (.cons r .nil)
theorem DRs.set : ∀ {vs : List V} {ds : List D} {v : V} {d : D} (i : Nat), DR K H F v d → DRs K H F vs ds → DRs K H F (vs.set i v) (ds.set i d)
  | _, _, _, _, _, _, .nil => .nil
  | _, _, _, _, 0, q, .cons _ t => .cons q t
  | _, _, _, _, i + 1, q, .cons r t => .cons r (t.set i q)
theorem DRs.rep {vs : List V} {ds : List D} (h : DRs K H F vs ds) : ∀ n : Nat, DRs K H F (List.replicate n vs).flatten (List.replicate n ds).flatten
  | 0 => .nil
  | n + 1 => by
    rw [List.replicate_succ, List.replicate_succ, List.flatten_cons, List.flatten_cons]
    exact h.append (h.rep n)
theorem DRs.dropLast {vs : List V} {ds : List D} (h : DRs K H F vs ds) : DRs K H F vs.dropLast ds.dropLast := by
  rw [List.dropLast_eq_take, List.dropLast_eq_take, h.length]
  exact h.take _
/-- data do not lie where a new thing is laid -/
theorem DR.weak {v : V} {d : D} (h : DR K H F v d) (hF : ∀ b, F' b → F b) : DR K H F' v d := h.step (M := fun _ => False) Stay.refl (fun _ z => z.elim) (fun _ z => z.elim) fun b q => .inl (hF b q)
theorem CR.weak {a : Addr} {c : CV} (h : CR K H F a c) (hF : ∀ b, F' b → F b) : CR K H F' a c := h.step (M := fun _ => False) Stay.refl (fun _ z => z.elim) (fun _ z => z.elim) (fun b q => .inl (hF b q)) id
end

/-! ### the frame: what a def was handed (mv), the heap at its entry (H0) -/
structure Fp where
  /-- defs by name: where they stand -/
  fa : Str → Option Addr
  mv : List V
  H0 : Hp

/-- slot i holds an own thing at b -/
def OwnAt (w : W) (σ : L2.St) (b : Addr) : Prop := ∃ (i : Nat) (c : CV), w.r[i]? = some (Sl.o c) ∧ σ[i]? = some (some (V.ref b))
/-- a changeable argument lies at b -/
def ArgAt (fp : Fp) (w : W) (b : Addr) : Prop := ∃ (j : Nat) (c : CV), w.a[j]? = some (some c) ∧ fp.mv[j]? = some (V.ref b)
def MA (fp : Fp) (w : W) (σ : L2.St) (b : Addr) : Prop := OwnAt w σ b ∨ ArgAt fp w b
def FA (fp : Fp) (L : Addr → Prop) (w : W) (σ : L2.St) (b : Addr) : Prop := L b ∨ MA fp w σ b

def SlR (K : PySem.W.Frag) (fp : Fp) (H : Hp) (F : Addr → Prop) (w : W) : Sl → Option (Option V) → Prop
  | .no, _ => True
  | .d x, o => ∃ v, o = some (some v) ∧ DR K H F v x
  | .o c, o => ∃ b, o = some (some (.ref b)) ∧ CR K H F b c ∧ fp.H0 b = none
  | .a j, o => ∃ b c, o = some (some (.ref b)) ∧ fp.mv[j]? = some (V.ref b) ∧ w.a[j]? = some (some c)
  | .f x, o => ∃ b, o = some (some (.ref b)) ∧ fp.fa x = some b
  | .x e, o => ∃ b C, o = some (some (.ref b)) ∧ fp.fa e.cls = some C ∧ H b = some (XO (.ref C) b)
  | .z ns, o => ∃ b, o = some (some (.ref b)) ∧ ns.length ≤ sizeLine ∧ ((∃ ob, H b = some (.frz ob (.lst (ns.map V.int)))) ∨
      (∃ (ob : Obj) (its : Array Value) (n : Nat), K.lookup b = some ob ∧ ob.cls = .type "list" ∧ ob.dict = none ∧ ob.data = .seq its n ∧ its.size ≤ sizeLine ∧ Vals (ns.map V.int) its.toList))

/-- the state in the heap. L: what others may still change -/
structure SR (K : PySem.W.Frag) (fp : Fp) (L : Addr → Prop) (w : W) (σ : L2.St) (H : Hp) : Prop where
  len : w.r.length = σ.length
  slot : ∀ (i : Nat) (s : Sl), w.r[i]? = some s → SlR K fp H (FA fp L w σ) w s σ[i]?
  arg : ∀ (j : Nat) (c : CV), w.a[j]? = some (some c) → ∃ b, fp.mv[j]? = some (V.ref b) ∧ CR K H (FA fp L w σ) b c ∧ fp.H0 b ≠ none
  ownI : ∀ (i i' : Nat) (b : Addr) (c c' : CV), w.r[i]? = some (Sl.o c) → σ[i]? = some (some (V.ref b)) → w.r[i']? = some (Sl.o c') → σ[i']? = some (some (V.ref b)) → i = i'
  argI : ∀ (j j' : Nat) (b : Addr) (c c' : CV), w.a[j]? = some (some c) → fp.mv[j]? = some (V.ref b) → w.a[j']? = some (some c') → fp.mv[j']? = some (V.ref b) → j = j'
  dis : ∀ b, MA fp w σ b → ¬ L b
  tr : ∀ b, L b → H b ≠ none
  keep : ∀ b o, fp.H0 b = some o → ¬ ArgAt fp w b → H b = some o
section
variable {K : PySem.W.Frag} {fp : Fp} {L L' : Addr → Prop} {w w' : W} {σ : L2.St} {H H' : Hp}
theorem SR.mut (S : SR K fp L w σ H) : MutAt (MA fp w σ) H := fun b hb => by
  rcases hb with ⟨i, c, h1, h2⟩ | ⟨j, c, h1, h2⟩
  · obtain ⟨b', e, r, _⟩ := S.slot i _ h1
    rw [h2] at e
    cases e
    exact r.mut
  · obtain ⟨b', e, r, _⟩ := S.arg j c h1
    rw [h2] at e
    cases e
    exact r.mut
theorem SR.mtr (S : SR K fp L w σ H) {b : Addr} (hb : MA fp w σ b) : H b ≠ none := by
  rcases S.mut b hb with ⟨_, e⟩ | ⟨_, e⟩ <;> (rw [e]; exact fun z => by cases z)
theorem SR.ftr (S : SR K fp L w σ H) {b : Addr} (hb : FA fp L w σ b) : H b ≠ none := hb.elim (S.tr b) S.mtr
/-- the heap goes on, nothing of ours changed; L may grow by what is new, or shrink -/
theorem SR.more (S : SR K fp L w σ H) (s : Stay (fun _ => False) H H') (hL : ∀ b, L' b → L b ∨ H b = none) (ht : ∀ b, L' b → H' b ≠ none) : SR K fp L' w σ H' := by
  have fF : ∀ b, FA fp L' w σ b → FA fp L w σ b ∨ H b = none := fun b hb => hb.elim (fun z => (hL b z).elim (fun q => .inl (.inl q)) .inr) fun z => .inl (.inr z)
  have m0 : MutAt (fun _ => False) H := fun _ z => z.elim
  have st : ∀ b o, H b = some o → H' b = some o := fun b o e => s b o e fun z => z
  refine ⟨S.len, fun i sl e => ?_, fun j c e => ?_, S.ownI, S.argI, fun b hb hl => ?_, ht, fun b o e n => st b o (S.keep b o e n)⟩
  · have q := S.slot i sl e
    cases sl with
    | no => trivial
    | d x => obtain ⟨v, e1, r⟩ := q; exact ⟨v, e1, r.step s m0 (fun _ z => z.elim) fF⟩
    | o c => obtain ⟨b, e1, r, n⟩ := q; exact ⟨b, e1, r.step s m0 (fun _ z => z.elim) fF id, n⟩
    | a j => exact q
    | f x => exact q
    | z ns => obtain ⟨b, e1, z, r⟩ := q; exact ⟨b, e1, z, s.frzL m0 r⟩
    | x e => obtain ⟨b, C, e1, z, r⟩ := q; exact ⟨b, C, e1, z, s.ext m0 r⟩
  · obtain ⟨b, e1, r, n⟩ := S.arg j c e
    exact ⟨b, e1, r.step s m0 (fun _ z => z.elim) fF id, n⟩
  · rcases hL b hl with z | z
    · exact S.dis b hb z
    · exact S.mtr hb z
theorem SR.weak (S : SR K fp L w σ H) (hL : ∀ b, L' b → L b) : SR K fp L' w σ H := S.more Stay.refl (fun b z => .inl (hL b z)) fun b z => S.tr b (hL b z)
end

/-- from one point of an expression to a later one -/
structure Nx (fp : Fp) (σ : L2.St) (L : Addr → Prop) (w : W) (H : Hp) (L' : Addr → Prop) (w' : W) (H' : Hp) : Prop where
  st : Stay (MA fp w σ) H H'
  ma : ∀ b, MA fp w' σ b → MA fp w σ b
  up : ∀ b, L b → L' b
  nw : ∀ b, L' b → L b ∨ H b = none
  ke : ∀ b, H b ≠ none → H' b ≠ none
theorem Nx.refl {fp : Fp} {σ : L2.St} {L : Addr → Prop} {w : W} {H : Hp} : Nx fp σ L w H L w H := ⟨Stay.refl, fun _ z => z, fun _ z => z, fun _ z => .inl z, fun _ z => z⟩
theorem Nx.trans {fp : Fp} {σ : L2.St} {L L1 L2 : Addr → Prop} {w w1 w2 : W} {H H1 H2 : Hp} (a : Nx fp σ L w H L1 w1 H1) (b : Nx fp σ L1 w1 H1 L2 w2 H2) : Nx fp σ L w H L2 w2 H2 := by
  refine ⟨fun c o e n => b.st c o (a.st c o e n) fun z => n (a.ma c z), fun c z => a.ma c (b.ma c z), fun c z => b.up c (a.up c z), fun c z => ?_, fun c z => b.ke c (a.ke c z)⟩
  rcases b.nw c z with q | q
  · exact a.nw c q
  · refine .inr ?_
    cases e : H c with
    | none => rfl
    | some o => exact absurd q (a.ke c (by rw [e]; exact fun z => by cases z))
/-- a new thing is laid at p and held back -/
def withA (L : Addr → Prop) (p : Addr) : Addr → Prop := fun b => L b ∨ b = p
theorem Nx.laid {fp : Fp} {σ : L2.St} {L : Addr → Prop} {w : W} {H : Hp} {p : Addr} {o : HO} (hp : H p = none) : Nx fp σ L w H (withA L p) w (upd H p o) :=
  ⟨Stay.upd hp, fun _ z => z, fun _ z => .inl z, fun b z => z.elim .inl fun e => .inr (by rw [e]; exact hp), fun b z => by
    by_cases e : b = p
    · rw [e, upd_same]; exact fun z => by cases z
    · rw [upd_ne e]; exact z⟩
/-- the same, not held back -/
theorem Nx.laid0 {fp : Fp} {σ : L2.St} {L : Addr → Prop} {w : W} {H : Hp} {p : Addr} {o : HO} (hp : H p = none) : Nx fp σ L w H L w (upd H p o) :=
  ⟨Stay.upd hp, fun _ z => z, fun _ z => z, fun b z => .inl z, fun b z => by
    by_cases e : b = p
    · rw [e, upd_same]; exact fun z => by cases z
    · rw [upd_ne e]; exact z⟩
section
variable {K : PySem.W.Frag} {fp : Fp} {L L' : Addr → Prop} {w w' : W} {σ : L2.St} {H H' : Hp}
theorem SR.laid (S : SR K fp L w σ H) {p : Addr} {o : HO} (hp : H p = none) : SR K fp (withA L p) w σ (upd H p o) := by
  refine S.more (Stay.upd hp) (fun b z => z.elim .inl fun e => .inr (by rw [e]; exact hp)) fun b z => ?_
  by_cases e : b = p
  · rw [e, upd_same]; exact fun z => by cases z
  · rw [upd_ne e]; exact z.elim (S.tr b) fun q => absurd q e
theorem SR.laid0 (S : SR K fp L w σ H) {p : Addr} {o : HO} (hp : H p = none) : SR K fp L w σ (upd H p o) := (S.laid hp).weak fun _ z => .inl z

/-- a value at a point -/
def VR (K : PySem.W.Frag) (fp : Fp) (L : Addr → Prop) (w : W) (σ : L2.St) (H : Hp) : Vl → V → Prop
  | .d x, v => DR K H (FA fp L w σ) v x
  | .n c, v => ∃ b, v = .ref b ∧ L b ∧ CR K H (FA fp L w σ) b c
  | .s i, v => σ[i]? = some (some v)
  | .a j, v => fp.mv[j]? = some v
  | .f x, v => ∃ b, v = .ref b ∧ fp.fa x = some b
  | .x e, v => ∃ b C, v = .ref b ∧ fp.fa e.cls = some C ∧ H b = some (XO (.ref C) b)
  | .z ns, v => ∃ b, v = .ref b ∧ ns.length ≤ sizeLine ∧ ((∃ ob, H b = some (.frz ob (.lst (ns.map V.int)))) ∨
      (∃ (ob : Obj) (its : Array Value) (n : Nat), K.lookup b = some ob ∧ ob.cls = .type "list" ∧ ob.dict = none ∧ ob.data = .seq its n ∧ its.size ≤ sizeLine ∧ Vals (ns.map V.int) its.toList))
theorem Nx.fa (n : Nx fp σ L w H L' w' H') : ∀ b, FA fp L' w' σ b → FA fp L w σ b ∨ H b = none := fun b z => z.elim (fun q => (n.nw b q).elim (fun r => .inl (.inl r)) .inr) fun q => .inl (.inr (n.ma b q))
theorem VR.next (S : SR K fp L w σ H) (n : Nx fp σ L w H L' w' H') : ∀ {v : Vl} {x : V}, VR K fp L w σ H v x → VR K fp L' w' σ H' v x
  | .d _, _, h => DR.step n.st S.mut (fun _ z => .inr z) n.fa h
  | .n _, _, ⟨b, e, l, c⟩ => ⟨b, e, n.up b l, c.step n.st S.mut (fun _ z => .inr z) n.fa fun z => S.dis b z l⟩
  | .s _, _, h => h
  | .a _, _, h => h
  | .f _, _, h => h
  | .z _, _, ⟨b, e, z, h⟩ => ⟨b, e, z, n.st.frzL S.mut h⟩
  | .x _, _, ⟨b, C, e, z, h⟩ => ⟨b, C, e, z, n.st.ext S.mut h⟩

/-- what a value reads as, in the heap -/
inductive TR (K : PySem.W.Frag) (H : Hp) (F : Addr → Prop) : V → D → Prop
  | d {v : V} {x : D} : DR K H F v x → TR K H F v x
  | c {b : Addr} {c : CV} : CR K H F b c → TR K H F (.ref b) c.dat
theorem VR.rd (S : SR K fp L w σ H) : ∀ {v : Vl} {x : V} {d : D}, VR K fp L w σ H v x → rd w v = some d → TR K H (FA fp L w σ) x d
  | .d _, _, _, h, e => by cases e; exact .d h
  | .n c, _, _, ⟨b, e1, _, r⟩, e => by cases e; subst e1; exact .c r
  | .s i, x, d, h, e => by
    have h : σ[i]? = some (some x) := h
    have e : slotDat w.r[i]? = some d := e
    cases q : w.r[i]? with
    | none => rw [q] at e; cases e
    | some sl =>
      rw [q] at e
      cases sl with
      | d y =>
        cases e
        obtain ⟨v, e1, r⟩ := S.slot i _ q
        rw [h] at e1; cases e1
        exact .d r
      | o c =>
        cases e
        obtain ⟨b, e1, r, _⟩ := S.slot i _ q
        rw [h] at e1; cases e1
        exact .c r
      | _ => cases e
  | .a j, x, d, h, e => by
    have h : fp.mv[j]? = some x := h
    have e : argDat w.a[j]? = some d := e
    cases q : w.a[j]? with
    | none => rw [q] at e; cases e
    | some o =>
      rw [q] at e
      cases o with
      | none => cases e
      | some c =>
        cases e
        obtain ⟨b, e1, r, _⟩ := S.arg j c q
        rw [h] at e1; cases e1
        exact .c r
  | .f _, _, _, _, e => by cases e
  | .z _, _, _, _, e => by cases e
  | .x _, _, _, _, e => by cases e
end
section
variable {K : PySem.W.Frag} {H : Hp} {F : Addr → Prop}
theorem TR.int {v : V} {i : Int} (h : TR K H F v (.int i)) : v = .int i := by
  generalize e : (PyData.int i : D) = d at h
  cases h with
  | d h => subst e; cases h; rfl
  | @c b c _ => cases c <;> cases e
theorem TR.bool {v : V} {i : Bool} (h : TR K H F v (.bool i)) : v = .bl i := by
  generalize e : (PyData.bool i : D) = d at h
  cases h with
  | d h => subst e; cases h; rfl
  | @c b c _ => cases c <;> cases e
theorem TR.none {v : V} (h : TR K H F v .none) : v = .non := by
  generalize e : (PyData.none : D) = d at h
  cases h with
  | d h => subst e; cases h; rfl
  | @c b c _ => cases c <;> cases e
theorem TR.str {v : V} {i : Str} (h : TR K H F v (.str i)) : v = .str i ∧ i.length ≤ sizeLine := by
  generalize e : (PyData.str i : D) = d at h
  cases h with
  | d h => subst e; cases h with | str _ z => exact ⟨rfl, z⟩
  | @c b c _ => cases c <;> cases e
theorem TR.tup {v : V} {ds : List D} (h : TR K H F v (.tuple ds)) : ∃ b vs, v = .ref b ∧ SqT K H b vs ∧ DRs K H F vs ds := by
  generalize e : (PyData.tuple ds : D) = d at h
  cases h with
  | d h => subst e; cases h with | tup a r => exact ⟨_, _, rfl, a, r⟩
  | @c b c _ => cases c <;> cases e
theorem TR.lst {v : V} {ds : List D} (h : TR K H F v (.list ds)) : ∃ b vs, v = .ref b ∧ H b = some (.lst vs) ∧ DRs K H F vs ds := by
  generalize e : (PyData.list ds : D) = d at h
  cases h with
  | d h => subst e; cases h with | lst a n r => exact ⟨_, _, rfl, a, r⟩
  | @c b c r => cases r with
    | l a r => cases e; exact ⟨_, _, rfl, a, r⟩
    | m a r => cases e
theorem TR.dic {v : V} {ds : List (D × D)} (h : TR K H F v (.dict ds)) : ∃ b kvs, v = .ref b ∧ H b = some (.dK kvs) ∧ DRk K H F kvs ds := by
  generalize e : (PyData.dict ds : D) = d at h
  cases h with
  | d h => subst e; cases h with | dic a n r => exact ⟨_, _, rfl, a, r⟩
  | @c b c r => cases r with
    | m a r => cases e; exact ⟨_, _, rfl, a, r⟩
    | l a r => cases e
end
theorem rdP_some {w : W} {v : Vl} {k : D → Prop} (h : rdP w v k) : ∃ x, rd w v = some x ∧ k x := by
  unfold rdP at h
  cases e : rd w v with
  | none => rw [e] at h; exact h.elim
  | some x => rw [e] at h; exact ⟨x, rfl, h⟩
theorem optP_some {α : Type} {o : Option α} {k : α → Prop} (h : optP o k) : ∃ x, o = some x ∧ k x := by
  cases o with
  | none => exact False.elim h
  | some x => exact ⟨x, rfl, h⟩
end Lb
/-! ## Lb2 -/
/-! Lb2: the rules of expressions: a piece of the text's syntax does what its compact word says. -/
namespace Lb
open PySem PySem.Spec L2

/-- an exception's class and own dict, by what it is -/
def XR (fp : Fp) (H : Hp) (e : Exn) (c : Value) (dd : Option Addr) : Prop := ∃ C, fp.fa e.cls = some C ∧ c = .ref C ∧ e.cls ∈ XCL ∧ (e.arg = .none → dd = none)
/-! ### from statement to statement -/
abbrev Stt := L2.St
/-- from one point between statements to a later one -/
structure NxS (fp : Fp) (w : W) (σ : L2.St) (H : Hp) (w' : W) (σ' : L2.St) (H' : Hp) : Prop where
  st : Stay (MA fp w σ) H H'
  ma : ∀ b, MA fp w' σ' b → MA fp w σ b ∨ H b = none
  ke : ∀ b, H b ≠ none → H' b ≠ none
section
variable {K : PySem.W.Frag} {fp : Fp} {L L' L1 : Addr → Prop} {w w' w1 : W} {σ σ' σ1 : L2.St} {H H' H1 : Hp}
theorem NxS.refl : NxS fp w σ H w σ H := ⟨Stay.refl, fun _ z => .inl z, fun _ z => z⟩
theorem NxS.trans (a : NxS fp w σ H w1 σ1 H1) (b : NxS fp w1 σ1 H1 w' σ' H') : NxS fp w σ H w' σ' H' := by
  refine ⟨fun c o e n => ?_, fun c z => ?_, fun c z => b.ke c (a.ke c z)⟩
  · refine b.st c o (a.st c o e n) fun z => ?_
    rcases a.ma c z with q | q
    · exact n q
    · rw [e] at q; cases q
  · rcases b.ma c z with q | q
    · exact a.ma c q
    · refine .inr ?_
      cases e : H c with
      | none => rfl
      | some o => exact absurd q (a.ke c (by rw [e]; exact fun z => by cases z))
theorem Nx.s (n : Nx fp σ L w H L' w' H') : NxS fp w σ H w' σ H' := ⟨n.st, fun b z => .inl (n.ma b z), n.ke⟩
end
/-- what is wished for exceptions, in the heap -/
def EC (K : PySem.W.Frag) (fp : Fp) (L : Addr → Prop) (w : W) (σ : L2.St) (H : Hp) (Wx : WX) (ex : KX) : Prop := ∀ (e : Exn) (w' : W) (σ' : L2.St) (H' : Hp) (c : Value) (dd : Option Addr), ex e w' → SR K fp L w' σ' H' → NxS fp w σ H w' σ' H' → XR fp H' e c dd → Wx c dd σ' H'
theorem EC.sh {K : PySem.W.Frag} {fp : Fp} {L L1 : Addr → Prop} {w w1 : W} {σ σ1 : L2.St} {H H1 : Hp} {Wx : WX} {ex : KX} (ec : EC K fp L w σ H Wx ex) (up : ∀ b, L b → L1 b) (n : NxS fp w σ H w1 σ1 H1) : EC K fp L1 w1 σ1 H1 Wx ex :=
  fun e w' σ' H' c dd h S n' x => ec e w' σ' H' c dd h (S.weak up) (n.trans n') x
theorem EC.nx {K : PySem.W.Frag} {fp : Fp} {L L1 : Addr → Prop} {w w1 : W} {σ : L2.St} {H H1 : Hp} {Wx : WX} {ex : KX} (ec : EC K fp L w σ H Wx ex) (n : Nx fp σ L w H L1 w1 H1) : EC K fp L1 w1 σ H1 Wx ex := ec.sh n.up n.s
/-- a new thing is nobody's -/
def NF (L : Addr → Prop) : Vl → V → Prop
  | .n _, v => ∀ b, v = .ref b → ¬ L b
  | _, _ => True
theorem NF.anti {L L' : Addr → Prop} (h : ∀ b, L b → L' b) : ∀ {v : Vl} {x : V}, NF L' v x → NF L v x
  | .n _, _, q => fun b e z => q b e (h b z)
  | .d _, _, _ => trivial
  | .s _, _, _ => trivial
  | .a _, _, _ => trivial
  | .f _, _, _ => trivial
  | .z _, _, _ => trivial
  | .x _, _, _ => trivial
def EPst (K : PySem.W.Frag) (fp : Fp) (σ : L2.St) (L : Addr → Prop) (w : W) (H : Hp) (k : KV') (Q : VK) : Prop :=
  ∀ (v : Vl) (w' : W) (x : V) (L' : Addr → Prop) (H' : Hp), k v w' → SR K fp L' w' σ H' → Nx fp σ L w H L' w' H' → VR K fp L' w' σ H' v x → NF L v x → Q x H'
def tE (K : PySem.W.Frag) (Γ : Sg) (fp : Fp) (Wx : WX) (e : SE) : TE := fun σ H Q => ∃ (L : Addr → Prop) (w : W) (ex : KX) (k : KV'), SR K fp L w σ H ∧ EC K fp L w σ H Wx ex ∧ evE Γ e w ex k ∧ EPst K fp σ L w H k Q
def BPst (K : PySem.W.Frag) (fp : Fp) (σ : L2.St) (L : Addr → Prop) (w : W) (H : Hp) (k : Bool → W → Prop) (Q : Bool → Hp → Prop) : Prop :=
  ∀ (v : Bool) (w' : W) (L' : Addr → Prop) (H' : Hp), k v w' → SR K fp L' w' σ H' → Nx fp σ L w H L' w' H' → Q v H'
def tT (K : PySem.W.Frag) (Γ : Sg) (fp : Fp) (Wx : WX) (e : ST) : TT := fun σ H Q => ∃ (L : Addr → Prop) (w : W) (ex : KX) (k : Bool → W → Prop), SR K fp L w σ H ∧ EC K fp L w σ H Wx ex ∧ evT Γ e w ex k ∧ BPst K fp σ L w H k Q
def VRs (K : PySem.W.Frag) (fp : Fp) (L : Addr → Prop) (w : W) (σ : L2.St) (H : Hp) : List Vl → List V → Prop
  | [], [] => True
  | v :: vs, x :: xs => VR K fp L w σ H v x ∧ VRs K fp L w σ H vs xs
  | _, _ => False
def addN (L : Addr → Prop) : Vl → V → Addr → Prop
  | .n _, .ref b => withA L b
  | _, _ => L
def NFs : (Addr → Prop) → List Vl → List V → Prop
  | L, v :: vs, x :: xs => NF L v x ∧ NFs (addN L v x) vs xs
  | _, _, _ => True
def tA (K : PySem.W.Frag) (Γ : Sg) (fp : Fp) (Wx : WX) (es : SEs) : TA := fun σ H Q => ∃ (L : Addr → Prop) (w : W) (ex : KX) (k : List Vl → W → Prop), SR K fp L w σ H ∧ EC K fp L w σ H Wx ex ∧ evA Γ es w ex k ∧
  ∀ (vs : List Vl) (w' : W) (xs : List V) (L' : Addr → Prop) (H' : Hp), k vs w' → SR K fp L' w' σ H' → Nx fp σ L w H L' w' H' → VRs K fp L' w' σ H' vs xs → NFs L vs xs → Q xs H'
def tD (K : PySem.W.Frag) (Γ : Sg) (fp : Fp) (Wx : WX) (es : SEs) : TA := fun σ H Q => ∃ (L : Addr → Prop) (w : W) (ex : KX) (k : List D → W → Prop), SR K fp L w σ H ∧ EC K fp L w σ H Wx ex ∧ evD Γ es w ex k ∧
  ∀ (ds : List D) (w' : W) (xs : List V) (L' : Addr → Prop) (H' : Hp), k ds w' → SR K fp L' w' σ H' → Nx fp σ L w H L' w' H' → DRs K H' (FA fp L' w' σ) xs ds → Q xs H'
def tOo (K : PySem.W.Frag) (Γ : Sg) (fp : Fp) (Wx : WX) (e : SO) : TO := fun σ H Q => ∃ (L : Addr → Prop) (w : W) (ex : KX) (k : Option Int → W → Prop), SR K fp L w σ H ∧ EC K fp L w σ H Wx ex ∧ evO Γ e w ex k ∧
  ∀ (o : Option Int) (w' : W) (L' : Addr → Prop) (H' : Hp), k o w' → SR K fp L' w' σ H' → Nx fp σ L w H L' w' H' → Q o H'

theorem PE.imp {X : Cx} {e : Expr} {t t' : TE} (h : PE X e t) (q : ∀ σ H Q, t' σ H Q → t σ H Q) : PE X e t' := ⟨fun pins s σ H Q I z => h.run pins s σ H Q I (q σ H Q z)⟩
theorem PT.imp {X : Cx} {e : Expr} {t t' : TT} (h : PT X e t) (q : ∀ σ H Q, t' σ H Q → t σ H Q) : PT X e t' := ⟨fun pins s σ H Q I z => h.run pins s σ H Q I (q σ H Q z)⟩
theorem PW.imp {X : Cx} {e : Expr} {t t' : TT} (h : PW X e t) (q : ∀ σ H Q, t' σ H Q → t σ H Q) : PW X e t' := ⟨fun whole pins s σ H Q I z => h.run whole pins s σ H Q I (q σ H Q z)⟩
theorem PA.imp {X : Cx} {es : List Expr} {t t' : TA} (h : PA X es t) (q : ∀ σ H Q, t' σ H Q → t σ H Q) : PA X es t' := ⟨fun pos pins s σ H Q I z => h.run pos pins s σ H Q I (q σ H Q z)⟩
theorem PO.imp {X : Cx} {e : Option Expr} {t t' : TO} (h : PO X e t) (q : ∀ σ H Q, t' σ H Q → t σ H Q) : PO X e t' := ⟨fun pins s σ H Q I z => h.run pins s σ H Q I (q σ H Q z)⟩

section
variable {K : PySem.W.Frag} {fp : Fp} {σ : L2.St} {L L' : Addr → Prop} {w w' : W} {H H' : Hp} {k : KV'} {Q : VK}
theorem newL {p : Addr} {o : HO} {vs : List V} {ds : List D} (hp : H p = none) (r : DRs K H (FA fp L w σ) vs ds) : DRs K (upd H p o) (FA fp (withA L p) w σ) vs ds :=
  r.step (M := fun _ => False) (Stay.upd hp) (fun _ z => z.elim) (fun _ z => z.elim) fun b z => z.elim (fun q => q.elim (fun q => .inl (.inl q)) fun e => .inr (by rw [e]; exact hp)) fun q => .inl (.inr q)
theorem newL0 {p : Addr} {o : HO} {vs : List V} {ds : List D} (hp : H p = none) (r : DRs K H (FA fp L w σ) vs ds) : DRs K (upd H p o) (FA fp L w σ) vs ds :=
  r.step (M := fun _ => False) (Stay.upd hp) (fun _ z => z.elim) (fun _ z => z.elim) fun b z => .inl z
/-- the end of an expression: data -/
theorem EPst.fd (ep : EPst K fp σ L w H k Q) {x : D} {v : V} (hk : k (.d x) w') (S : SR K fp L' w' σ H') (n : Nx fp σ L w H L' w' H') (r : DR K H' (FA fp L' w' σ) v x) : Q v H' := ep _ _ _ _ _ hk S n r trivial
/-- a new list -/
theorem EPst.fl (ep : EPst K fp σ L w H k Q) (S0 : SR K fp L w σ H) {vs : List V} {ds : List D} {p : Addr} (hk : k (.n (.l ds)) w') (S : SR K fp L' w' σ H') (n : Nx fp σ L w H L' w' H') (r : DRs K H' (FA fp L' w' σ) vs ds) (hp : H' p = none) : Q (.ref p) (upd H' p (.lst vs)) := by
  refine ep _ _ _ _ _ hk (S.laid hp) (n.trans (Nx.laid hp)) ⟨p, rfl, .inr rfl, .l upd_same (newL hp r)⟩ fun b e z => ?_
  cases e
  exact n.ke p (S0.tr p z) hp
/-- a new tuple -/
theorem EPst.ft (ep : EPst K fp σ L w H k Q) {vs : List V} {ds : List D} {p : Addr} (hk : k (.d (.tuple ds)) w') (S : SR K fp L' w' σ H') (n : Nx fp σ L w H L' w' H') (r : DRs K H' (FA fp L' w' σ) vs ds) (hp : H' p = none) : Q (.ref p) (upd H' p (.tup vs)) :=
  ep _ _ _ _ _ hk (S.laid0 hp) (n.trans (Nx.laid0 hp)) (.tup (SqT.of upd_same) (newL0 hp r)) trivial
end

section
variable {X : Cx} {Γ : Sg} {fp : Fp} {Wx : WX}
/-- one part -/
theorem one {a : SE} {σ : L2.St} {H : Hp} {L : Addr → Prop} {w : W} {ex : KX} {G : Vl → W → Prop} {R : V → Hp → Prop} (S : SR X.K fp L w σ H) (ec : EC X.K fp L w σ H Wx ex) (h : evE Γ a w ex G)
    (fin : ∀ (v : Vl) (w1 : W) (x : V) (L1 : Addr → Prop) (H1 : Hp), G v w1 → SR X.K fp L1 w1 σ H1 → Nx fp σ L w H L1 w1 H1 → VR X.K fp L1 w1 σ H1 v x → NF L v x → R x H1) : tE X.K Γ fp Wx a σ H R :=
  ⟨L, w, ex, G, S, ec, h, fun v w1 x L1 H1 hk S1 n1 r1 f1 => fin v w1 x L1 H1 hk S1 n1 r1 f1⟩
/-- two parts -/
theorem two {a b : SE} {σ : L2.St} {H : Hp} {L : Addr → Prop} {w : W} {ex : KX} {G : Vl → Vl → W → Prop} {R : V → V → Hp → Prop} (S : SR X.K fp L w σ H) (ec : EC X.K fp L w σ H Wx ex) (h : evE Γ a w ex fun x w1 => evE Γ b w1 ex fun y w2 => G x y w2)
    (fin : ∀ (v u : Vl) (w2 : W) (x y : V) (L2 : Addr → Prop) (H2 : Hp), G v u w2 → SR X.K fp L2 w2 σ H2 → Nx fp σ L w H L2 w2 H2 → VR X.K fp L2 w2 σ H2 v x → VR X.K fp L2 w2 σ H2 u y → R x y H2) :
    tE X.K Γ fp Wx a σ H fun x H1 => tE X.K Γ fp Wx b σ H1 fun y H2 => R x y H2 :=
  one S ec h fun v w1 x L1 H1 hk S1 n1 r1 _ => one S1 (ec.nx n1) hk fun u w2 y L2 H2 hk2 S2 n2 r2 _ => fin v u w2 x y L2 H2 hk2 S2 (n1.trans n2) (r1.next S1 n2) r2

/-! ### names, constants -/
theorem r_v {i : Nat} {x : Str} {pos : Pos} (hN : X.N[i]? = some x := by rfl) (hv : Vis X.env.scope x := by first | exact Or.inl rfl | exact Or.inr (Or.inl rfl) | exact Or.inr (Or.inr rfl)) (hd : (x == ("__debug__" : Str)) = false := by decide)
    (hcd : (x == ("__classdict__" : Str)) = false := by decide) : PE X (.Name x pos) (tE X.K Γ fp Wx (.v i)) := PE.imp (pe_var hN hv hd hcd) fun σ H Q ⟨L, w, ex, k, S, ec, h, ep⟩ => by
  have h : varP w i fun v => k v w := h
  unfold varP at h
  cases q : w.r[i]? with
  | none => rw [q] at h; exact h.elim
  | some sl =>
    rw [q] at h
    have sl_ := S.slot i sl q
    cases sl with
    | no => exact h.elim
    | d x =>
      obtain ⟨v, e, r⟩ := sl_
      exact ⟨v, e, ep.fd h S Nx.refl r⟩
    | o c =>
      obtain ⟨b, e, r, _⟩ := sl_
      exact ⟨_, e, ep (.s i) w _ L H h S Nx.refl e trivial⟩
    | a j =>
      obtain ⟨b, c, e, e2, _⟩ := sl_
      exact ⟨_, e, ep (.a j) w _ L H h S Nx.refl e2 trivial⟩
    | f x =>
      obtain ⟨b, e, e2⟩ := sl_
      exact ⟨_, e, ep (.f x) w _ L H h S Nx.refl ⟨b, rfl, e2⟩ trivial⟩
    | z ns =>
      obtain ⟨b, e, e2⟩ := sl_
      exact ⟨_, e, ep (.z ns) w _ L H h S Nx.refl ⟨b, rfl, e2⟩ trivial⟩
    | x y =>
      obtain ⟨b, C, e, e2⟩ := sl_
      exact ⟨_, e, ep (.x y) w _ L H h S Nx.refl ⟨b, C, rfl, e2⟩ trivial⟩
theorem r_int {i : Int} {j : Nat} {pos : Pos} : PE X (.Constant (.int i) j pos) (tE X.K Γ fp Wx (.k (.int i))) := PE.imp pe_int fun σ H Q ⟨L, w, ex, k, S, ec, h, ep⟩ => ep.fd h S Nx.refl (.int i)
theorem r_bool {i : Bool} {j : Nat} {pos : Pos} : PE X (.Constant (.bool i) j pos) (tE X.K Γ fp Wx (.k (.bool i))) := PE.imp pe_bl fun σ H Q ⟨L, w, ex, k, S, ec, h, ep⟩ => ep.fd h S Nx.refl (.bl i)
theorem r_none {j : Nat} {pos : Pos} : PE X (.Constant .none j pos) (tE X.K Γ fp Wx (.k .none)) := PE.imp pe_non fun σ H Q ⟨L, w, ex, k, S, ec, h, ep⟩ => ep.fd h S Nx.refl .non
theorem r_str {i : Str} {j : Nat} {pos : Pos} (hz : i.length ≤ sizeLine := by decide) : PE X (.Constant (.str i) j pos) (tE X.K Γ fp Wx (.k (.str i))) := PE.imp pe_str fun σ H Q ⟨L, w, ex, k, S, ec, h, ep⟩ => ep.fd h S Nx.refl (.str i hz)
/-- a module's constant -/
theorem r_g {x y : Str} {c : D} {v : V} {u : Value} {pos : Pos} (hg : Gl X x) (hm : X.mg x = some u) (r : RelV v u) (hc : Γ.con y = some c) (hr : ∀ (H : Hp) (F : Addr → Prop), DR X.K H F v c) (hd : (x == ("__debug__" : Str)) = false := by decide) :
    PE X (.Name x pos) (tE X.K Γ fp Wx (.g y)) := PE.imp (pe_glob hg hm r hd) fun σ H Q ⟨L, w, ex, k, S, ec, h, ep⟩ => by
  have h : optP (Γ.con y) fun c => k (.d c) w := h
  rw [hc] at h
  exact ep.fd h S Nx.refl (hr H _)
/-- a def as a value -/
theorem r_fn {x y : Str} {f : Addr} {pos : Pos} (hg : Gl X x) (hm : X.mg x = some (.ref f)) (hf : fp.fa y = some f) (hd : (x == ("__debug__" : Str)) = false := by decide) :
    PE X (.Name x pos) (tE X.K Γ fp Wx (.fn y)) := PE.imp (pe_glob (v := .ref f) hg hm rfl hd) fun σ H Q ⟨L, w, ex, k, S, ec, h, ep⟩ => ep (.f y) w _ L H h S Nx.refl ⟨f, rfl, hf⟩ trivial

/-! ### operators -/
theorem strLen (x y : Str) : (x ++ y).length = x.length + y.length := by
  show (x.cps ++ y.cps).size = _
  rw [Array.size_append]
  all_goals rfl
theorem OpR.or {f : Value → Value → Sem Value} {r r' : R2} (h : OpR X f r) (h' : OpR X f r') : OpR X f (fun x y H Q => r x y H Q ∨ r' x y H Q) := fun pins s σ H x y v u Q I rx ry q =>
  q.elim (h pins s σ H x y v u Q I rx ry) (h' pins s σ H x y v u Q I rx ry)
def bopOf : Bop → Operator
  | .add => .Add | .sub => .Sub | .mul => .Mult | .fdiv => .FloorDiv | .mod => .Mod | .pow => .Pow
def rStrAdd : R2 := fun x y H Q => ∃ i j : Str, x = .str i ∧ y = .str j ∧ i.length + j.length ≤ sizeLine ∧ Q (.str (i ++ j)) H
def rBop (K : PySem.W.Frag) : Bop → R2
  | .add => fun x y H Q => ((rI0 (fun i j => .int (i + j)) x y H Q ∨ rStrAdd x y H Q) ∨ rCatA K x y H Q) ∨ rCat x y H Q
  | .sub => rI0 fun i j => .int (i - j)
  | .mul => fun x y H Q => (rI CMul (fun i j => .int (i * j)) x y H Q ∨ rRep x y H Q) ∨ rRepT K x y H Q
  | .fdiv => rI CDivN fun i j => .int (i.fdiv j)
  | .mod => rI (fun _ j => j ≠ 0) fun i j => .int (i.fmod j)
  | .pow => rI CPow fun i j => .int (i ^ j.toNat)
theorem op_bop : ∀ o : Bop, OpR X (binaryOp (bopOf o)) (rBop X.K o)
  | .add => OpR.or (OpR.or (OpR.or op_add op_add_str) op_catA) op_cat
  | .sub => op_sub
  | .mul => OpR.or (OpR.or op_mul op_rep) op_repT
  | .fdiv => op_fdivN
  | .mod => op_modN
  | .pow => op_pow
theorem r_bin (o : Bop) {a b : Expr} {sa sb : SE} {pos : Pos} (ha : PE X a (tE X.K Γ fp Wx sa)) (hb : PE X b (tE X.K Γ fp Wx sb)) : PE X (.BinOp a (bopOf o) b pos) (tE X.K Γ fp Wx (.bin o sa sb)) :=
  PE.imp (pe_op (op_bop o) ha hb) fun σ H Q ⟨L, w, ex, k, S, ec, h, ep⟩ => two S ec h fun v u w2 x y L2 H2 hk S2 n r1 r2 => by
    obtain ⟨p, e1, hk⟩ := rdP_some hk
    obtain ⟨q, e2, hk⟩ := rdP_some hk
    have t1 := VR.rd S2 r1 e1
    have t2 := VR.rd S2 r2 e2
    have sz := S2
    cases o with
    | add =>
      cases p <;> cases q <;> first
        | exact hk.elim
        | (cases t1.int; cases t2.int; exact .inl (.inl (.inl ⟨_, _, rfl, rfl, ep.fd hk S2 n (.int _)⟩)))
        | (obtain ⟨z1, z2⟩ := hk
           obtain ⟨rfl, _⟩ := t1.str
           obtain ⟨rfl, _⟩ := t2.str
           refine .inl (.inl (.inr ⟨_, _, rfl, rfl, z1, ep.fd z2 S2 n (.str _ ?_)⟩))
           exact Nat.le_trans (Nat.le_of_eq (strLen _ _)) z1)
        | (obtain ⟨z1, z2⟩ := hk
           obtain ⟨b1, v1, rfl, s1, d1⟩ := t1.tup
           obtain ⟨b2, v2, rfl, s2, d2⟩ := t2.tup
           have dd := d1.append d2
           refine .inl (.inr ⟨b1, b2, v1, v2, rfl, rfl, s1, s2, by rw [d1.length, d2.length]; exact z1, fun e => ?_, fun e e' => ?_, fun e e' p hp => ?_⟩)
           · refine ep.fd z2 S2 n (.tup s2 ?_)
             rw [e] at dd; exact dd
           · refine ep.fd z2 S2 n (.tup s1 ?_)
             rw [e', List.append_nil] at dd; exact dd
           · exact ep.ft z2 S2 n dd hp)
        | (obtain ⟨z1, z2⟩ := hk
           obtain ⟨b1, v1, rfl, s1, d1⟩ := t1.lst
           obtain ⟨b2, v2, rfl, s2, d2⟩ := t2.lst
           exact .inr ⟨b1, b2, v1, v2, rfl, rfl, s1, s2, by rw [d1.length, d2.length]; exact z1, fun p hp => ep.fl S z2 S2 n (d1.append d2) hp⟩)
    | sub =>
      cases p <;> cases q <;> first
        | exact hk.elim
        | (cases t1.int; cases t2.int; exact ⟨_, _, rfl, rfl, ep.fd hk S2 n (.int _)⟩)
    | mul =>
      cases p <;> cases q <;> first
        | exact hk.elim
        | (cases t1.int; cases t2.int; exact .inl (.inl ⟨_, _, rfl, rfl, hk.1, ep.fd hk.2 S2 n (.int _)⟩))
        | (obtain ⟨⟨z0, z1, z2, z3⟩, z4⟩ := hk
           obtain ⟨b1, v1, rfl, s1, d1⟩ := t1.tup
           cases t2.int
           exact .inr ⟨b1, _, v1, rfl, rfl, s1, (fun e => z0 (List.eq_nil_of_length_eq_zero (by rw [← d1.length, e]; rfl))), z1, z2, by rw [d1.length]; exact z3, fun p hp => ep.ft z4 S2 n (d1.rep _) hp⟩)
        | (obtain ⟨⟨z1, z2, z3⟩, z4⟩ := hk
           obtain ⟨b1, v1, rfl, s1, d1⟩ := t1.lst
           cases t2.int
           exact .inl (.inr ⟨b1, _, v1, rfl, rfl, s1, z1, z2, by rw [d1.length]; exact z3, fun p hp => ep.fl S z4 S2 n (d1.rep _) hp⟩))
    | fdiv =>
      cases p <;> cases q <;> first
        | exact hk.elim
        | (cases t1.int; cases t2.int; exact ⟨_, _, rfl, rfl, hk.1, ep.fd hk.2 S2 n (.int _)⟩)
    | mod =>
      cases p <;> cases q <;> first
        | exact hk.elim
        | (cases t1.int; cases t2.int; exact ⟨_, _, rfl, rfl, hk.1, ep.fd hk.2 S2 n (.int _)⟩)
    | pow =>
      cases p <;> cases q <;> first
        | exact hk.elim
        | (cases t1.int; cases t2.int; exact ⟨_, _, rfl, rfl, hk.1, ep.fd hk.2 S2 n (.int _)⟩)
end
end Lb
/-! ## Lb3 -/
/-! Lb3: comparisons, truths, displays, subscripts, arguments, built-ins, methods. -/
namespace Lb
open PySem PySem.Spec L2

section
variable {K : PySem.W.Frag} {H : Hp} {F : Addr → Prop}
mutual
theorem DR.dp : ∀ {d : D} {v : V}, d.canLay0 = true → DR K H F v d → Dp K H v d
  | _, _, _, .non => .non
  | _, _, _, .bl b => .bl b
  | _, _, _, .int i => .int i
  | _, _, _, .str x _ => .str x
  | .tuple ds, _, c, .tup h r => .tup h (DRs.dp (by simpa [PyData.canLay0] using c) r)
  | .list ds, _, c, .lst h _ r => .lst (SqL.of h) (DRs.dp (by simpa [PyData.canLay0] using c) r)
  | .dict _, _, c, .dic _ _ _ => by simp [PyData.canLay0] at c
theorem DRs.dp : ∀ {ds : List D} {vs : List V}, PyData.canLayAll0 ds = true → DRs K H F vs ds → DpAll K H vs ds
  | _, _, _, .nil => .nil
  | d :: ds, _, c, .cons r t => by
    have c' : d.canLay0 = true ∧ PyData.canLayAll0 ds = true := by simpa [PyData.canLayAll0] using c
    exact .cons (DR.dp c'.1 r) (DRs.dp c'.2 t)
end
theorem TR.dp {d : D} {v : V} (c : d.canLay0 = true) (r : TR K H F v d) : Dp K H v d := by
  cases r with
  | d r => exact r.dp c
  | @c b cv r => cases r with
    | l h r => exact .lst (SqL.of h) (r.dp (by have c : PyData.canLay0 (.list _) = true := c; simpa [PyData.canLay0] using c))
    | m h r => have c : PyData.canLay0 (.dict _) = true := c; simp [PyData.canLay0] at c
theorem TR.scal {d e : D} {v u : V} (r : TR K H F v d) (q : TR K H F u e) (h : scalD d e = true) : scal v u = true ∧ decide (v = u) = PyData.eqv d e := by
  cases d <;> cases e <;> first
    | (exact absurd (show false = true from h) Bool.false_ne_true)
    | (have e1 := r.none; have e2 := q.none; subst e1 e2; exact ⟨rfl, rfl⟩)
    | (have e1 := r.none; have e2 := q.int; subst e1 e2; exact ⟨rfl, rfl⟩)
    | (have e1 := r.none; have e2 := q.bool; subst e1 e2; exact ⟨rfl, rfl⟩)
    | (have e1 := r.none; have e2 := q.str.1; subst e1 e2; exact ⟨rfl, rfl⟩)
    | (have e1 := r.int; have e2 := q.none; subst e1 e2; exact ⟨rfl, rfl⟩)
    | (have e1 := r.bool; have e2 := q.none; subst e1 e2; exact ⟨rfl, rfl⟩)
    | (have e1 := r.str.1; have e2 := q.none; subst e1 e2; exact ⟨rfl, rfl⟩)
    | (have e1 := r.int; have e2 := q.str.1; subst e1 e2; exact ⟨rfl, rfl⟩)
    | (have e1 := r.str.1; have e2 := q.int; subst e1 e2; exact ⟨rfl, rfl⟩)
    | (have e1 := r.bool; have e2 := q.str.1; subst e1 e2; exact ⟨rfl, rfl⟩)
    | (have e1 := r.str.1; have e2 := q.bool; subst e1 e2; exact ⟨rfl, rfl⟩)
    | (have e1 := r.int; have e2 := q.int; subst e1 e2; exact ⟨rfl, by rw [dec_int, PyData.eqv]⟩)
    | (have e1 := r.bool; have e2 := q.bool; subst e1 e2
       refine ⟨rfl, ?_⟩
       rw [PyData.eqv, Bool.eq_iff_iff]
       simp)
    | (have e1 := r.str.1; have e2 := q.str.1; subst e1 e2
       refine ⟨rfl, ?_⟩
       rw [PyData.eqv, Bool.eq_iff_iff]
       simp)
/-- flat values -/
theorem DR.flat {x : V} {d : D} (r : DR K H F x d) (h : flatD d = true) : flatV x = true := by
  cases r <;> first | rfl | exact absurd (show false = true from h) Bool.false_ne_true
theorem DR.eqFlat {x y : V} {d e : D} (r : DR K H F x d) (q : DR K H F y e) (h : flatD d = true) (h' : flatD e = true) : eqV y x = Lb.eqFlat d e := by
  unfold Lb.eqFlat
  cases r <;> first
    | (exact absurd (show false = true from h) Bool.false_ne_true)
    | (cases q <;> first
        | (exact absurd (show false = true from h') Bool.false_ne_true)
        | (rw [PyData.eqv]; rfl)
        | rfl)
theorem DRs.flat : ∀ {ys : List V} {es : List D}, DRs K H F ys es → es.all flatD = true → ys.all flatV = true
  | _, _, .nil, _ => rfl
  | _, _, .cons (d := d) (ds := ds) r t, h => by
    rw [List.all_cons, Bool.and_eq_true] at h
    rw [List.all_cons, r.flat h.1, t.flat h.2]
    all_goals rfl
theorem DRs.inV {x : V} {d : D} (r : DR K H F x d) (hd : flatD d = true) : ∀ {ys : List V} {es : List D}, DRs K H F ys es → es.all flatD = true → L2.inV x ys = es.any (Lb.eqFlat d)
  | _, _, .nil, _ => rfl
  | _, _, .cons r' t, h => by
    rw [List.all_cons, Bool.and_eq_true] at h
    have ih := DRs.inV r hd t h.2
    unfold L2.inV at ih ⊢
    rw [List.any_cons, List.any_cons, ih, r.eqFlat r' hd h.1]
theorem TR.flat {x : V} {d : D} (r : TR K H F x d) (h : flatD d = true) : DR K H F x d := by
  cases r with
  | d r => exact r
  | @c b c _ => cases c <;> exact absurd (show false = true from h) Bool.false_ne_true
end

section
variable {X : Cx} {Γ : Sg} {fp : Fp} {Wx : WX}
def copOf : Cop → CmpOp
  | .lt => .Lt | .le => .LtE | .gt => .Gt | .ge => .GtE | .eq => .Eq | .ne => .NotEq | .inn => .In | .notin => .NotIn
def rEqR (K : PySem.W.Frag) (neg : Bool) : R2 := fun x y H Q => ∃ d e : D, Dp K H x d ∧ Dp K H y e ∧ d.canLay0 = true ∧ e.canLay0 = true ∧ min d.depth e.depth ≤ 64 ∧ Q (.bl (bif neg then !PyData.eqv d e else PyData.eqv d e)) H
theorem op_eqR (hu : X.A.units + 64 < cLine) : OpR X (compareOp .Eq) (rEqR X.K false) := by
  intro pins s σ H x y v u Q I rx ry ⟨d, e, hd, he, sd, se, hm, q⟩
  obtain ⟨as, r1⟩ := Dp.reads I d x v hd rx
  obtain ⟨bs, r2⟩ := Dp.reads I e y u he ry
  exact SeqAt.compareEq_reads r1 r2 sd se (by omega) ⟨.bl _, H, I, rfl, q⟩
theorem op_neR (hu : X.A.units + 64 < cLine) : OpR X (compareOp .NotEq) (rEqR X.K true) := by
  intro pins s σ H x y v u Q I rx ry ⟨d, e, hd, he, sd, se, hm, q⟩
  obtain ⟨as, r1⟩ := Dp.reads I d x v hd rx
  obtain ⟨bs, r2⟩ := Dp.reads I e y u he ry
  exact SeqAt.compareNe_reads r1 r2 sd se (by omega) ⟨.bl _, H, I, rfl, q⟩
/-- == against an empty list, an empty tuple: lengths alone -/
def rNil (K : PySem.W.Frag) (neg : Bool) : R2 := fun x y H Q => ∃ a b xs, x = .ref a ∧ y = .ref b ∧ ((SqL K H a xs ∧ SqL K H b []) ∨ (SqT K H a xs ∧ SqT K H b [])) ∧ Q (.bl (bif neg then !xs.isEmpty else xs.isEmpty)) H
theorem DRs.isEmp {K : PySem.W.Frag} {H : Hp} {F : Addr → Prop} : ∀ {vs : List V} {ds : List D}, DRs K H F vs ds → vs.isEmpty = ds.isEmpty
  | _, _, .nil => rfl
  | _, _, .cons _ _ => rfl
theorem nil_its {its : List Value} (r : Vals [] its) : its = [] := by cases r; rfl
theorem op_nilE (hu : X.A.units + 64 < cLine) : OpR X (compareOp .Eq) (rNil X.K false) := by
  intro pins s σ H x y v u Q I rx ry ⟨a, b, xs, e1, e2, h, q⟩
  subst e1 e2
  cases rx
  cases ry
  rcases h with ⟨ha, hb⟩ | ⟨ha, hb⟩
  · obtain ⟨its, r, pl, _⟩ := I.list ha
    obtain ⟨its2, r2, pl2, _⟩ := I.list hb
    have := nil_its r2
    subst this
    cases xs with
    | nil =>
      have := nil_its r
      subst this
      exact PySem.SeqAt.eq_listAt (e := fun _ => true) pl.isList pl2.isList rfl (by omega) (fun j h1 _ => absurd h1 (by simp)) ⟨.bl true, H, I, rfl, q⟩
    | cons z zs =>
      cases r
      exact PySem.SeqAt.eq_list_lengthsAt pl.isList pl2.isList (by simp) (by omega) ⟨.bl false, H, I, rfl, q⟩
  · obtain ⟨its, r, pl, _⟩ := I.tuple ha
    obtain ⟨its2, r2, pl2, _⟩ := I.tuple hb
    have := nil_its r2
    subst this
    cases xs with
    | nil =>
      have := nil_its r
      subst this
      exact PySem.SeqAt.eq_tupleAt (e := fun _ => true) pl pl2 (by omega) (fun j h1 _ => absurd h1 (by simp)) ⟨.bl true, H, I, rfl, q⟩
    | cons z zs =>
      cases r
      exact PySem.SeqAt.eq_tupleAt (e := fun _ => true) pl pl2 (by omega) (fun j _ h1 => absurd h1 (by simp)) ⟨.bl false, H, I, (by simp; rfl), q⟩
theorem op_nilN (hu : X.A.units + 64 < cLine) : OpR X (compareOp .NotEq) (rNil X.K true) := by
  intro pins s σ H x y v u Q I rx ry ⟨a, b, xs, e1, e2, h, q⟩
  subst e1 e2
  cases rx
  cases ry
  rcases h with ⟨ha, hb⟩ | ⟨ha, hb⟩
  · obtain ⟨its, r, pl, _⟩ := I.list ha
    obtain ⟨its2, r2, pl2, _⟩ := I.list hb
    have := nil_its r2
    subst this
    cases xs with
    | nil =>
      have := nil_its r
      subst this
      exact PySem.SeqAt.RcNeAt.lists (e := fun _ => true) pl.isList pl2.isList rfl (by omega) (fun j h1 _ => absurd h1 (by simp)) _ _ _ _ ⟨.bl false, H, I, rfl, q⟩
    | cons z zs =>
      cases r
      exact PySem.SeqAt.RcNeAt.lists_lengths pl.isList pl2.isList (by simp) (by omega) _ _ _ _ ⟨.bl true, H, I, rfl, q⟩
  · obtain ⟨its, r, pl, _⟩ := I.tuple ha
    obtain ⟨its2, r2, pl2, _⟩ := I.tuple hb
    have := nil_its r2
    subst this
    cases xs with
    | nil =>
      have := nil_its r
      subst this
      exact PySem.SeqAt.RcNeAt.tuples (e := fun _ => true) pl pl2 (by omega) (fun j h1 _ => absurd h1 (by simp)) _ _ _ _ ⟨.bl false, H, I, rfl, q⟩
    | cons z zs =>
      cases r
      exact PySem.SeqAt.RcNeAt.tuples (e := fun _ => true) pl pl2 (by omega) (fun j _ h1 => absurd h1 (by simp)) _ _ _ _ ⟨.bl true, H, I, (by simp; rfl), q⟩
def rLtS : R2 := fun x y H Q => ∃ i j : Str, x = .str i ∧ y = .str j ∧ Q (.bl (decide (i.cps.toList < j.cps.toList))) H
def rInS (neg : Bool) : R2 := fun x y H Q => ∃ (c : Nat) (z : Str), x = .str ⟨#[c]⟩ ∧ y = .str z ∧ Q (.bl (bif neg then !decide (c ∈ z.cps.toList) else decide (c ∈ z.cps.toList))) H
def rCop (K : PySem.W.Frag) : Cop → R2
  | .lt => fun x y H Q => rI0 (fun i j => .bl (decide (i < j))) x y H Q ∨ rLtS x y H Q
  | .le => rI0 fun i j => .bl (decide (i ≤ j))
  | .gt => rI0 fun i j => .bl (decide (j < i))
  | .ge => rI0 fun i j => .bl (decide (j ≤ i))
  | .eq => fun x y H Q => rEq x y H Q ∨ rEqR K false x y H Q ∨ rNil K false x y H Q
  | .ne => fun x y H Q => rNe x y H Q ∨ rEqR K true x y H Q ∨ rNil K true x y H Q
  | .inn => fun x y H Q => rInS false x y H Q ∨ rIn K false x y H Q
  | .notin => fun x y H Q => rInS true x y H Q ∨ rIn K true x y H Q
theorem op_cop (hu : X.A.units + 64 < cLine) : ∀ o : Cop, OpR X (compareOp (copOf o)) (rCop X.K o)
  | .lt => OpR.or op_lt op_lt_str
  | .le => op_le
  | .gt => op_gt
  | .ge => op_ge
  | .eq => OpR.or op_eq (OpR.or (op_eqR hu) (op_nilE hu))
  | .ne => OpR.or op_ne (OpR.or (op_neR hu) (op_nilN hu))
  | .inn => OpR.or op_in_sign op_in_seq
  | .notin => OpR.or op_notIn_sign op_notIn_seq
/-- a comparison, by what its parts read as -/
theorem cop_end {K : PySem.W.Frag} {F : Addr → Prop} {H : Hp} {x y : V} {p q : D} {kb : Bool → Prop} {Q : VK} (o : Cop) (t1 : TR K H F x p) (t2 : TR K H F y q) (h : cmpP o p q kb) (fin : ∀ b, kb b → Q (.bl b) H) : rCop K o x y H Q := by
  have inEnd : ∀ neg : Bool, inP neg p q kb → (rInS neg x y H Q ∨ rIn K neg x y H Q) := fun neg h => by
    have seq : ∀ (es : List D) (P : Prop), ((flatD p = true ∧ es.all flatD = true) ∧ kb (bif neg then !es.any (eqFlat p) else es.any (eqFlat p))) → (∃ b vs, y = .ref b ∧ (SqL K H b vs ∨ SqT K H b vs) ∧ DRs K H F vs es) → rIn K neg x y H Q := by
      rintro es P ⟨⟨h1, h2⟩, h3⟩ ⟨b, vs, rfl, hs, r⟩
      have rx := t1.flat h1
      have e := DRs.inV rx h1 r h2
      refine ⟨b, vs, rfl, hs, rx.flat h1, r.flat h2, ?_⟩
      rw [e]
      cases neg with
      | true => exact fin _ h3
      | false => exact fin _ h3
    cases q with
    | str z =>
      cases p with
      | str c =>
        obtain ⟨⟨n, rfl⟩, h2⟩ := h
        obtain ⟨rfl, _⟩ := t1.str
        obtain ⟨rfl, _⟩ := t2.str
        exact .inl ⟨n, z, rfl, rfl, by cases neg <;> exact fin _ h2⟩
      | _ => exact False.elim h
    | tuple es =>
      obtain ⟨b, vs, e, hs, r⟩ := t2.tup
      exact .inr (seq es True (by cases p <;> exact h) ⟨b, vs, e, .inr hs, r⟩)
    | list es =>
      obtain ⟨b, vs, e, hs, r⟩ := t2.lst
      exact .inr (seq es True (by cases p <;> exact h) ⟨b, vs, e, .inl (SqL.of hs), r⟩)
    | _ => cases p <;> exact False.elim h
  have eqEnd : ∀ neg : Bool, EqOk p q ∧ kb (bif neg then !PyData.eqv p q else PyData.eqv p q) → ((scal x y = true ∧ Q (.bl (bif neg then !decide (x = y) else decide (x = y))) H) ∨ rEqR K neg x y H Q ∨ rNil K neg x y H Q) := fun neg ⟨h1, h2⟩ => by
    rcases h1 with h1 | ⟨c1, c2, c3⟩ | h1
    · obtain ⟨s1, s2⟩ := t1.scal t2 h1
      refine .inl ⟨s1, ?_⟩
      rw [s2]
      exact fin _ h2
    · exact .inr (.inl ⟨p, q, t1.dp c1, t2.dp c2, c1, c2, c3, fin _ h2⟩)
    · refine .inr (.inr ?_)
      have nilE : ∀ {ds : List D}, PyData.eqvAll ds [] = ds.isEmpty := fun {ds} => by cases ds <;> (rw [PyData.eqvAll]; rfl)
      unfold nilD at h1
      split at h1
      · obtain ⟨a, vs, rfl, ha, r⟩ := t1.lst
        obtain ⟨b, vs2, rfl, hb, r2⟩ := t2.lst
        cases r2
        refine ⟨a, b, vs, rfl, rfl, .inl ⟨SqL.of ha, SqL.of hb⟩, ?_⟩
        rw [PyData.eqv, nilE] at h2
        rw [r.isEmp]
        exact fin _ h2
      · obtain ⟨a, vs, rfl, ha, r⟩ := t1.tup
        obtain ⟨b, vs2, rfl, hb, r2⟩ := t2.tup
        cases r2
        refine ⟨a, b, vs, rfl, rfl, .inr ⟨ha, hb⟩, ?_⟩
        rw [PyData.eqv, nilE] at h2
        rw [r.isEmp]
        exact fin _ h2
      · cases h1
  cases o with
  | lt =>
    cases p <;> cases q <;> first
      | exact False.elim h
      | (cases t1.int; cases t2.int; exact .inl ⟨_, _, rfl, rfl, fin _ h⟩)
      | (obtain ⟨rfl, _⟩ := t1.str; obtain ⟨rfl, _⟩ := t2.str; exact .inr ⟨_, _, rfl, rfl, fin _ h⟩)
  | le => cases p <;> cases q <;> first
      | exact False.elim h
      | (cases t1.int; cases t2.int; exact ⟨_, _, rfl, rfl, fin _ h⟩)
  | gt => cases p <;> cases q <;> first
      | exact False.elim h
      | (cases t1.int; cases t2.int; exact ⟨_, _, rfl, rfl, fin _ h⟩)
  | ge => cases p <;> cases q <;> first
      | exact False.elim h
      | (cases t1.int; cases t2.int; exact ⟨_, _, rfl, rfl, fin _ h⟩)
  | eq => exact eqEnd false h
  | ne => exact eqEnd true h
  | inn => exact inEnd false h
  | notin => exact inEnd true h
theorem r_cmp (hu : X.A.units + 64 < cLine) (o : Cop) {a b : Expr} {sa sb : SE} {pos : Pos} (ha : PE X a (tE X.K Γ fp Wx sa)) (hb : PE X b (tE X.K Γ fp Wx sb)) (hm : behindInMarks (copOf o) b = false := by rfl) :
    PE X (.Compare a [copOf o] [b] pos) (tE X.K Γ fp Wx (.cmp o sa sb)) :=
  PE.imp (pe_cmpR (op_cop hu o) ha hb hm) fun σ H Q ⟨L, w, ex, k, S, ec, h, ep⟩ => two S ec h fun v u w2 x y L2 H2 hk S2 n r1 r2 => by
    obtain ⟨p, e1, hk⟩ := rdP_some hk
    obtain ⟨q, e2, hk⟩ := rdP_some hk
    exact cop_end o (VR.rd S2 r1 e1) (VR.rd S2 r2 e2) hk fun b hb => ep.fd hb S2 n (.bl b)
theorem r_chain (hu : X.A.units + 64 < cLine) (o o' : Cop) {a b c : Expr} {sa sb sc : SE} {pos : Pos} (ha : PE X a (tE X.K Γ fp Wx sa)) (hb : PE X b (tE X.K Γ fp Wx sb)) (hc : PE X c (tE X.K Γ fp Wx sc)) (hm : lastMarks [copOf o, copOf o'] [b, c] = false := by with_unfolding_all rfl) :
    PE X (.Compare a [copOf o, copOf o'] [b, c] pos) (tE X.K Γ fp Wx (.chain o o' sa sb sc)) :=
  PE.imp (pe_chain (op_cop hu o) (op_cop hu o') ha hb hc hm) fun σ H Q ⟨L, w, ex, k, S, ec, h, ep⟩ => two S ec h fun v u w2 x y L2 H2 hk S2 n r1 r2 => by
    obtain ⟨p, e1, hk⟩ := rdP_some hk
    obtain ⟨q, e2, hk⟩ := rdP_some hk
    refine cop_end (Q := fun z H3 => ∃ k : Bool, z = .bl k ∧ if k = true then tE X.K Γ fp Wx sc σ H3 (fun z' H4 => rCop X.K o' y z' H4 Q) else Q (.bl false) H3) o (VR.rd S2 r1 e1) (VR.rd S2 r2 e2) hk fun r hr => ⟨r, rfl, ?_⟩
    cases r with
    | false =>
      rw [if_neg Bool.false_ne_true]
      rw [if_neg Bool.false_ne_true] at hr
      exact ep.fd hr S2 n (.bl false)
    | true =>
      rw [if_pos rfl]
      rw [if_pos rfl] at hr
      refine one S2 (ec.nx n) hr fun v3 w3 z L3 H3 hk3 S3 n3 r3 _ => ?_
      obtain ⟨p', e1', hk3⟩ := rdP_some hk3
      obtain ⟨q', e2', hk3⟩ := rdP_some hk3
      exact cop_end o' (VR.rd S3 (r2.next S2 n3) e1') (VR.rd S3 r3 e2') hk3 fun b hb => ep.fd hb S3 (n.trans n3) (.bl b)
theorem isNP_end {w : W} {σ : L2.St} {H : Hp} {L : Addr → Prop} {v : Vl} {x : V} {kb : Bool → Prop} (S : SR X.K fp L w σ H) (r : VR X.K fp L w σ H v x) (h : isNP w v kb) : kb (decide (x = .non)) := by
  cases v with
  | d d =>
    have r : DR X.K H (FA fp L w σ) x d := r
    cases r <;> exact h
  | n c => obtain ⟨b, rfl, _⟩ := r; exact h
  | f y => obtain ⟨b, rfl, _⟩ := r; exact h
  | z ns => obtain ⟨b, rfl, _⟩ := r; exact h
  | x y => obtain ⟨b, C, rfl, _⟩ := r; exact h
  | s i =>
    have r : σ[i]? = some (some x) := r
    have h : getCP w (.s i) fun _ => kb false := h
    unfold getCP getC at h
    cases q : w.r[i]? with
    | none => simp only [q] at h
    | some sl =>
      simp only [q] at h
      cases sl with
      | o c =>
        obtain ⟨b, e1, _⟩ := S.slot i _ q
        rw [r] at e1; cases e1
        exact h
      | _ => exact False.elim h
  | a j =>
    have r : fp.mv[j]? = some x := r
    have h : getCP w (.a j) fun _ => kb false := h
    unfold getCP getC at h
    cases q : w.a[j]? with
    | none => simp only [q] at h
    | some o =>
      simp only [q] at h
      cases o with
      | none => exact False.elim h
      | some c =>
        obtain ⟨b, e1, _⟩ := S.arg j c q
        rw [r] at e1; cases e1
        exact h
theorem r_isN {a : Expr} {sa : SE} {j : Nat} {pos pos' : Pos} (ha : PE X a (tE X.K Γ fp Wx sa)) : PE X (.Compare a [.Is] [.Constant .none j pos'] pos) (tE X.K Γ fp Wx (.isN false sa)) :=
  PE.imp (pe_cmp (pc_isN ha) rfl) fun σ H Q ⟨L, w, ex, k, S, ec, h, ep⟩ => one S ec h fun v w1 x L1 H1 hk S1 n1 r1 _ => by
    have q := isNP_end S1 r1 hk
    exact ep.fd (by simpa using q) S1 n1 (.bl _)
theorem r_notN {a : Expr} {sa : SE} {j : Nat} {pos pos' : Pos} (ha : PE X a (tE X.K Γ fp Wx sa)) : PE X (.Compare a [.IsNot] [.Constant .none j pos'] pos) (tE X.K Γ fp Wx (.isN true sa)) :=
  PE.imp (pe_cmp (pc_notN ha) rfl) fun σ H Q ⟨L, w, ex, k, S, ec, h, ep⟩ => one S ec h fun v w1 x L1 H1 hk S1 n1 r1 _ => by
    have q := isNP_end S1 r1 hk
    exact ep.fd (by simpa using q) S1 n1 (.bl _)
theorem truP_bool {x : D} {k : Bool → Prop} (h : truP x k) : ∃ b, x = .bool b ∧ k b := by
  cases x <;> first | exact False.elim h | exact ⟨_, rfl, h⟩
theorem r_isB {a : Expr} {sa : SE} {c : Bool} {j : Nat} {pos pos' : Pos} (ha : PE X a (tE X.K Γ fp Wx sa)) : PE X (.Compare a [.Is] [.Constant (.bool c) j pos'] pos) (tE X.K Γ fp Wx (.isB false c sa)) :=
  PE.imp (pe_cmpR op_isBl ha (pe_bl (b := c)) rfl) fun σ H Q ⟨L, w, ex, k, S, ec, h, ep⟩ => one S ec h fun v w1 x L1 H1 hk S1 n1 r1 _ => by
    obtain ⟨p, e1, hk⟩ := rdP_some hk
    replace hk := truP_bool hk
    obtain ⟨b, rfl, hk⟩ := hk
    have e := (VR.rd S1 r1 e1).bool
    exact ⟨b, c, e, rfl, ep.fd (by simpa using hk) S1 n1 (.bl _)⟩
theorem r_notB {a : Expr} {sa : SE} {c : Bool} {j : Nat} {pos pos' : Pos} (ha : PE X a (tE X.K Γ fp Wx sa)) : PE X (.Compare a [.IsNot] [.Constant (.bool c) j pos'] pos) (tE X.K Γ fp Wx (.isB true c sa)) :=
  PE.imp (pe_cmpR op_notBl ha (pe_bl (b := c)) rfl) fun σ H Q ⟨L, w, ex, k, S, ec, h, ep⟩ => one S ec h fun v w1 x L1 H1 hk S1 n1 r1 _ => by
    obtain ⟨p, e1, hk⟩ := rdP_some hk
    replace hk := truP_bool hk
    obtain ⟨b, rfl, hk⟩ := hk
    have e := (VR.rd S1 r1 e1).bool
    exact ⟨b, c, e, rfl, ep.fd (by simpa using hk) S1 n1 (.bl _)⟩

/-! ### and, or, not; tests -/
theorem r_one {op : BoolOp} {a : Expr} {sa : SE} {pos : Pos} (ha : PE X a (tE X.K Γ fp Wx sa)) : PE X (.BoolOp op [a] pos) (tE X.K Γ fp Wx sa) := pe_one ha
theorem r_and {a b : Expr} {rest : List Expr} {sa sb : SE} {pos : Pos} (ha : PE X a (tE X.K Γ fp Wx sa)) (hb : PE X (.BoolOp .And (b :: rest) pos) (tE X.K Γ fp Wx sb)) : PE X (.BoolOp .And (a :: b :: rest) pos) (tE X.K Γ fp Wx (.and sa sb)) :=
  PE.imp (pe_and ha hb) fun σ H Q ⟨L, w, ex, k, S, ec, h, ep⟩ => one S ec h fun v w1 x L1 H1 hk S1 n1 r1 _ => by
    obtain ⟨p, e1, hk⟩ := rdP_some hk
    replace hk := truP_bool hk
    obtain ⟨c, rfl, hk⟩ := hk
    refine ⟨c, (VR.rd S1 r1 e1).bool, ?_⟩
    cases c with
    | true =>
      rw [if_pos rfl] at hk ⊢
      exact ⟨L1, w1, ex, k, S1, ec.nx n1, hk, fun v w' x L' H' hk' S' n' r' f' => ep v w' x L' H' hk' S' (n1.trans n') r' (f'.anti n1.up)⟩
    | false =>
      rw [if_neg Bool.false_ne_true] at hk ⊢
      exact ep.fd hk S1 n1 (.bl false)
theorem r_or {a b : Expr} {rest : List Expr} {sa sb : SE} {pos : Pos} (ha : PE X a (tE X.K Γ fp Wx sa)) (hb : PE X (.BoolOp .Or (b :: rest) pos) (tE X.K Γ fp Wx sb)) : PE X (.BoolOp .Or (a :: b :: rest) pos) (tE X.K Γ fp Wx (.or sa sb)) :=
  PE.imp (pe_or ha hb) fun σ H Q ⟨L, w, ex, k, S, ec, h, ep⟩ => one S ec h fun v w1 x L1 H1 hk S1 n1 r1 _ => by
    obtain ⟨p, e1, hk⟩ := rdP_some hk
    replace hk := truP_bool hk
    obtain ⟨c, rfl, hk⟩ := hk
    refine ⟨c, (VR.rd S1 r1 e1).bool, ?_⟩
    cases c with
    | true =>
      rw [if_pos rfl] at hk ⊢
      exact ep.fd hk S1 n1 (.bl true)
    | false =>
      rw [if_neg Bool.false_ne_true] at hk ⊢
      exact ⟨L1, w1, ex, k, S1, ec.nx n1, hk, fun v w' x L' H' hk' S' n' r' f' => ep v w' x L' H' hk' S' (n1.trans n') r' (f'.anti n1.up)⟩
theorem r_not {a : Expr} {sa : SE} {pos : Pos} (ha : PE X a (tE X.K Γ fp Wx sa)) : PE X (.UnaryOp .Not a pos) (tE X.K Γ fp Wx (.not sa)) :=
  PE.imp (pe_not ha) fun σ H Q ⟨L, w, ex, k, S, ec, h, ep⟩ => one S ec h fun v w1 x L1 H1 hk S1 n1 r1 _ => by
    obtain ⟨p, e1, hk⟩ := rdP_some hk
    replace hk := truP_bool hk
    obtain ⟨c, rfl, hk⟩ := hk
    exact ⟨c, (VR.rd S1 r1 e1).bool, ep.fd hk S1 n1 (.bl _)⟩
theorem r_neg {a : Expr} {sa : SE} {pos : Pos} (ha : PE X a (tE X.K Γ fp Wx sa)) : PE X (.UnaryOp .USub a pos) (tE X.K Γ fp Wx (.neg sa)) :=
  PE.imp (pe_un un_neg ha) fun σ H Q ⟨L, w, ex, k, S, ec, h, ep⟩ => one S ec h fun v w1 x L1 H1 hk S1 n1 r1 _ => by
    obtain ⟨p, e1, hk⟩ := rdP_some hk
    cases p <;> first
      | exact False.elim hk
      | (have e := (VR.rd S1 r1 e1).int; exact ⟨_, e, ep.fd hk S1 n1 (.int _)⟩)
/-- a test of a truth -/
theorem t_e {a : Expr} {sa : SE} (ha : PE X a (tE X.K Γ fp Wx sa)) (he : ∀ whole, isTrue a X.env whole = (do let v ← whole; standAt a.pos; holding [v] (truthy v)) := by intro _; rfl) : PT X a (tT X.K Γ fp Wx (.e sa)) :=
  PT.imp (pt_val ha he) fun σ H Q ⟨L, w, ex, k, S, ec, h, ep⟩ => one S ec h fun v w1 x L1 H1 hk S1 n1 r1 _ => by
    obtain ⟨p, e1, hk⟩ := rdP_some hk
    replace hk := truP_bool hk
    obtain ⟨c, rfl, hk⟩ := hk
    exact ⟨c, (VR.rd S1 r1 e1).bool, ep c w1 L1 H1 hk S1 n1⟩
/-- a comparison as a test -/
theorem t_cmp (hu : X.A.units + 64 < cLine) (o : Cop) {a b : Expr} {sa sb : SE} {pos : Pos} (ha : PE X a (tE X.K Γ fp Wx sa)) (hb : PE X b (tE X.K Γ fp Wx sb)) (hm : behindInMarks (copOf o) b = false := by rfl) :
    PT X (.Compare a [copOf o] [b] pos) (tT X.K Γ fp Wx (.e (.cmp o sa sb))) :=
  PT.imp (pt_cmpR (op_cop hu o) ha hb hm) fun σ H Q ⟨L, w, ex, k, S, ec, h, ep⟩ => two S ec h fun v u w2 x y L2 H2 hk S2 n r1 r2 => by
    obtain ⟨p, e1, hk⟩ := rdP_some hk
    obtain ⟨q, e2, hk⟩ := rdP_some hk
    exact cop_end (Q := fun z H' => ∃ k : Bool, z = .bl k ∧ Q k H') o (VR.rd S2 r1 e1) (VR.rd S2 r2 e2) hk fun b hb => ⟨b, rfl, ep b w2 L2 H2 hb S2 n⟩
theorem t_chain (hu : X.A.units + 64 < cLine) (o o' : Cop) {a b c : Expr} {sa sb sc : SE} {pos : Pos} (ha : PE X a (tE X.K Γ fp Wx sa)) (hb : PE X b (tE X.K Γ fp Wx sb)) (hc : PE X c (tE X.K Γ fp Wx sc)) (hm : lastMarks [copOf o, copOf o'] [b, c] = false := by with_unfolding_all rfl) :
    PT X (.Compare a [copOf o, copOf o'] [b, c] pos) (tT X.K Γ fp Wx (.e (.chain o o' sa sb sc))) :=
  PT.imp (pt_chain (op_cop hu o) (op_cop hu o') ha hb hc hm) fun σ H Q ⟨L, w, ex, k, S, ec, h, ep⟩ => two S ec h fun v u w2 x y L2 H2 hk S2 n r1 r2 => by
    obtain ⟨p, e1, hk⟩ := rdP_some hk
    obtain ⟨q, e2, hk⟩ := rdP_some hk
    refine cop_end (Q := fun z H3 => ∃ k : Bool, z = .bl k ∧ if k = true then tE X.K Γ fp Wx sc σ H3 (fun z' H4 => rCop X.K o' y z' H4 (fun x H' => ∃ k : Bool, x = .bl k ∧ Q k H')) else (fun (x : V) H' => ∃ k : Bool, x = .bl k ∧ Q k H') (.bl false) H3) o (VR.rd S2 r1 e1) (VR.rd S2 r2 e2) hk fun r hr => ⟨r, rfl, ?_⟩
    cases r with
    | false =>
      rw [if_neg Bool.false_ne_true]
      rw [if_neg Bool.false_ne_true] at hr
      exact ⟨false, rfl, ep false w2 L2 H2 hr S2 n⟩
    | true =>
      rw [if_pos rfl]
      rw [if_pos rfl] at hr
      refine one S2 (ec.nx n) hr fun v3 w3 z L3 H3 hk3 S3 n3 r3 _ => ?_
      obtain ⟨p', e1', hk3⟩ := rdP_some hk3
      obtain ⟨q', e2', hk3⟩ := rdP_some hk3
      exact cop_end (Q := fun z H' => ∃ k : Bool, z = .bl k ∧ Q k H') o' (VR.rd S3 (r2.next S2 n3) e1') (VR.rd S3 r3 e2') hk3 fun b hb => ⟨b, rfl, ep b w3 L3 H3 hb S3 (n.trans n3)⟩
theorem t_isN {a : Expr} {sa : SE} {j : Nat} {pos pos' : Pos} (ha : PE X a (tE X.K Γ fp Wx sa)) : PT X (.Compare a [.Is] [.Constant .none j pos'] pos) (tT X.K Γ fp Wx (.e (.isN false sa))) :=
  PT.imp (pt_cmp (pc_isN ha) rfl) fun σ H Q ⟨L, w, ex, k, S, ec, h, ep⟩ => one S ec h fun v w1 x L1 H1 hk S1 n1 r1 _ => by
    have q := isNP_end S1 r1 hk
    have q : k (false != decide (x = .non)) w1 := q
    exact ⟨_, rfl, ep _ w1 L1 H1 (by simpa using q) S1 n1⟩
theorem t_notN {a : Expr} {sa : SE} {j : Nat} {pos pos' : Pos} (ha : PE X a (tE X.K Γ fp Wx sa)) : PT X (.Compare a [.IsNot] [.Constant .none j pos'] pos) (tT X.K Γ fp Wx (.e (.isN true sa))) :=
  PT.imp (pt_cmp (pc_notN ha) rfl) fun σ H Q ⟨L, w, ex, k, S, ec, h, ep⟩ => one S ec h fun v w1 x L1 H1 hk S1 n1 r1 _ => by
    have q := isNP_end S1 r1 hk
    have q : k (true != decide (x = .non)) w1 := q
    exact ⟨_, rfl, ep _ w1 L1 H1 (by simpa using q) S1 n1⟩
theorem t_isB {a : Expr} {sa : SE} {c : Bool} {j : Nat} {pos pos' : Pos} (ha : PE X a (tE X.K Γ fp Wx sa)) : PT X (.Compare a [.Is] [.Constant (.bool c) j pos'] pos) (tT X.K Γ fp Wx (.e (.isB false c sa))) :=
  PT.imp (pt_cmpR op_isBl ha (pe_bl (b := c)) rfl) fun σ H Q ⟨L, w, ex, k, S, ec, h, ep⟩ => one S ec h fun v w1 x L1 H1 hk S1 n1 r1 _ => by
    obtain ⟨p, e1, hk⟩ := rdP_some hk
    replace hk := truP_bool hk
    obtain ⟨b, rfl, hk⟩ := hk
    have e := (VR.rd S1 r1 e1).bool
    have hk : k (false != decide (b = c)) w1 := hk
    exact ⟨b, c, e, rfl, _, rfl, ep _ w1 L1 H1 (by simpa using hk) S1 n1⟩
theorem t_notB {a : Expr} {sa : SE} {c : Bool} {j : Nat} {pos pos' : Pos} (ha : PE X a (tE X.K Γ fp Wx sa)) : PT X (.Compare a [.IsNot] [.Constant (.bool c) j pos'] pos) (tT X.K Γ fp Wx (.e (.isB true c sa))) :=
  PT.imp (pt_cmpR op_notBl ha (pe_bl (b := c)) rfl) fun σ H Q ⟨L, w, ex, k, S, ec, h, ep⟩ => one S ec h fun v w1 x L1 H1 hk S1 n1 r1 _ => by
    obtain ⟨p, e1, hk⟩ := rdP_some hk
    replace hk := truP_bool hk
    obtain ⟨b, rfl, hk⟩ := hk
    have e := (VR.rd S1 r1 e1).bool
    have hk : k (true != decide (b = c)) w1 := hk
    exact ⟨b, c, e, rfl, _, rfl, ep _ w1 L1 H1 (by simpa using hk) S1 n1⟩
theorem t_not {a : Expr} {sa : ST} {pos : Pos} (ha : PT X a (tT X.K Γ fp Wx sa)) : PT X (.UnaryOp .Not a pos) (tT X.K Γ fp Wx (.not sa)) :=
  PT.imp (pt_not ha) fun σ H Q ⟨L, w, ex, k, S, ec, h, ep⟩ => ⟨L, w, ex, _, S, ec, h, fun v w1 L1 H1 hk S1 n1 => ep _ w1 L1 H1 hk S1 n1⟩
theorem t_and1 {a : Expr} {sa : ST} {pos : Pos} (ha : PT X a (tT X.K Γ fp Wx sa)) : PW X (.BoolOp .And [a] pos) (tT X.K Γ fp Wx sa) := pw_and1 ha
theorem t_or1 {a : Expr} {sa : ST} {pos : Pos} (ha : PT X a (tT X.K Γ fp Wx sa)) : PW X (.BoolOp .Or [a] pos) (tT X.K Γ fp Wx sa) := pw_or1 ha
theorem t_and {a b : Expr} {rest : List Expr} {sa sb : ST} {pos : Pos} (ha : PT X a (tT X.K Γ fp Wx sa)) (hb : PW X (.BoolOp .And (b :: rest) pos) (tT X.K Γ fp Wx sb)) : PW X (.BoolOp .And (a :: b :: rest) pos) (tT X.K Γ fp Wx (.and sa sb)) :=
  PW.imp (pw_and ha hb) fun σ H Q ⟨L, w, ex, k, S, ec, h, ep⟩ => ⟨L, w, ex, _, S, ec, h, fun c w1 L1 H1 hk S1 n1 => by
    cases c with
    | true =>
      rw [if_pos rfl] at hk ⊢
      exact ⟨L1, w1, ex, k, S1, ec.nx n1, hk, fun v w' L' H' hk' S' n' => ep v w' L' H' hk' S' (n1.trans n')⟩
    | false =>
      rw [if_neg Bool.false_ne_true] at hk ⊢
      exact ep false w1 L1 H1 hk S1 n1⟩
theorem t_or {a b : Expr} {rest : List Expr} {sa sb : ST} {pos : Pos} (ha : PT X a (tT X.K Γ fp Wx sa)) (hb : PW X (.BoolOp .Or (b :: rest) pos) (tT X.K Γ fp Wx sb)) : PW X (.BoolOp .Or (a :: b :: rest) pos) (tT X.K Γ fp Wx (.or sa sb)) :=
  PW.imp (pw_or ha hb) fun σ H Q ⟨L, w, ex, k, S, ec, h, ep⟩ => ⟨L, w, ex, _, S, ec, h, fun c w1 L1 H1 hk S1 n1 => by
    cases c with
    | true =>
      rw [if_pos rfl] at hk ⊢
      exact ep true w1 L1 H1 hk S1 n1
    | false =>
      rw [if_neg Bool.false_ne_true] at hk ⊢
      exact ⟨L1, w1, ex, k, S1, ec.nx n1, hk, fun v w' L' H' hk' S' n' => ep v w' L' H' hk' S' (n1.trans n')⟩⟩
theorem r_ife {c a b : Expr} {sc : ST} {sa sb : SE} {pos : Pos} (hc : PT X c (tT X.K Γ fp Wx sc)) (ha : PE X a (tE X.K Γ fp Wx sa)) (hb : PE X b (tE X.K Γ fp Wx sb)) : PE X (.IfExp c a b pos) (tE X.K Γ fp Wx (.ife sc sa sb)) :=
  PE.imp (pe_ifExp hc ha hb) fun σ H Q ⟨L, w, ex, k, S, ec, h, ep⟩ => ⟨L, w, ex, _, S, ec, h, fun c w1 L1 H1 hk S1 n1 => by
    have fin : EPst X.K fp σ L1 w1 H1 k Q := fun v w' x L' H' hk' S' n' r' f' => ep v w' x L' H' hk' S' (n1.trans n') r' (f'.anti n1.up)
    cases c with
    | true =>
      rw [if_pos rfl] at hk
      exact iteT ⟨L1, w1, ex, k, S1, ec.nx n1, hk, fin⟩
    | false =>
      rw [if_neg Bool.false_ne_true] at hk
      exact iteF ⟨L1, w1, ex, k, S1, ec.nx n1, hk, fin⟩⟩
end
end Lb
/-! ## Lb4 -/
/-! Lb4: slots stored, things given up, displays, arguments, subscripts, slices. -/
namespace Lb
open PySem PySem.Spec L2

section
variable {K : PySem.W.Frag} {fp : Fp} {L L' : Addr → Prop} {w w' : W} {σ : L2.St} {H H' : Hp} {F F' : Addr → Prop}
theorem SlR.weak (hF : ∀ b, F' b → F b) (ha : w'.a = w.a) : ∀ {s : Sl} {o : Option (Option V)}, SlR K fp H F w s o → SlR K fp H F' w' s o
  | .no, _, _ => trivial
  | .d _, _, ⟨v, e, r⟩ => ⟨v, e, r.weak hF⟩
  | .o _, _, ⟨b, e, r, n⟩ => ⟨b, e, r.weak hF, n⟩
  | .a _, _, ⟨b, c, e, m, q⟩ => ⟨b, c, e, m, by rw [ha]; exact q⟩
  | .f _, _, h => h
  | .z _, _, h => h
  | .x _, _, h => h
theorem set_get {α : Type} {l : List α} {i j : Nat} {x y : α} (h : (l.set i x)[j]? = some y) : (j = i ∧ y = x ∧ i < l.length) ∨ (j ≠ i ∧ l[j]? = some y) := by
  by_cases e : i = j
  · subst e
    by_cases hi : i < l.length
    · rw [List.getElem?_set_self hi] at h
      exact .inl ⟨rfl, (Option.some.inj h).symm, hi⟩
    · rw [List.getElem?_eq_none (by simpa using hi)] at h
      cases h
  · rw [List.getElem?_set_ne e] at h
    exact .inr ⟨fun z => e z.symm, h⟩
theorem own_set {i : Nat} {sl : Sl} {x : Option V} (hno : ∀ c, sl ≠ .o c) {b : Addr} (h : OwnAt (w.setR i sl) (σ.set i x) b) : ∃ (j : Nat) (c : CV), j ≠ i ∧ w.r[j]? = some (Sl.o c) ∧ σ[j]? = some (some (V.ref b)) := by
  obtain ⟨j, c, h1, h2⟩ := h
  rcases set_get h1 with ⟨_, e, _⟩ | ⟨ne, h1⟩
  · exact absurd e.symm (hno c)
  · rw [List.getElem?_set_ne (Ne.symm ne)] at h2
    exact ⟨j, c, ne, h1, h2⟩
/-- a slot is stored with what is no own thing -/
theorem SR.store (S : SR K fp L w σ H) {i : Nat} {sl : Sl} {x : Option V} (hno : ∀ c, sl ≠ .o c) (hs : SlR K fp H (FA fp L (w.setR i sl) (σ.set i x)) w sl (some x)) : SR K fp L (w.setR i sl) (σ.set i x) H := by
  have hM : ∀ b, MA fp (w.setR i sl) (σ.set i x) b → MA fp w σ b := fun b hb => hb.elim (fun q => by
    obtain ⟨j, c, _, h1, h2⟩ := own_set hno q
    exact .inl ⟨j, c, h1, h2⟩) .inr
  have hF : ∀ b, FA fp L (w.setR i sl) (σ.set i x) b → FA fp L w σ b := fun b hb => hb.elim .inl fun q => .inr (hM b q)
  refine ⟨?_, fun j s e => ?_, fun j c e => ?_, fun j j' b c c' e1 e2 e3 e4 => ?_, S.argI, fun b hb => S.dis b (hM b hb), S.tr, S.keep⟩
  · show (w.r.set i sl).length = (σ.set i x).length
    rw [List.length_set, List.length_set, S.len]
  · rcases set_get e with ⟨rfl, rfl, hi⟩ | ⟨ne, e⟩
    · rw [List.getElem?_set_self (by rw [← S.len]; exact hi)]
      exact hs.weak (fun _ z => z) rfl
    · rw [List.getElem?_set_ne (Ne.symm ne)]
      exact (S.slot j s e).weak hF rfl
  · obtain ⟨b, e1, r, n⟩ := S.arg j c e
    exact ⟨b, e1, r.weak hF, n⟩
  · rcases set_get e1 with ⟨_, q, _⟩ | ⟨n1, e1⟩
    · exact absurd q.symm (hno c)
    rcases set_get e3 with ⟨_, q, _⟩ | ⟨n2, e3⟩
    · exact absurd q.symm (hno c')
    rw [List.getElem?_set_ne (Ne.symm n1)] at e2
    rw [List.getElem?_set_ne (Ne.symm n2)] at e4
    exact S.ownI j j' b c c' e1 e2 e3 e4
/-- a slot takes a new thing -/
theorem SR.storeO (S : SR K fp L w σ H) {i : Nat} {c : CV} {b : Addr} (hL : ∀ z, L' z → L z ∧ z ≠ b) (hb : L b) (h0 : fp.H0 b = none) (r : CR K H (FA fp L w σ) b c) : SR K fp L' (w.setR i (.o c)) (σ.set i (some (.ref b))) H := by
  have hO : ∀ z, OwnAt (w.setR i (.o c)) (σ.set i (some (.ref b))) z → z = b ∨ OwnAt w σ z := fun z ⟨j, c', h1, h2⟩ => by
    rcases set_get h1 with ⟨e, _, hi⟩ | ⟨ne, h1⟩
    · subst e
      rw [List.getElem?_set_self (by rw [← S.len]; exact hi)] at h2
      cases h2
      exact .inl rfl
    · rw [List.getElem?_set_ne (Ne.symm ne)] at h2
      exact .inr ⟨j, c', h1, h2⟩
  have hF : ∀ z, FA fp L' (w.setR i (.o c)) (σ.set i (some (.ref b))) z → FA fp L w σ z := fun z hz => by
    rcases hz with q | q | q
    · exact .inl (hL z q).1
    · rcases hO z q with e | q
      · exact .inl (e ▸ hb)
      · exact .inr (.inl q)
    · exact .inr (.inr q)
  refine ⟨?_, fun j s e => ?_, fun j c e => ?_, fun j j' z c1 c2 e1 e2 e3 e4 => ?_, S.argI, fun z hz hl => ?_, fun z hz => S.tr z (hL z hz).1, S.keep⟩
  · show (w.r.set i _).length = (σ.set i _).length
    rw [List.length_set, List.length_set, S.len]
  · rcases set_get e with ⟨rfl, rfl, hi⟩ | ⟨ne, e⟩
    · rw [List.getElem?_set_self (by rw [← S.len]; exact hi)]
      exact ⟨b, rfl, r.weak hF, h0⟩
    · rw [List.getElem?_set_ne (Ne.symm ne)]
      exact (S.slot j s e).weak hF rfl
  · obtain ⟨z, e1, r, n⟩ := S.arg j c e
    exact ⟨z, e1, r.weak hF, n⟩
  · rcases set_get e1 with ⟨x1, q, hi⟩ | ⟨n1, f1⟩
    · rcases set_get e3 with ⟨x2, q, hi⟩ | ⟨n2, f3⟩
      · rw [x1, x2]
      · subst x1
        rw [List.getElem?_set_self (by rw [← S.len]; exact hi)] at e2
        rw [List.getElem?_set_ne (Ne.symm n2)] at e4
        cases e2
        exact absurd hb (S.dis _ (.inl ⟨j', c2, f3, e4⟩))
    · rw [List.getElem?_set_ne (Ne.symm n1)] at e2
      rcases set_get e3 with ⟨x2, q, hi⟩ | ⟨n2, f3⟩
      · subst x2
        rw [List.getElem?_set_self (by rw [← S.len]; exact hi)] at e4
        cases e4
        exact absurd hb (S.dis _ (.inl ⟨j, c1, f1, e2⟩))
      · rw [List.getElem?_set_ne (Ne.symm n2)] at e4
        exact S.ownI j j' z c1 c2 f1 e2 f3 e4
  · obtain ⟨q1, q2⟩ := hL z hl
    rcases hz with q | q
    · rcases hO z q with e | q
      · exact q2 e
      · exact S.dis z (.inl q) q1
    · exact S.dis z (.inr q) q1
theorem set_same {α : Type} : ∀ {l : List α} {i : Nat} {x : α}, l[i]? = some x → l.set i x = l
  | [], _, _, _ => rfl
  | _ :: _, 0, _, h => by cases h; rfl
  | a :: l, i + 1, x, h => by
    show a :: l.set i x = a :: l
    rw [set_same (l := l) (by simpa using h)]
/-- an own thing is given up: data from now on -/
theorem SR.freeze (S : SR K fp L w σ H) {i : Nat} {c : CV} (q : w.r[i]? = some (.o c)) : ∃ b, σ[i]? = some (some (.ref b)) ∧ SR K fp L (w.setR i (.d c.dat)) σ H ∧ DR K H (FA fp L (w.setR i (.d c.dat)) σ) (.ref b) c.dat ∧ ∀ z, MA fp (w.setR i (.d c.dat)) σ z → MA fp w σ z := by
  obtain ⟨b, e, r, h0⟩ := S.slot i _ q
  have es : σ.set i (some (.ref b)) = σ := set_same e
  have hO : ∀ z, OwnAt (w.setR i (.d c.dat)) σ z → ∃ (j : Nat) (c' : CV), j ≠ i ∧ w.r[j]? = some (Sl.o c') ∧ σ[j]? = some (some (V.ref z)) := fun z hz => by
    rw [← es] at hz
    exact own_set (sl := .d c.dat) (fun _ z => by cases z) hz
  have hM : ∀ z, MA fp (w.setR i (.d c.dat)) σ z → MA fp w σ z := fun z hz => hz.elim (fun h => by
    obtain ⟨j, c', _, h1, h2⟩ := hO z h
    exact .inl ⟨j, c', h1, h2⟩) .inr
  have d : DR K H (FA fp L (w.setR i (.d c.dat)) σ) (.ref b) c.dat := by
    refine (r.weak (F' := FA fp L (w.setR i (.d c.dat)) σ) fun z hz => hz.elim .inl fun q => .inr (hM z q)).dat fun hz => ?_
    rcases hz with hz | hz | ⟨j, c', h1, h2⟩
    · exact S.dis b (.inl ⟨i, c, q, e⟩) hz
    · obtain ⟨j, c', ne, h1, h2⟩ := hO b hz
      exact ne (S.ownI j i b c' c h1 h2 q e)
    · obtain ⟨b', e1, _, n⟩ := S.arg j c' h1
      rw [h2] at e1; cases e1
      exact n h0
  refine ⟨b, e, ?_, d, hM⟩
  have := S.store (i := i) (sl := .d c.dat) (x := some (.ref b)) (fun _ z => by cases z) ⟨.ref b, rfl, by rw [es]; exact d⟩
  rw [es] at this
  exact this
/-- a value becomes data -/
theorem dat_end {L1 : Addr → Prop} {w1 : W} {H1 : Hp} {v : Vl} {x : V} {kk : D → W → Prop} (S : SR K fp L w σ H) (S1 : SR K fp L1 w1 σ H1) (n1 : Nx fp σ L w H L1 w1 H1) (r1 : VR K fp L1 w1 σ H1 v x) (f1 : NF L v x) (hk : datP w1 v kk) :
    ∃ (p : D) (w2 : W) (L2 : Addr → Prop), kk p w2 ∧ SR K fp L2 w2 σ H1 ∧ Nx fp σ L w H L2 w2 H1 ∧ DR K H1 (FA fp L2 w2 σ) x p ∧ (∀ z, L2 z → L1 z) := by
  cases v with
  | d p => exact ⟨p, w1, L1, hk, S1, n1, r1, fun _ z => z⟩
  | n c =>
    obtain ⟨b, rfl, hb, r⟩ := r1
    have nb : ¬ L b := f1 b rfl
    refine ⟨c.dat, w1, fun z => L1 z ∧ z ≠ b, hk, S1.weak fun _ z => z.1, ⟨n1.st, n1.ma, fun z hz => ⟨n1.up z hz, fun e => nb (e ▸ hz)⟩, fun z hz => n1.nw z hz.1, n1.ke⟩, ?_, fun _ z => z.1⟩
    refine (r.weak (F' := FA fp (fun z => L1 z ∧ z ≠ b) w1 σ) fun z hz => hz.elim (fun q => .inl q.1) .inr).dat fun hz => ?_
    rcases hz with ⟨_, hz⟩ | hz
    · exact hz rfl
    · exact S1.dis b hz hb
  | s i =>
    have r1 : σ[i]? = some (some x) := r1
    unfold datP at hk
    simp only at hk
    cases q : w1.r[i]? with
    | none => rw [q] at hk; exact hk.elim
    | some sl =>
      rw [q] at hk
      cases sl with
      | o c =>
        obtain ⟨b, e, S2, d, hM⟩ := S1.freeze q
        rw [r1] at e; cases e
        exact ⟨c.dat, _, L1, hk, S2, ⟨n1.st, fun z hz => n1.ma z (hM z hz), n1.up, n1.nw, n1.ke⟩, d, fun _ z => z⟩
      | d p =>
        obtain ⟨v, e, r⟩ := S1.slot i _ q
        rw [r1] at e; cases e
        exact ⟨p, w1, L1, hk, S1, n1, r, fun _ z => z⟩
      | _ => exact False.elim hk
  | _ => exact False.elim hk
end

section
variable {X : Cx} {Γ : Sg} {fp : Fp} {Wx : WX}
theorem NFs.anti : ∀ {vs : List Vl} {xs : List V} {L L' : Addr → Prop}, (∀ b, L b → L' b) → NFs L' vs xs → NFs L vs xs
  | [], _, _, _, _, _ => by unfold NFs; trivial
  | _ :: _, [], _, _, _, _ => by unfold NFs; trivial
  | v :: vs, x :: xs, L, L', h, q => by
    obtain ⟨q1, q2⟩ := (show NF L' v x ∧ NFs (addN L' v x) vs xs from q)
    refine ⟨q1.anti h, NFs.anti (fun b z => ?_) q2⟩
    unfold addN at z ⊢
    cases v <;> first
      | exact h b z
      | (cases x <;> first
          | exact h b z
          | exact z.elim (fun y => .inl (h b y)) .inr)
theorem a_nil : PA X [] (tA X.K Γ fp Wx .nil) := PA.imp pa_nil fun σ H Q ⟨L, w, ex, k, S, ec, h, fin⟩ => fin [] w [] L H h S Nx.refl trivial trivial
theorem a_cons {e : Expr} {es : List Expr} {se : SE} {ses : SEs} (ha : PE X e (tE X.K Γ fp Wx se)) (hr : PA X es (tA X.K Γ fp Wx ses)) (hs : starEach (e :: es) X.env = (false, eval e X.env) :: starEach es X.env := by rfl) : PA X (e :: es) (tA X.K Γ fp Wx (.cons se ses)) :=
  PA.imp (pa_cons ha hr hs) fun σ H Q ⟨L, w, ex, k, S, ec, h, fin⟩ => one S ec h fun v w1 x L1 H1 hk S1 n1 r1 f1 => ⟨L1, w1, ex, _, S1, ec.nx n1, hk, fun vs w2 xs L2 H2 hk2 S2 n2 rs fs => by
    refine fin (v :: vs) w2 (x :: xs) L2 H2 hk2 S2 (n1.trans n2) ⟨r1.next S1 n2, rs⟩ ⟨f1, fs.anti fun b z => ?_⟩
    unfold addN at z
    cases v <;> first
      | exact n1.up b z
      | (cases x <;> first
          | exact n1.up b z
          | exact z.elim (n1.up b) fun e => by
              obtain ⟨b', e', l, _⟩ := r1
              cases e'
              rw [e]; exact l)⟩
theorem d_nil : PA X [] (tD X.K Γ fp Wx .nil) := PA.imp pa_nil fun σ H Q ⟨L, w, ex, k, S, ec, h, fin⟩ => fin [] w [] L H h S Nx.refl .nil
theorem d_cons {e : Expr} {es : List Expr} {se : SE} {ses : SEs} (ha : PE X e (tE X.K Γ fp Wx se)) (hr : PA X es (tD X.K Γ fp Wx ses)) (hs : starEach (e :: es) X.env = (false, eval e X.env) :: starEach es X.env := by rfl) : PA X (e :: es) (tD X.K Γ fp Wx (.cons se ses)) :=
  PA.imp (pa_cons ha hr hs) fun σ H Q ⟨L, w, ex, k, S, ec, h, fin⟩ => one S ec h fun v w1 x L1 H1 hk S1 n1 r1 f1 => by
    obtain ⟨p, w2, L2, hk2, S2, n2, d2, _⟩ := dat_end S S1 n1 r1 f1 hk
    refine ⟨L2, w2, ex, _, S2, ec.nx n2, hk2, fun ds w3 xs L3 H3 hk3 S3 n3 rs => ?_⟩
    exact fin (p :: ds) w3 (x :: xs) L3 H3 hk3 S3 (n2.trans n3) (.cons (DR.step n3.st S2.mut (fun _ z => .inr z) n3.fa d2) rs)
theorem r_tup {es : List Expr} {k' : Nat} {ses : SEs} {pos : Pos} (h : PA X es (tD X.K Γ fp Wx ses)) : PE X (.Tuple es k' pos) (tE X.K Γ fp Wx (.tup ses)) :=
  PE.imp (pe_tup h) fun σ H Q ⟨L, w, ex, k, S, ec, h, ep⟩ => ⟨L, w, ex, _, S, ec, h, fun ds w1 xs L1 H1 hk S1 n1 rs => ⟨by rw [rs.length]; exact hk.1, fun p hp => ep.ft hk.2 S1 n1 rs hp⟩⟩
theorem r_lst {es : List Expr} {ses : SEs} {pos : Pos} (h : PA X es (tD X.K Γ fp Wx ses)) : PE X (.List es pos) (tE X.K Γ fp Wx (.lst ses)) :=
  PE.imp (pe_lst h) fun σ H Q ⟨L, w, ex, k, S, ec, h, ep⟩ => ⟨L, w, ex, _, S, ec, h, fun ds w1 xs L1 H1 hk S1 n1 rs => ⟨by rw [rs.length]; exact hk.1, fun p hp => ep.fl S hk.2 S1 n1 rs hp⟩⟩
theorem r_dic0 {pos : Pos} : PE X (.Dict [] [] pos) (tE X.K Γ fp Wx .dic0) :=
  PE.imp pe_dnewK fun σ H Q ⟨L, w, ex, k, S, ec, h, ep⟩ => fun p hp => ep (.n (.m [])) w (.ref p) (withA L p) _ h (S.laid hp) (Nx.laid hp) ⟨p, rfl, .inr rfl, .m upd_same .nil⟩ fun b e z => by
    cases e
    exact S.tr p z hp

/-! ### subscripts -/
theorem r_ix {a b : Expr} {sa sb : SE} {pos : Pos} (ha : PE X a (tE X.K Γ fp Wx sa)) (hb : PE X b (tE X.K Γ fp Wx sb)) (hs : PlainIx b := by intro _ _; rfl) : PE X (.Subscript a b pos) (tE X.K Γ fp Wx (.ix sa sb)) :=
  PE.imp (pe_ix (IxR.or (IxR.or ix_list ix_tup) ix_str) ha hb hs) fun σ H Q ⟨L, w, ex, k, S, ec, h, ep⟩ => two S ec h fun v u w2 x y L2 H2 hk S2 n r1 r2 => by
    obtain ⟨q, e2, hk⟩ := rdP_some hk
    have t2 := VR.rd S2 r2 e2
    -- items of data
    have seq : ∀ (vs : List V) (ds : List D) (i : Int), DRs X.K H2 (FA fp L2 w2 σ) vs ds → ixD ds i (fun v => k (.d v) w2) → ∃ z, atI vs i = some z ∧ Q z H2 := fun vs ds i r h => by
      unfold ixD at h
      cases e : atI ds i with
      | none => rw [e] at h; exact h.elim
      | some d =>
        rw [e] at h
        unfold atI at e ⊢
        rw [r.length]
        cases e' : ixN ds.length i with
        | none => rw [e'] at e; cases e
        | some j =>
          rw [e'] at e
          obtain ⟨z, h1, h2⟩ := r.get (i := j) e
          exact ⟨z, h1, ep.fd h S2 n h2⟩
    obtain ⟨p, e1, hk⟩ := rdP_some hk
    have t1 := VR.rd S2 r1 e1
    cases p with
    | list ds =>
      cases q <;> first
        | exact False.elim hk
        | (obtain ⟨b1, vs, rfl, hs, r⟩ := t1.lst
           have e := t2.int
           subst e
           obtain ⟨z, h1, h2⟩ := seq vs ds _ r hk
           exact .inl (.inl ⟨b1, vs, _, z, rfl, rfl, SqL.of hs, h1, h2⟩))
    | tuple ds =>
      cases q <;> first
        | exact False.elim hk
        | (obtain ⟨b1, vs, rfl, hs, r⟩ := t1.tup
           have e := t2.int
           subst e
           obtain ⟨z, h1, h2⟩ := seq vs ds _ r hk
           exact .inl (.inr ⟨b1, vs, _, z, rfl, rfl, hs, h1, h2⟩))
    | str z =>
      cases q <;> first
        | exact False.elim hk
        | (obtain ⟨rfl, hz⟩ := t1.str
           have e := t2.int
           subst e
           unfold ixP at hk
           simp only at hk
           split at hk
           · rename_i c e
             refine .inr ⟨z, _, c, rfl, rfl, hz, e, ep.fd hk S2 n (.str _ ?_)⟩
             show 1 ≤ sizeLine
             decide
           · exact hk.elim)
    | _ => cases q <;> exact False.elim hk
/-- the script's length, an item of it -/
theorem r_zlen {i : Nat} {x : Str} {p p2 pos : Pos} (hg : Gl X "len") (hm : X.mg "len" = none) (hN : X.N[i]? = some x) (hv : Vis X.env.scope x := by first | exact Or.inl rfl | exact Or.inr (Or.inl rfl) | exact Or.inr (Or.inr rfl)) (hd : (x == ("__debug__" : Str)) = false := by decide)
    (hcd : (x == ("__classdict__" : Str)) = false := by decide) (hs : starEach (.Name x p2 :: []) X.env = (false, eval (.Name x p2) X.env) :: starEach [] X.env := by rfl) (hpl : (backTo pos (starEach [] X.env)).any (·.1) = false := by rfl) :
    PE X (.Call (.Name "len" p) [.Name x p2] [] pos) (tE X.K Γ fp Wx (.zlen i)) :=
  PE.imp (pe_callB call_len_seq hg hm PySem.boot_len (pa_cons (pe_var hN hv hd hcd) pa_nil hs) (by decide) (by decide) hs hpl) fun σ H Q ⟨L, w, ex, k, S, ec, h, ep⟩ => by
    have h : (match w.r[i]? with
      | some (.z ns) => k (.d (.int (ns.length : Nat))) w
      | _ => False) := h
    cases q : w.r[i]? with
    | none => rw [q] at h; exact h.elim
    | some sl =>
      rw [q] at h
      cases sl with
      | z ns =>
        obtain ⟨b, e, hz, hf⟩ := S.slot i _ q
        refine ⟨_, e, b, ns.map V.int, rfl, .inl (hf.elim (fun ⟨ob, h⟩ => .inl (.inr ⟨ob, h⟩)) .inr), ?_⟩
        rw [List.length_map]
        exact ep.fd h S Nx.refl (.int _)
      | _ => exact False.elim h
theorem atI_map {ns : List Int} {n m : Int} (e : atI ns n = some m) : atI (ns.map V.int) n = some (V.int m) := by
  unfold atI at e ⊢
  rw [List.length_map]
  cases e' : ixN ns.length n with
  | none => rw [e'] at e; cases e
  | some j =>
    rw [e'] at e
    show (ns.map V.int)[j]? = some (V.int m)
    rw [List.getElem?_map, show ns[j]? = some m from e]
    rfl
theorem intP_some {x : D} {f : Int → Prop} (h : intP x f) : ∃ i, x = .int i ∧ f i := by
  cases x <;> first | exact False.elim h | exact ⟨_, rfl, h⟩
theorem r_zix {i : Nat} {x : Str} {b : Expr} {sb : SE} {p2 pos : Pos} (hN : X.N[i]? = some x) (hb : PE X b (tE X.K Γ fp Wx sb)) (hv : Vis X.env.scope x := by first | exact Or.inl rfl | exact Or.inr (Or.inl rfl) | exact Or.inr (Or.inr rfl)) (hd : (x == ("__debug__" : Str)) = false := by decide)
    (hcd : (x == ("__classdict__" : Str)) = false := by decide) (hs : PlainIx b := by intro _ _; rfl) : PE X (.Subscript (.Name x p2) b pos) (tE X.K Γ fp Wx (.zix i sb)) := by
  refine PE.imp (pe_ix ix_list (pe_var (i := i) hN hv hd hcd) hb hs) fun σ H Q ⟨L, w, ex, k, S, ec, h, ep⟩ => ?_
  have h : (match w.r[i]? with
    | some (.z ns) => evE Γ sb w ex fun y w1 => rdP w1 y fun q => intP q fun n => optP (atI ns n) fun m => k (.d (.int m)) w1
    | _ => False) := h
  cases q : w.r[i]? with
  | none => rw [q] at h; exact h.elim
  | some sl =>
    rw [q] at h
    cases sl with
    | z ns =>
      obtain ⟨b, e, hz, hf⟩ := S.slot i _ q
      refine ⟨_, e, one S ec h fun v w1 y L1 H1 hk S1 n1 r1 _ => ?_⟩
      obtain ⟨d, e1, hk⟩ := rdP_some hk
      obtain ⟨m, e2, hk⟩ := intP_some hk
      subst e2
      obtain ⟨m', e3, hk⟩ := optP_some hk
      have e4 := (VR.rd S1 r1 e1).int
      have hf1 := n1.st.frzL S.mut hf
      exact ⟨b, ns.map V.int, m, _, rfl, e4, hf1.elim (fun ⟨ob, h⟩ => .inl (.inr ⟨ob, h⟩)) .inr, atI_map e3, ep.fd hk S1 n1 (.int _)⟩
    | _ => exact False.elim h
/-! ### slices -/
theorem o_no : PO X none (tOo X.K Γ fp Wx .no) := PO.imp po_none fun σ H Q ⟨L, w, ex, k, S, ec, h, fin⟩ => fin none w L H h S Nx.refl
theorem o_so {e : Expr} {se : SE} (he : PE X e (tE X.K Γ fp Wx se)) : PO X (some e) (tOo X.K Γ fp Wx (.so se)) := PO.imp (po_some he) fun σ H Q ⟨L, w, ex, k, S, ec, h, fin⟩ => one S ec h fun v w1 x L1 H1 hk S1 n1 r1 _ => by
  obtain ⟨p, e1, hk⟩ := rdP_some hk
  cases p <;> first
    | exact False.elim hk
    | (have e := (VR.rd S1 r1 e1).int; exact ⟨_, e, fin _ w1 L1 H1 hk S1 n1⟩)
theorem SlR'.or {r r' : V → Option Int → Option Int → Hp → VK → Prop} (h : L2.SlR X r) (h' : L2.SlR X r') : L2.SlR X (fun x lo hi H Q => r x lo hi H Q ∨ r' x lo hi H Q) := by
  intro pins s σ H x v vl vu lo hi sl Q I rx hs pl pu q
  rcases q with q | q
  · exact h pins s σ H x v vl vu lo hi sl Q I rx hs pl pu q
  · exact h' pins s σ H x v vl vu lo hi sl Q I rx hs pl pu q
theorem cutS_len (z : Str) (lo hi : Option Int) : (cutS z lo hi).length ≤ z.length := by
  unfold cutS
  show (List.toArray _).size ≤ _
  rw [List.size_toArray, List.length_take, List.length_drop]
  show _ ≤ z.cps.size
  rw [← Array.length_toList]
  omega
theorem cut_rep {K : PySem.W.Frag} {H : Hp} {F : Addr → Prop} {vs : List V} {ds : List D} (r : DRs K H F vs ds) (lo hi : Option Int) : DRs K H F (cutV vs lo hi) (cutD ds lo hi) := by
  unfold cutV cutD
  rw [r.length]
  exact (r.drop _).take _
theorem cut_all {ds : List D} {lo hi : Option Int} (h : HT.sIx ds.length 0 lo = 0 ∧ HT.sIx ds.length ds.length hi = ds.length) : cutD ds lo hi = ds := by
  unfold cutD
  rw [h.1, h.2]
  simp
theorem r_sl {e : Expr} {lo hi : Option Expr} {se : SE} {sl sh : SO} {p2 pos : Pos} (he : PE X e (tE X.K Γ fp Wx se)) (hl : PO X lo (tOo X.K Γ fp Wx sl)) (hh : PO X hi (tOo X.K Γ fp Wx sh)) : PE X (.Subscript e (.Slice lo hi none p2) pos) (tE X.K Γ fp Wx (.sl se sl sh)) :=
  PE.imp (pe_slice (SlR'.or (SlR'.or sl_list sl_tupA) sl_str) he hl hh) fun σ H Q ⟨L, w, ex, k, S, ec, h, ep⟩ => one S ec h fun v w1 x L1 H1 hk S1 n1 r1 _ =>
    ⟨L1, w1, ex, _, S1, ec.nx n1, hk, fun l w2 L2 H2 hk2 S2 n2 => ⟨L2, w2, ex, _, S2, (ec.nx n1).nx n2, hk2, fun u w3 L3 H3 hk3 S3 n3 => by
      obtain ⟨p, e1, hk3⟩ := rdP_some hk3
      have n : Nx fp σ L w H L3 w3 H3 := n1.trans (n2.trans n3)
      have t1 := VR.rd S3 ((r1.next S1 n2).next S2 n3) e1
      cases p <;> first
        | exact False.elim hk3
        | (obtain ⟨b1, vs, rfl, hs, r⟩ := t1.lst
           exact .inl (.inl ⟨b1, vs, rfl, SqL.of hs, fun p hp => ep.fl S hk3 S3 n (cut_rep r l u) hp⟩))
        | (obtain ⟨b1, vs, rfl, hs, r⟩ := t1.tup
           refine .inl (.inr ⟨b1, vs, rfl, hs, fun q => ?_, fun q p hp => ep.ft hk3 S3 n (cut_rep r l u) hp⟩)
           rw [r.length] at q
           have hk3 : k (.d (.tuple (cutD _ l u))) w3 := hk3
           rw [cut_all q] at hk3
           exact ep.fd hk3 S3 n (.tup hs r))
        | (obtain ⟨rfl, hz⟩ := t1.str
           exact .inr ⟨_, rfl, hz, ep.fd hk3 S3 n (.str _ (Nat.le_trans (cutS_len _ _ _) hz))⟩)⟩⟩
end
end Lb
/-! ## Lb5 -/
/-! Lb5: a def of the text, by what sem says of it; calls. -/
namespace Lb
open PySem PySem.Spec L2
open PyProof.Rows (envOfC)

/-! ### what a def is promised to do -/
/-- a handed thing, at its value -/
def AR (K : PySem.W.Frag) (fa : Str → Option Addr) (H : Hp) (F : Addr → Prop) : Ag → V → Prop
  | .d x, v => DR K H F v x
  | .c c, v => ∃ b, v = .ref b ∧ CR K H F b c
  | .f x, v => ∃ b, v = .ref b ∧ fa x = some b
  | .x e, v => ∃ b C, v = .ref b ∧ fa e.cls = some C ∧ H b = some (XO (.ref C) b)
  | .z ns, v => ∃ b, v = .ref b ∧ ns.length ≤ sizeLine ∧ ((∃ ob, H b = some (.frz ob (.lst (ns.map V.int)))) ∨
      (∃ (ob : Obj) (its : Array Value) (n : Nat), K.lookup b = some ob ∧ ob.cls = .type "list" ∧ ob.dict = none ∧ ob.data = .seq its n ∧ its.size ≤ sizeLine ∧ Vals (ns.map V.int) its.toList))
def ARs (K : PySem.W.Frag) (fa : Str → Option Addr) (H : Hp) (F : Addr → Prop) : List Ag → List V → Prop
  | [], [] => True
  | a :: as, v :: vs => AR K fa H F a v ∧ ARs K fa H F as vs
  | _, _ => False
/-- a changeable argument lies at b -/
def CAt (ags : List Ag) (vs : List V) (b : Addr) : Prop := ∃ (j : Nat) (c : CV), ags[j]? = some (Ag.c c) ∧ vs[j]? = some (V.ref b)
/-- what a call leaves -/
structure Back (K : PySem.W.Frag) (fa : Str → Option Addr) (L : Addr → Prop) (ags : List Ag) (vs : List V) (H : Hp) (cs : List (Option CV)) (L' : Addr → Prop) (H' : Hp) : Prop where
  st : Stay (CAt ags vs) H H'
  up : ∀ b, L b → L' b
  nw : ∀ b, L' b → L b ∨ H b = none
  tr : ∀ b, L' b → H' b ≠ none
  args : ∀ (j : Nat) (c : CV), cs[j]? = some (some c) → ∃ b, vs[j]? = some (V.ref b) ∧ CR K H' (fun z => L' z ∨ CAt ags vs z) b c
  same : ∀ (j : Nat), (∃ c, cs[j]? = some (some c)) ↔ ∃ c, ags[j]? = some (Ag.c c)
def RR (K : PySem.W.Frag) (fa : Str → Option Addr) (vs : List V) (H : Hp) (H' : Hp) (L' : Addr → Prop) (F' : Addr → Prop) (cs : List (Option CV)) : Rv → V → Prop
  | .d x, v => DR K H' F' v x
  | .n c, v => ∃ b, v = .ref b ∧ L' b ∧ H b = none ∧ CR K H' F' b c
  | .a j, v => vs[j]? = some v ∧ ∃ c, cs[j]? = some (some c)
  | .f x, v => ∃ b, v = .ref b ∧ fa x = some b
/-- the promise -/
def spD (K : PySem.W.Frag) (fa : Str → Option Addr) (n : Nat) (S : List Ag → (Rv → List (Option CV) → Prop) → (Exn → List (Option CV) → Prop) → Prop) : Sp := fun vs H Q E =>
  vs.length = n ∧ ∃ (L : Addr → Prop) (ags : List Ag) (Qp : Rv → List (Option CV) → Prop) (Ep : Exn → List (Option CV) → Prop),
    ARs K fa H (fun z => L z ∨ CAt ags vs z) ags vs ∧ (∀ b, CAt ags vs b → ¬ L b) ∧ (∀ b, L b → H b ≠ none) ∧
    (∀ (j j' : Nat) (b : Addr) (c c' : CV), ags[j]? = some (Ag.c c) → vs[j]? = some (V.ref b) → ags[j']? = some (Ag.c c') → vs[j']? = some (V.ref b) → j = j') ∧
    S ags Qp Ep ∧
    (∀ (r : Rv) (cs : List (Option CV)) (v : V) (L' : Addr → Prop) (H' : Hp), Qp r cs → Back K fa L ags vs H cs L' H' → RR K fa vs H H' L' (fun z => L' z ∨ CAt ags vs z) cs r v → Q v H') ∧
    (∀ (e : Exn) (cs : List (Option CV)) (c : Value) (dd : Option Addr) (L' : Addr → Prop) (H' : Hp), Ep e cs → Back K fa L ags vs H cs L' H' → XR ⟨fa, vs, H⟩ H' e c dd → E c dd H')

theorem ARs.length {K : PySem.W.Frag} {fa : Str → Option Addr} {H : Hp} {F : Addr → Prop} : ∀ {ags : List Ag} {vs : List V}, ARs K fa H F ags vs → ags.length = vs.length
  | [], [], _ => rfl
  | _ :: _, _ :: _, ⟨_, t⟩ => congrArg (· + 1) (ARs.length t)
  | [], _ :: _, h => False.elim h
  | _ :: _, [], h => False.elim h
theorem ARs.get {K : PySem.W.Frag} {fa : Str → Option Addr} {H : Hp} {F : Addr → Prop} : ∀ {ags : List Ag} {vs : List V} {j : Nat} {a : Ag}, ARs K fa H F ags vs → ags[j]? = some a → ∃ v, vs[j]? = some v ∧ AR K fa H F a v
  | _ :: _, _ :: _, 0, _, ⟨r, _⟩, e => by cases e; exact ⟨_, rfl, r⟩
  | _ :: _, _ :: _, j + 1, _, ⟨_, t⟩, e => by
    obtain ⟨v, h1, h2⟩ := ARs.get (j := j) t (by simpa using e)
    exact ⟨v, by simpa using h1, h2⟩
  | [], [], _, _, _, e => by simp at e
  | [], _ :: _, _, _, h, _ => False.elim h
  | _ :: _, [], _, _, h, _ => False.elim h

/-! ### a body keeps it -/
theorem slsFrom_get : ∀ (ags : List Ag) (n j : Nat) (s : Sl), (slsFrom n ags)[j]? = some s → ∃ a, ags[j]? = some a ∧ s = slOf (n + j) a
  | [], _, _, _, h => by unfold slsFrom at h; simp at h
  | a :: r, n, 0, s, h => by unfold slsFrom at h; simp at h; exact ⟨a, rfl, h.symm⟩
  | a :: r, n, j + 1, s, h => by
    unfold slsFrom at h
    obtain ⟨b, h1, h2⟩ := slsFrom_get r (n + 1) j s (by simpa using h)
    exact ⟨b, by simpa using h1, by rw [h2]; congr 1; omega⟩
theorem slsFrom_len : ∀ (ags : List Ag) (n : Nat), (slsFrom n ags).length = ags.length
  | [], _ => rfl
  | a :: r, n => by unfold slsFrom; rw [List.length_cons, List.length_cons, slsFrom_len r (n + 1)]
theorem start_get {N : List Str} {vs : List V} {i : Nat} {v : V} (h : vs[i]? = some v) : (L2.start N vs)[i]? = some (some v) := by
  unfold L2.start
  have hi : i < vs.length := (List.getElem?_eq_some_iff.mp h).1
  rw [List.getElem?_append_left (by simpa using hi), List.getElem?_map, h]
  all_goals rfl
theorem startA {ags : List Ag} {n j : Nat} {c : CV} (e : (startW n ags).a[j]? = some (some c)) : ags[j]? = some (Ag.c c) := by
  have e : (ags.map cvOf)[j]? = some (some c) := e
  rw [List.getElem?_map] at e
  cases q : ags[j]? with
  | none => rw [q] at e; cases e
  | some a =>
    rw [q] at e
    cases a with
    | c c' => cases e; rfl
    | _ => cases e
theorem startA' {ags : List Ag} {n j : Nat} {c : CV} (e : ags[j]? = some (Ag.c c)) : (startW n ags).a[j]? = some (some c) := by
  show (ags.map cvOf)[j]? = some (some c)
  rw [List.getElem?_map, e]
  all_goals rfl
theorem startR {ags : List Ag} {n i : Nat} {s : Sl} (e : (startW n ags).r[i]? = some s) : s = .no ∨ ∃ a, ags[i]? = some a ∧ s = slOf i a := by
  have e : (slsFrom 0 ags ++ List.replicate (n - ags.length) Sl.no)[i]? = some s := e
  by_cases hi : i < ags.length
  · rw [List.getElem?_append_left (by rw [slsFrom_len]; exact hi)] at e
    obtain ⟨a, h1, h2⟩ := slsFrom_get ags 0 i s e
    exact .inr ⟨a, h1, by rw [h2, Nat.zero_add]⟩
  · rw [List.getElem?_append_right (by rw [slsFrom_len]; omega), List.getElem?_replicate] at e
    split at e
    · cases e; exact .inl rfl
    · cases e
theorem start_SR {K : PySem.W.Frag} {fa : Str → Option Addr} {N : List Str} {ags : List Ag} {vs : List V} {H : Hp} {L : Addr → Prop} (hN : ags.length ≤ N.length) (r : ARs K fa H (fun z => L z ∨ CAt ags vs z) ags vs) (dis : ∀ b, CAt ags vs b → ¬ L b) (tr : ∀ b, L b → H b ≠ none)
    (inj : ∀ (j j' : Nat) (b : Addr) (c c' : CV), ags[j]? = some (Ag.c c) → vs[j]? = some (V.ref b) → ags[j']? = some (Ag.c c') → vs[j']? = some (V.ref b) → j = j') :
    SR K ⟨fa, vs, H⟩ L (startW N.length ags) (L2.start N vs) H := by
  have hO : ∀ b, ¬ OwnAt (startW N.length ags) (L2.start N vs) b := fun b ⟨i, c, h1, h2⟩ => by
    rcases startR h1 with e | ⟨a, _, e⟩
    · cases e
    · cases a <;> cases e
  have hA : ∀ b, ArgAt ⟨fa, vs, H⟩ (startW N.length ags) b ↔ CAt ags vs b := fun b => ⟨fun ⟨j, c, h1, h2⟩ => ⟨j, c, startA h1, h2⟩, fun ⟨j, c, h1, h2⟩ => ⟨j, c, startA' h1, h2⟩⟩
  have hF : ∀ b, FA ⟨fa, vs, H⟩ L (startW N.length ags) (L2.start N vs) b → L b ∨ CAt ags vs b := fun b hb => hb.elim .inl fun q => q.elim (fun q => (hO b q).elim) fun q => .inr ((hA b).mp q)
  refine ⟨?_, fun i s e => ?_, fun j c e => ?_, fun i i' b c c' e1 _ _ _ => ?_, fun j j' b c c' e1 e2 e3 e4 => inj j j' b c c' (startA e1) e2 (startA e3) e4, fun b hb => hb.elim (fun q => (hO b q).elim) fun q => dis b ((hA b).mp q), tr, fun b o e _ => e⟩
  · show (slsFrom 0 ags ++ List.replicate (N.length - ags.length) Sl.no).length = (vs.map some ++ List.replicate (N.length - vs.length) none).length
    rw [List.length_append, List.length_append, slsFrom_len, List.length_map, List.length_replicate, List.length_replicate, r.length]
  · rcases startR e with rfl | ⟨a, ha, rfl⟩
    · trivial
    · obtain ⟨v, hv, ra⟩ := r.get ha
      have hs := start_get (N := N) hv
      cases a with
      | d x => exact ⟨v, hs, DR.weak ra hF⟩
      | c c =>
        obtain ⟨b, rfl, _⟩ := ra
        exact ⟨b, c, hs, hv, startA' ha⟩
      | f x =>
        obtain ⟨b, rfl, q⟩ := ra
        exact ⟨b, hs, q⟩
      | z ns =>
        obtain ⟨b, rfl, q⟩ := ra
        exact ⟨b, hs, q⟩
      | x y =>
        obtain ⟨b, C, rfl, q⟩ := ra
        exact ⟨b, C, hs, q⟩
  · obtain ⟨v, hv, b, rfl, ra⟩ := r.get (startA e)
    refine ⟨b, hv, ra.weak hF, ra.some⟩
  · rcases startR e1 with e | ⟨a, _, e⟩
    · cases e
    · cases a <;> cases e

/-- a def that stands so, may be called where nothing is being told (guards) -/
structure FnG (P : Program) (w : World) (K : PySem.W.Frag) (mg : Str → Option Value) (base : Heap) (k : Nat) (f : Addr) (sp : Sp) : Prop where
  run : ∀ (A : Around) (outer : List Env) (s : Shared) (H : Hp) (us : List Value) (vs : List V) (Q : VK) (E : XK), A.guards = some [] → Room k A → Env0 P w K mg base A outer s H → Vals vs us → sp vs H Q E →
    codeAny (model P w) A (.call (.ref f) ⟨us, []⟩) (L2.CR (L2.CX P w) outer P w H s Q E) s
theorem FnG.mono {P : Program} {w : World} {K : PySem.W.Frag} {mg : Str → Option Value} {base : Heap} {j k : Nat} {f : Addr} {sp : Sp} (F : FnG P w K mg base j f sp) (h : j ≤ k) : FnG P w K mg base k f sp :=
  ⟨fun A outer s H us vs Q E hg hr => F.run A outer s H us vs Q E hg (hr.mono h)⟩
/-- the def's own frame -/
theorem FnG.mk' {P : Program} {w : World} {K : PySem.W.Frag} {mg : Str → Option Value} {base : Heap} {x qual : Str} {st : Stmt} {f : Addr} {fd : FuncData} {N ps : List Str} {k : Nat} {sp : Sp}
    (F : Fun K x qual st f fd) (S : FnScope N ps (defScope st)) (b : Binds K fd ps []) (len : ∀ vs H Q E, sp vs H Q E → vs.length = ps.length)
    (hbody : ∀ (cdv : Value) (A : Around) (outer : List Env) (s : Shared) (H : Hp) (vs : List V) (Q : VK) (E : XK), A.guards = some [] → Room k (A.deeper (envOfC qual (defScope st) s.heap.objs.size f cdv)) → sp vs H Q E →
      ∃ t, PSs (cxOf (L2.CX P w) P w K mg base N qual (defScope st) f cdv A outer s H E) (defBody st) t ∧ t { nx := fun _ H' => Q .non H', rt := Q } (L2.start N vs) H) : FnG P w K mg base (k + 1) f sp := by
  obtain ⟨oc, od, kV, doc, pm, an, cdv, ct, osl, rfl, lk, hcd⟩ := F.ex
  constructor
  intro A outer s H us vs Q E hg hr e0 r hsp
  have hl := len _ _ _ _ hsp
  have KX : K.In s.heap := e0.mod.kin.keeps fun b o e => (e0.bs b o e).1
  have lim : s.heap.NoLimit := e0.mod.nolimit.keeps fun b o e => (e0.bs b o e).1
  have hul : (us ++ ([] : List Value)).length = ps.length := by
    rw [List.append_nil, ← r.length]
    exact hl
  have hb : BindsTo s (PySem.W.fnOf x qual (defArgs st) (defBody st) (defScope st) .none kV doc pm an cdv ct) ⟨us, []⟩ (ps.zip us) := by
    have := b s us KX hul
    rw [List.append_nil] at this
    exact this
  have hkind : ∀ y ∈ ps.zip us, (defScope st).names.lookup y.1 = some .local ∨ ((defScope st).names.lookup y.1 = some .cell ∧ ((cellsFrom (s.heap.objs.size + 1) (defScope st).names []).lookup y.1).isSome = true) := by
    rintro ⟨n, v⟩ hy
    rcases S.par n (List.of_mem_zip hy).1 with q | q
    · exact .inl q
    · exact .inr ⟨q, PySem.W.cellsFrom_some _ _ _ (.inl q)⟩
  refine codeAny_call_function hr.depth (KX _ _ lk)
    rfl S.co S.gen rfl (PySem.W.codeRec_of KX hcd) (hb _ _ _ _ ?_)
  refine PySem.wpAny_newFunctionEnv_cells S.kind hkind fun env he s1 x =>
    ?_
  subst he
  refine ⟨lim.keeps x.toInCall.keep, codeAny_func
    ?_⟩
  obtain ⟨t, ht, hq⟩ := hbody cdv A outer s H vs Q E hg (hr.deeper _) hsp
  have I := inv_start (CX := L2.CX P w) (E := E) S hr.hd e0 hl r x
  refine wpAny_mono (ht.run [] s1 (L2.start N vs) H _ I hq)
    (fun fl s' hs => ?_) fun e s' hs => hs
  cases fl with
  | ret u =>
    obtain ⟨v, σ', H', J, rv, q⟩ := hs
    exact ⟨v, H', J.os, J.bare, J.base, J.hok, rv, q⟩
  | next =>
    obtain ⟨σ', H', J, q⟩ := hs
    exact ⟨.non, H', J.os, J.bare, J.base, J.hok, rfl, q⟩
  | brk => obtain ⟨_, _, _, q⟩ := hs; exact False.elim q
  | cont => obtain ⟨_, _, _, q⟩ := hs; exact False.elim q
end Lb
/-! ## Lb6 -/
/-! Lb6: a call, from the caller's side. -/
namespace Lb
open PySem PySem.Spec L2

section
variable {K : PySem.W.Frag} {fp : Fp} {L L' : Addr → Prop} {w w' : W} {σ : L2.St} {H H' : Hp}
theorem VRs.length : ∀ {vs : List Vl} {xs : List V}, VRs K fp L w σ H vs xs → vs.length = xs.length
  | [], [], _ => rfl
  | _ :: _, _ :: _, ⟨_, t⟩ => congrArg (· + 1) (VRs.length t)
  | [], _ :: _, h => False.elim h
  | _ :: _, [], h => False.elim h
theorem VRs.get : ∀ {vs : List Vl} {xs : List V} {j : Nat} {v : Vl}, VRs K fp L w σ H vs xs → vs[j]? = some v → ∃ x, xs[j]? = some x ∧ VR K fp L w σ H v x
  | _ :: _, _ :: _, 0, _, ⟨r, _⟩, e => by cases e; exact ⟨_, rfl, r⟩
  | _ :: _, _ :: _, j + 1, _, ⟨_, t⟩, e => by
    obtain ⟨x, h1, h2⟩ := VRs.get (j := j) t (by simpa using e)
    exact ⟨x, by simpa using h1, h2⟩
  | [], [], _, _, _, e => by simp at e
  | [], _ :: _, _, _, h, _ => False.elim h
  | _ :: _, [], _, _, h, _ => False.elim h
theorem agsOf_len : ∀ {vs : List Vl} {ags : List Ag}, agsOf w vs = some ags → ags.length = vs.length
  | [], _, h => by cases h; rfl
  | v :: r, ags, h => by
    unfold agsOf at h
    cases e1 : agOf w v with
    | none => rw [e1] at h; cases h
    | some a =>
      cases e2 : agsOf w r with
      | none => rw [e1, e2] at h; cases h
      | some as =>
        rw [e1, e2] at h
        cases h
        exact congrArg (· + 1) (agsOf_len e2)
theorem agsOf_get : ∀ {vs : List Vl} {ags : List Ag} {j : Nat} {a : Ag}, agsOf w vs = some ags → ags[j]? = some a → ∃ v, vs[j]? = some v ∧ agOf w v = some a
  | [], _, _, _, h, e => by cases h; simp at e
  | v :: r, ags, j, a, h, e => by
    unfold agsOf at h
    cases e1 : agOf w v with
    | none => rw [e1] at h; cases h
    | some a1 =>
      cases e2 : agsOf w r with
      | none => rw [e1, e2] at h; cases h
      | some as =>
        rw [e1, e2] at h
        cases h
        cases j with
        | zero => cases e; exact ⟨v, rfl, e1⟩
        | succ j =>
          obtain ⟨u, h1, h2⟩ := agsOf_get e2 (j := j) (by simpa using e)
          exact ⟨u, by simpa using h1, h2⟩
/-- what is handed on, and lies where -/
theorem ag_rep (S : SR K fp L w σ H) {v : Vl} {x : V} {a : Ag} (r : VR K fp L w σ H v x) (e : agOf w v = some a) : AR K fp.fa H (FA fp L w σ) a x := by
  cases v with
  | d y => cases e; exact r
  | n c => cases e; obtain ⟨b, e1, _, q⟩ := r; exact ⟨b, e1, q⟩
  | f y => cases e; exact r
  | z ns => cases e; exact r
  | x y => cases e; exact r
  | s i =>
    have r : σ[i]? = some (some x) := r
    unfold agOf at e
    simp only at e
    cases q : w.r[i]? with
    | none => rw [q] at e; cases e
    | some sl =>
      rw [q] at e
      cases sl with
      | o c =>
        cases e
        obtain ⟨b, e1, q1, _⟩ := S.slot i _ q
        rw [r] at e1; cases e1
        exact ⟨b, rfl, q1⟩
      | d y =>
        cases e
        obtain ⟨v, e1, q1⟩ := S.slot i _ q
        rw [r] at e1; cases e1
        exact q1
      | _ => cases e
  | a j =>
    have r : fp.mv[j]? = some x := r
    unfold agOf at e
    simp only at e
    cases q : w.a[j]? with
    | none => rw [q] at e; cases e
    | some o =>
      rw [q] at e
      cases o with
      | none => cases e
      | some c =>
        cases e
        obtain ⟨b, e1, q1, _⟩ := S.arg j _ q
        rw [r] at e1; cases e1
        exact ⟨b, rfl, q1⟩
/-- a changeable value that is handed on -/
inductive Sh (w : W) : Vl → CV → Prop
  | n (c : CV) : Sh w (.n c) c
  | s {i : Nat} {c : CV} (h : w.r[i]? = some (.o c)) : Sh w (.s i) c
  | a {j : Nat} {c : CV} (h : w.a[j]? = some (some c)) : Sh w (.a j) c
theorem ag_sh {v : Vl} {c : CV} (e : agOf w v = some (.c c)) : Sh w v c := by
  cases v with
  | d y => cases e
  | n c => cases e; exact .n _
  | f y => cases e
  | z ns => cases e
  | x y => cases e
  | s i =>
    unfold agOf at e
    simp only at e
    cases q : w.r[i]? with
    | none => rw [q] at e; cases e
    | some sl =>
      rw [q] at e
      cases sl with
      | o c => cases e; exact .s q
      | _ => cases e
  | a j =>
    unfold agOf at e
    simp only at e
    cases q : w.a[j]? with
    | none => rw [q] at e; cases e
    | some o =>
      rw [q] at e
      cases o with
      | none => cases e
      | some c => cases e; exact .a q
/-- what stands in the list of the shared things -/
theorem sh_mem : ∀ {vs : List Vl} {j : Nat} {i : Nat}, vs[j]? = some (.s i) → Sum.inl i ∈ shareds vs
  | [], _, _, e => by simp at e
  | v :: r, 0, i, e => by
    cases e
    exact List.mem_cons_self
  | v :: r, j + 1, i, e => by
    have ih := sh_mem (vs := r) (j := j) (i := i) (by simpa using e)
    cases v <;> first
      | exact ih
      | exact List.mem_cons_of_mem _ ih
theorem sh_memA : ∀ {vs : List Vl} {j : Nat} {i : Nat}, vs[j]? = some (.a i) → Sum.inr i ∈ shareds vs
  | [], _, _, e => by simp at e
  | v :: r, 0, i, e => by
    cases e
    exact List.mem_cons_self
  | v :: r, j + 1, i, e => by
    have ih := sh_memA (vs := r) (j := j) (i := i) (by simpa using e)
    cases v <;> first
      | exact ih
      | exact List.mem_cons_of_mem _ ih
theorem disB {x : Nat ⊕ Nat} {r : List (Nat ⊕ Nat)} (h : distinctB (x :: r) = true) : x ∉ r ∧ distinctB r = true := by
  have h : (!r.any (fun y => decide (x = y)) && distinctB r) = true := h
  rw [Bool.and_eq_true] at h
  refine ⟨fun m => ?_, h.2⟩
  have q := h.1
  have e : r.any (fun y => decide (x = y)) = true := List.any_eq_true.mpr ⟨x, m, decide_eq_true rfl⟩
  rw [e] at q
  cases q
theorem dis_tail {v : Vl} {r : List Vl} (h : distinctB (shareds (v :: r)) = true) : distinctB (shareds r) = true := by
  cases v <;> first
    | exact h
    | exact (disB h).2
theorem dis_s : ∀ {vs : List Vl} {j j' i : Nat}, distinctB (shareds vs) = true → vs[j]? = some (.s i) → vs[j']? = some (.s i) → j = j'
  | [], _, _, _, _, e, _ => by simp at e
  | v :: r, 0, 0, _, _, _, _ => rfl
  | v :: r, j + 1, j' + 1, i, h, e, e' => congrArg (· + 1) (dis_s (dis_tail h) (by simpa using e) (by simpa using e'))
  | v :: r, 0, j' + 1, i, h, e, e' => by
    cases e
    exact absurd (sh_mem (vs := r) (j := j') (i := i) (by simpa using e')) (disB h).1
  | v :: r, j + 1, 0, i, h, e, e' => by
    cases e'
    exact absurd (sh_mem (vs := r) (j := j) (i := i) (by simpa using e)) (disB h).1
theorem dis_a : ∀ {vs : List Vl} {j j' i : Nat}, distinctB (shareds vs) = true → vs[j]? = some (.a i) → vs[j']? = some (.a i) → j = j'
  | [], _, _, _, _, e, _ => by simp at e
  | v :: r, 0, 0, _, _, _, _ => rfl
  | v :: r, j + 1, j' + 1, i, h, e, e' => congrArg (· + 1) (dis_a (dis_tail h) (by simpa using e) (by simpa using e'))
  | v :: r, 0, j' + 1, i, h, e, e' => by
    cases e
    exact absurd (sh_memA (vs := r) (j := j') (i := i) (by simpa using e')) (disB h).1
  | v :: r, j + 1, 0, i, h, e, e' => by
    cases e'
    exact absurd (sh_memA (vs := r) (j := j) (i := i) (by simpa using e)) (disB h).1
/-- two new things lie apart -/
theorem nf_ne : ∀ {vs : List Vl} {xs : List V} {L : Addr → Prop} {j j' : Nat} {c c' : CV} {b : Addr}, NFs L vs xs → vs[j]? = some (.n c) → xs[j]? = some (.ref b) → vs[j']? = some (.n c') → xs[j']? = some (.ref b) → j = j'
  | [], _, _, _, _, _, _, _, _, e, _, _, _ => by simp at e
  | _ :: _, [], _, _, _, _, _, _, _, _, e, _, _ => by simp at e
  | v :: r, x :: xs, L, 0, 0, _, _, _, _, _, _, _, _ => rfl
  | v :: r, x :: xs, L, j + 1, j' + 1, c, c', b, h, e1, e2, e3, e4 => congrArg (· + 1) (nf_ne (L := addN L v x) h.2 (by simpa using e1) (by simpa using e2) (by simpa using e3) (by simpa using e4))
  | v :: r, x :: xs, L, 0, j' + 1, c, c', b, h, e1, e2, e3, e4 => by
    cases e1; cases e2
    exact absurd (Or.inr rfl) (nfs_get (L := withA L b) h.2 (by simpa using e3) (by simpa using e4))
  | v :: r, x :: xs, L, j + 1, 0, c, c', b, h, e1, e2, e3, e4 => by
    cases e3; cases e4
    exact absurd (Or.inr rfl) (nfs_get (L := withA L b) h.2 (by simpa using e1) (by simpa using e2))
where
  nfs_get : ∀ {vs : List Vl} {xs : List V} {L : Addr → Prop} {j : Nat} {c : CV} {b : Addr}, NFs L vs xs → vs[j]? = some (.n c) → xs[j]? = some (.ref b) → ¬ L b
  | [], _, _, _, _, _, _, e, _ => by simp at e
  | _ :: _, [], _, _, _, _, _, _, e => by simp at e
  | v :: r, x :: xs, L, 0, c, b, h, e1, e2 => by
    cases e1; cases e2
    exact h.1 b rfl
  | v :: r, x :: xs, L, j + 1, c, b, h, e1, e2 => by
    have q := nfs_get (L := addN L v x) h.2 (j := j) (by simpa using e1) (by simpa using e2)
    intro z
    refine q ?_
    unfold addN
    cases v <;> first
      | exact z
      | (cases x <;> first | exact z | exact .inl z)

/-! ### behind the call -/
theorem SR.h0 (S : SR K fp L w σ H) {b : Addr} (h : H b = none) : fp.H0 b = none := by
  cases e : fp.H0 b with
  | none => rfl
  | some o =>
    exfalso
    by_cases ha : ArgAt fp w b
    · exact S.mtr (.inr ha) h
    · have := S.keep b o e ha
      rw [h] at this; cases this
theorem backs_r : ∀ {vs : List Vl} {cs : List (Option CV)} {w : W} (i : Nat), i < w.r.length → (((backs w vs cs).r[i]? = w.r[i]?) ∧ ∀ (j : Nat) (c : CV), vs[j]? = some (.s i) → cs[j]? = some (some c) → False) ∨
    ∃ (j : Nat) (c : CV), vs[j]? = some (.s i) ∧ cs[j]? = some (some c) ∧ (backs w vs cs).r[i]? = some (.o c)
  | [], cs, w, i, _ => .inl ⟨by cases cs <;> rfl, fun j c e _ => by simp at e⟩
  | v :: r, [], w, i, _ => .inl ⟨rfl, fun j c _ e => by simp at e⟩
  | v :: r, none :: cs, w, i, hi => by
    rcases backs_r (vs := r) (cs := cs) (w := w) i hi with ⟨e, h⟩ | ⟨j, c, h1, h2, h3⟩
    · exact .inl ⟨e, fun j c e1 e2 => by
        cases j with
        | zero => cases e2
        | succ j => exact h j c (by simpa using e1) (by simpa using e2)⟩
    · exact .inr ⟨j + 1, c, by simpa using h1, by simpa using h2, h3⟩
  | v :: r, some c0 :: cs, w, i, hi => by
    have hl : (w.putC v c0).r.length = w.r.length := by
      cases v <;> first | rfl | exact List.length_set
    have hr : ((w.putC v c0).r[i]? = w.r[i]? ∧ v ≠ .s i) ∨ (v = .s i ∧ (w.putC v c0).r[i]? = some (.o c0)) := by
      cases v with
      | s m =>
        by_cases e : m = i
        · subst e
          exact .inr ⟨rfl, List.getElem?_set_self hi⟩
        · exact .inl ⟨List.getElem?_set_ne e, fun z => e (by cases z; rfl)⟩
      | _ => exact .inl ⟨rfl, fun z => by cases z⟩
    rcases backs_r (vs := r) (cs := cs) (w := w.putC v c0) i (by rw [hl]; exact hi) with ⟨e, h⟩ | ⟨j, c, h1, h2, h3⟩
    · rcases hr with ⟨q, nv⟩ | ⟨q1, q2⟩
      · refine .inl ⟨e.trans q, fun j c e1 e2 => ?_⟩
        cases j with
        | zero => exact nv (Option.some.inj e1)
        | succ j => exact h j c (by simpa using e1) (by simpa using e2)
      · exact .inr ⟨0, c0, by rw [q1]; rfl, rfl, e.trans q2⟩
    · exact .inr ⟨j + 1, c, by simpa using h1, by simpa using h2, h3⟩
theorem backs_a : ∀ {vs : List Vl} {cs : List (Option CV)} {w : W} (i : Nat), i < w.a.length → (((backs w vs cs).a[i]? = w.a[i]?) ∧ ∀ (j : Nat) (c : CV), vs[j]? = some (.a i) → cs[j]? = some (some c) → False) ∨
    ∃ (j : Nat) (c : CV), vs[j]? = some (.a i) ∧ cs[j]? = some (some c) ∧ (backs w vs cs).a[i]? = some (some c)
  | [], cs, w, i, _ => .inl ⟨by cases cs <;> rfl, fun j c e _ => by simp at e⟩
  | v :: r, [], w, i, _ => .inl ⟨rfl, fun j c _ e => by simp at e⟩
  | v :: r, none :: cs, w, i, hi => by
    rcases backs_a (vs := r) (cs := cs) (w := w) i hi with ⟨e, h⟩ | ⟨j, c, h1, h2, h3⟩
    · exact .inl ⟨e, fun j c e1 e2 => by
        cases j with
        | zero => cases e2
        | succ j => exact h j c (by simpa using e1) (by simpa using e2)⟩
    · exact .inr ⟨j + 1, c, by simpa using h1, by simpa using h2, h3⟩
  | v :: r, some c0 :: cs, w, i, hi => by
    have hl : (w.putC v c0).a.length = w.a.length := by
      cases v <;> first | rfl | exact List.length_set
    have hr : ((w.putC v c0).a[i]? = w.a[i]? ∧ v ≠ .a i) ∨ (v = .a i ∧ (w.putC v c0).a[i]? = some (some c0)) := by
      cases v with
      | a m =>
        by_cases e : m = i
        · subst e
          exact .inr ⟨rfl, List.getElem?_set_self hi⟩
        · exact .inl ⟨List.getElem?_set_ne e, fun z => e (by cases z; rfl)⟩
      | _ => exact .inl ⟨rfl, fun z => by cases z⟩
    rcases backs_a (vs := r) (cs := cs) (w := w.putC v c0) i (by rw [hl]; exact hi) with ⟨e, h⟩ | ⟨j, c, h1, h2, h3⟩
    · rcases hr with ⟨q, nv⟩ | ⟨q1, q2⟩
      · refine .inl ⟨e.trans q, fun j c e1 e2 => ?_⟩
        cases j with
        | zero => exact nv (Option.some.inj e1)
        | succ j => exact h j c (by simpa using e1) (by simpa using e2)
      · exact .inr ⟨0, c0, by rw [q1]; rfl, rfl, e.trans q2⟩
    · exact .inr ⟨j + 1, c, by simpa using h1, by simpa using h2, h3⟩
theorem backs_len : ∀ {vs : List Vl} {cs : List (Option CV)} {w : W}, (backs w vs cs).r.length = w.r.length ∧ (backs w vs cs).a.length = w.a.length
  | [], cs, w => by cases cs <;> exact ⟨rfl, rfl⟩
  | v :: r, [], w => ⟨rfl, rfl⟩
  | v :: r, none :: cs, w => backs_len (vs := r)
  | v :: r, some c0 :: cs, w => by
    obtain ⟨h1, h2⟩ := backs_len (vs := r) (cs := cs) (w := w.putC v c0)
    have q1 : (w.putC v c0).r.length = w.r.length := by cases v <;> first | rfl | exact List.length_set
    have q2 : (w.putC v c0).a.length = w.a.length := by cases v <;> first | rfl | exact List.length_set
    exact ⟨h1.trans q1, h2.trans q2⟩
/-- the caller's state behind the call -/
theorem back_SR {ags : List Ag} {vs : List Vl} {xs : List V} {cs : List (Option CV)} {Lc : Addr → Prop} {L3 : Addr → Prop} (S : SR K fp L w σ H) (rs : VRs K fp L w σ H vs xs) (e : agsOf w vs = some ags)
    (hLc : ∀ b, FA fp L w σ b → Lc b ∨ CAt ags xs b) (B : Back K fp.fa Lc ags xs H cs L' H') (h3 : ∀ b, L3 b → (L b ∨ (L' b ∧ H b = none))) (hL : ∀ b, CAt ags xs b → FA fp L w σ b)
    (hn : ∀ (j : Nat) (c : CV) (b : Addr), vs[j]? = some (Vl.n c) → xs[j]? = some (V.ref b) → fp.H0 b = none) :
    SR K fp L3 (backs w vs cs) σ H' ∧ (∀ b, MA fp (backs w vs cs) σ b ↔ MA fp w σ b) ∧ (∀ b, FA fp L3 (backs w vs cs) σ b → L' b ∨ CAt ags xs b) ∧ (∀ b, FA fp L3 (backs w vs cs) σ b → FA fp L w σ b ∨ H b = none) := by
  have own_of : ∀ (i : Nat) (c : CV), (backs w vs cs).r[i]? = some (Sl.o c) → ∃ c', w.r[i]? = some (Sl.o c') := fun i c h => by
    have hi : i < w.r.length := by rw [← (backs_len (vs := vs) (cs := cs) (w := w)).1]; exact (List.getElem?_eq_some_iff.mp h).1
    rcases backs_r (vs := vs) (cs := cs) i hi with ⟨q, _⟩ | ⟨j, c', h1, h2, _⟩
    · exact ⟨c, by rw [← q]; exact h⟩
    · obtain ⟨ca, ha⟩ := (B.same j).mp ⟨c', h2⟩
      obtain ⟨v, hv, hg⟩ := agsOf_get e ha
      rw [h1] at hv
      cases hv
      cases ag_sh hg with
      | s h => exact ⟨_, h⟩
  have to_own : ∀ (i : Nat) (c : CV), w.r[i]? = some (Sl.o c) → ∃ c', (backs w vs cs).r[i]? = some (Sl.o c') := fun i c h => by
    rcases backs_r (vs := vs) (cs := cs) i (List.getElem?_eq_some_iff.mp h).1 with ⟨q, _⟩ | ⟨j, c', _, _, h3⟩
    · exact ⟨c, by rw [q]; exact h⟩
    · exact ⟨c', h3⟩
  have arg_of : ∀ (i : Nat) (c : CV), (backs w vs cs).a[i]? = some (some c) → ∃ c', w.a[i]? = some (some c') := fun i c h => by
    have hi : i < w.a.length := by rw [← (backs_len (vs := vs) (cs := cs) (w := w)).2]; exact (List.getElem?_eq_some_iff.mp h).1
    rcases backs_a (vs := vs) (cs := cs) i hi with ⟨q, _⟩ | ⟨j, c', h1, h2, _⟩
    · exact ⟨c, by rw [← q]; exact h⟩
    · obtain ⟨ca, ha⟩ := (B.same j).mp ⟨c', h2⟩
      obtain ⟨v, hv, hg⟩ := agsOf_get e ha
      rw [h1] at hv
      cases hv
      cases ag_sh hg with
      | a h => exact ⟨_, h⟩
  have to_arg : ∀ (i : Nat) (c : CV), w.a[i]? = some (some c) → ∃ c', (backs w vs cs).a[i]? = some (some c') := fun i c h => by
    rcases backs_a (vs := vs) (cs := cs) i (List.getElem?_eq_some_iff.mp h).1 with ⟨q, _⟩ | ⟨j, c', _, _, h3⟩
    · exact ⟨c, by rw [q]; exact h⟩
    · exact ⟨c', h3⟩
  have hA : ∀ b, ArgAt fp (backs w vs cs) b ↔ ArgAt fp w b := fun b => ⟨fun ⟨i, c, h1, h2⟩ => (arg_of i c h1).elim fun c' q => ⟨i, c', q, h2⟩, fun ⟨i, c, h1, h2⟩ => (to_arg i c h1).elim fun c' q => ⟨i, c', q, h2⟩⟩
  have hM : ∀ b, MA fp (backs w vs cs) σ b ↔ MA fp w σ b := fun b => by
    constructor
    · rintro (⟨i, c, h1, h2⟩ | h)
      · obtain ⟨c', q⟩ := own_of i c h1
        exact .inl ⟨i, c', q, h2⟩
      · exact .inr ((hA b).mp h)
    · rintro (⟨i, c, h1, h2⟩ | h)
      · obtain ⟨c', q⟩ := to_own i c h1
        exact .inl ⟨i, c', q, h2⟩
      · exact .inr ((hA b).mpr h)
  have mM : MutAt (CAt ags xs) H := fun b ⟨j, c, h1, h2⟩ => by
    obtain ⟨v, hv, hg⟩ := agsOf_get e h1
    obtain ⟨x, hx, r⟩ := rs.get hv
    have q := ag_rep S r hg
    rw [h2] at hx; cases hx
    obtain ⟨b', e1, r⟩ := q
    cases e1
    exact r.mut
  have F1 : ∀ b, FA fp L3 (backs w vs cs) σ b → L' b ∨ CAt ags xs b := fun b hb => by
    rcases hb with hb | hb
    · rcases h3 b hb with q | q
      · exact (hLc b (.inl q)).imp (B.up b) id
      · exact .inl q.1
    · exact (hLc b (.inr ((hM b).mp hb))).imp (B.up b) id
  have F2 : ∀ b, FA fp L3 (backs w vs cs) σ b → FA fp L w σ b ∨ H b = none := fun b hb => by
    rcases hb with hb | hb
    · exact (h3 b hb).imp .inl And.right
    · exact .inl (.inr ((hM b).mp hb))
  -- a changeable thing that isn't handed on
  have noC : ∀ b, MA fp w σ b → (∀ (j : Nat) (c : CV), ags[j]? = some (Ag.c c) → xs[j]? = some (V.ref b) → False) → ¬ CAt ags xs b := fun b _ h ⟨j, c, h1, h2⟩ => h j c h1 h2
  refine ⟨⟨?_, fun i s hs => ?_, fun j c hc => ?_, fun i i' b ca cb e1 e2 e3 e4 => ?_, fun j j' b ca cb e1 e2 e3 e4 => ?_, fun b hb hl => ?_, fun b hb => ?_, fun b o e1 n => ?_⟩, hM, F1, F2⟩
  · rw [backs_len.1, S.len]
  · have hi : i < w.r.length := by rw [← (backs_len (vs := vs) (cs := cs) (w := w)).1]; exact (List.getElem?_eq_some_iff.mp hs).1
    rcases backs_r (vs := vs) (cs := cs) i hi with ⟨q, nq⟩ | ⟨j, c', h1, h2, h3'⟩
    · rw [q] at hs
      have sl := S.slot i s hs
      cases s with
      | no => trivial
      | d x => obtain ⟨v, e1, r⟩ := sl; exact ⟨v, e1, DR.step B.st mM hL F2 r⟩
      | o c =>
        obtain ⟨b, e1, r, h0⟩ := sl
        refine ⟨b, e1, CR.step B.st mM hL F2 ?_ r, h0⟩
        rintro ⟨j, ca, h1, h2⟩
        obtain ⟨v, hv, hg⟩ := agsOf_get e h1
        obtain ⟨x, hx, rv⟩ := rs.get hv
        rw [h2] at hx; cases hx
        obtain ⟨cb, hcb⟩ := (B.same j).mpr ⟨ca, h1⟩
        cases ag_sh hg with
        | n =>
          obtain ⟨b', e', l, _⟩ := rv
          cases e'
          exact S.dis b (.inl ⟨i, c, hs, e1⟩) l
        | @s m _ hm =>
          have rv : σ[m]? = some (some (V.ref b)) := rv
          have := S.ownI i m b c _ hs e1 hm rv
          subst this
          exact nq j cb hv hcb
        | @a m _ hm =>
          have rv : fp.mv[m]? = some (V.ref b) := rv
          obtain ⟨b', e2, _, n⟩ := S.arg m _ hm
          rw [rv] at e2; cases e2
          exact n h0
      | a j =>
        obtain ⟨b, c, e1, e2, e3⟩ := sl
        obtain ⟨c', q'⟩ := to_arg j c e3
        exact ⟨b, c', e1, e2, q'⟩
      | f x => exact sl
      | z ns => obtain ⟨b, e1, z, r⟩ := sl; exact ⟨b, e1, z, B.st.frzL mM r⟩
      | x y => obtain ⟨b, C, e1, z, r⟩ := sl; exact ⟨b, C, e1, z, B.st.ext mM r⟩
    · rw [h3'] at hs
      cases hs
      obtain ⟨c0, q0⟩ := own_of i c' h3'
      obtain ⟨b, e1, _, h0⟩ := S.slot i _ q0
      obtain ⟨x, hx, rv⟩ := rs.get h1
      have rv : σ[i]? = some (some x) := rv
      rw [rv] at e1; cases e1
      obtain ⟨b', e2, r⟩ := B.args j c' h2
      rw [hx] at e2; cases e2
      exact ⟨b, rv, r.weak F1, h0⟩
  · have hi : j < w.a.length := by rw [← (backs_len (vs := vs) (cs := cs) (w := w)).2]; exact (List.getElem?_eq_some_iff.mp hc).1
    rcases backs_a (vs := vs) (cs := cs) j hi with ⟨q, nq⟩ | ⟨i, c', h1, h2, h3'⟩
    · rw [q] at hc
      obtain ⟨b, e1, r, n⟩ := S.arg j c hc
      refine ⟨b, e1, CR.step B.st mM hL F2 ?_ r, n⟩
      rintro ⟨i, ca, h1, h2⟩
      obtain ⟨v, hv, hg⟩ := agsOf_get e h1
      obtain ⟨x, hx, rv⟩ := rs.get hv
      rw [h2] at hx; cases hx
      obtain ⟨cb, hcb⟩ := (B.same i).mpr ⟨ca, h1⟩
      cases ag_sh hg with
      | n =>
        obtain ⟨b', e', l, _⟩ := rv
        cases e'
        exact S.dis b (.inr ⟨j, c, hc, e1⟩) l
      | @s m _ hm =>
        have rv : σ[m]? = some (some (V.ref b)) := rv
        obtain ⟨b', e2, _, h0⟩ := S.slot m _ hm
        rw [rv] at e2; cases e2
        exact n h0
      | @a m _ hm =>
        have rv : fp.mv[m]? = some (V.ref b) := rv
        have := S.argI j m b c _ hc e1 hm rv
        subst this
        exact nq i cb hv hcb
    · rw [h3'] at hc
      cases hc
      obtain ⟨c0, q0⟩ := arg_of j c h3'
      obtain ⟨b, e1, _, n⟩ := S.arg j _ q0
      obtain ⟨x, hx, rv⟩ := rs.get h1
      have rv : fp.mv[j]? = some x := rv
      rw [rv] at e1; cases e1
      obtain ⟨b', e2, r⟩ := B.args i c h2
      rw [hx] at e2; cases e2
      exact ⟨b, rv, r.weak F1, n⟩
  · obtain ⟨c1, q1⟩ := own_of i ca e1
    obtain ⟨c2, q2⟩ := own_of i' cb e3
    exact S.ownI i i' b c1 c2 q1 e2 q2 e4
  · obtain ⟨c1, q1⟩ := arg_of j ca e1
    obtain ⟨c2, q2⟩ := arg_of j' cb e3
    exact S.argI j j' b c1 c2 q1 e2 q2 e4
  · rcases h3 b hl with q | q
    · exact S.dis b ((hM b).mp hb) q
    · exact S.mtr ((hM b).mp hb) q.2
  · rcases h3 b hb with q | q
    · rcases hLc b (.inl q) with z | ⟨j, c, z1, z2⟩
      · exact B.tr b (B.up b z)
      · obtain ⟨cb, hcb⟩ := (B.same j).mpr ⟨c, z1⟩
        obtain ⟨b', e2, r⟩ := B.args j cb hcb
        rw [z2] at e2; cases e2
        exact r.some
    · exact B.tr b q.1
  · have k1 := S.keep b o e1 fun z => n ((hA b).mpr z)
    by_cases hc : CAt ags xs b
    · exfalso
      obtain ⟨j, ca, h1, h2⟩ := hc
      obtain ⟨v, hv, hg⟩ := agsOf_get e h1
      obtain ⟨x, hx, rv⟩ := rs.get hv
      rw [h2] at hx; cases hx
      cases ag_sh hg with
      | n =>
        rw [hn j ca b hv h2] at e1
        cases e1
      | @s m _ hm =>
        have rv : σ[m]? = some (some (V.ref b)) := rv
        obtain ⟨b', e2, _, h0⟩ := S.slot m _ hm
        rw [rv] at e2; cases e2
        rw [h0] at e1; cases e1
      | @a m _ hm => exact n ((hA b).mpr ⟨m, _, hm, rv⟩)
    · exact B.st b o k1 hc
end
end Lb
/-! ## Lb7 -/
/-! Lb7: the rules of calls of the text's own defs. -/
namespace Lb
open PySem PySem.Spec L2

theorem ARs.mk {K : PySem.W.Frag} {fa : Str → Option Addr} {H : Hp} {F : Addr → Prop} : ∀ {ags : List Ag} {vs : List V}, ags.length = vs.length → (∀ (j : Nat) (a : Ag) (v : V), ags[j]? = some a → vs[j]? = some v → AR K fa H F a v) → ARs K fa H F ags vs
  | [], [], _, _ => trivial
  | a :: as, v :: vs, e, h => ⟨h 0 a v rfl rfl, ARs.mk (by simpa using e) fun j b u h1 h2 => h (j + 1) b u (by simpa using h1) (by simpa using h2)⟩
  | [], _ :: _, e, _ => by simp at e
  | _ :: _, [], e, _ => by simp at e
theorem AR.weak {K : PySem.W.Frag} {fa : Str → Option Addr} {H : Hp} {F F' : Addr → Prop} (hF : ∀ b, F' b → F b) : ∀ {a : Ag} {v : V}, AR K fa H F a v → AR K fa H F' a v
  | .d _, _, r => DR.weak r hF
  | .c _, _, ⟨b, e, r⟩ => ⟨b, e, r.weak hF⟩
  | .f _, _, r => r
  | .z _, _, r => r
  | .x _, _, r => r
section
variable {X : Cx} {Γ : Sg} {fp : Fp} {Wx : WX} {σ : L2.St} {L L1 : Addr → Prop} {w w1 : W} {H H1 : Hp}
theorem call_core {y : Str} {n : Nat} {vs : List Vl} {xs : List V} {ex : KX} {k : KV'} {Q : VK} (S : SR X.K fp L w σ H) (ec : EC X.K fp L w σ H Wx ex) (ep : EPst X.K fp σ L w H k Q)
    (hlen : ∀ (ags : List Ag) (Q : Rv → List (Option CV) → Prop) (E : Exn → List (Option CV) → Prop), Γ.call y ags Q E → ags.length = n)
    (hk : callP Γ y vs w1 ex k) (S1 : SR X.K fp L1 w1 σ H1) (n1 : Nx fp σ L w H L1 w1 H1) (rs : VRs X.K fp L1 w1 σ H1 vs xs) (fs : NFs L vs xs) : spD X.K fp.fa n (Γ.call y) xs H1 Q (WE Wx σ) := by
  obtain ⟨ags, e, dist, hk⟩ := optP_some hk
  have rep : ∀ (j : Nat) (a : Ag), ags[j]? = some a → ∃ (v : Vl) (x : V), vs[j]? = some v ∧ xs[j]? = some x ∧ VR X.K fp L1 w1 σ H1 v x ∧ agOf w1 v = some a := fun j a h => by
    obtain ⟨v, hv, hg⟩ := agsOf_get e h
    obtain ⟨x, hx, r⟩ := rs.get hv
    exact ⟨v, x, hv, hx, r, hg⟩
  have where_ : ∀ b, CAt ags xs b → (MA fp w1 σ b ∨ (L1 b ∧ ¬ L b)) := fun b ⟨j, c, h1, h2⟩ => by
    obtain ⟨v, x, hv, hx, r, hg⟩ := rep j _ h1
    rw [h2] at hx; cases hx
    cases ag_sh hg with
    | n =>
      obtain ⟨b', e', l, _⟩ := r
      cases e'
      exact .inr ⟨l, nf_ne.nfs_get fs hv h2⟩
    | @s m _ hm => exact .inl (.inl ⟨m, _, hm, r⟩)
    | @a m _ hm => exact .inl (.inr ⟨m, _, hm, r⟩)
  have hL : ∀ b, CAt ags xs b → FA fp L1 w1 σ b := fun b hb => (where_ b hb).elim .inr fun q => .inl q.1
  have hH : ∀ b, L b → H b ≠ none := S.tr
  have hnew : ∀ b, L1 b → ¬ L b → H b = none := fun b h1 h2 => (n1.nw b h1).elim (fun z => absurd z h2) id
  have hn : ∀ (j : Nat) (c : CV) (b : Addr), vs[j]? = some (Vl.n c) → xs[j]? = some (V.ref b) → fp.H0 b = none := fun j c b h1 h2 => by
    obtain ⟨x, hx, b', e', l, _⟩ := rs.get h1
    rw [h2] at hx; cases hx; cases e'
    exact S.h0 (hnew b l (nf_ne.nfs_get fs h1 h2))
  have len : ags.length = xs.length := (agsOf_len e).trans rs.length
  refine ⟨by rw [← len]; exact hlen _ _ _ hk, fun b => FA fp L1 w1 σ b ∧ ¬ CAt ags xs b, ags, _, _, ?_, fun b h q => q.2 h, fun b q => S1.ftr q.1, ?_, hk, ?_, ?_⟩
  · refine ARs.mk len fun j a v h1 h2 => ?_
    obtain ⟨v', x, hv, hx, r, hg⟩ := rep j a h1
    rw [h2] at hx; cases hx
    exact (ag_rep S1 r hg).weak fun b hb => hb.elim And.left (hL b)
  · intro j j' b c c' h1 h2 h3 h4
    obtain ⟨v, x, hv, hx, r, hg⟩ := rep j _ h1
    obtain ⟨v', x', hv', hx', r', hg'⟩ := rep j' _ h3
    rw [h2] at hx; cases hx
    rw [h4] at hx'; cases hx'
    cases ag_sh hg with
    | n =>
      obtain ⟨b1, e1, l, _⟩ := r
      cases e1
      cases ag_sh hg' with
      | n => exact nf_ne fs hv h2 hv' h4
      | @s m _ hm => exact absurd l (S1.dis b (.inl ⟨m, _, hm, r'⟩))
      | @a m _ hm => exact absurd l (S1.dis b (.inr ⟨m, _, hm, r'⟩))
    | @s m _ hm =>
      cases ag_sh hg' with
      | n =>
        obtain ⟨b1, e1, l, _⟩ := r'
        cases e1
        exact absurd l (S1.dis b (.inl ⟨m, _, hm, r⟩))
      | @s m' _ hm' =>
        have := S1.ownI m m' b _ _ hm r hm' r'
        subst this
        exact dis_s dist hv hv'
      | @a m' _ hm' =>
        obtain ⟨b1, e1, _, h0⟩ := S1.slot m _ hm
        have r : σ[m]? = some (some (V.ref b)) := r
        rw [r] at e1; cases e1
        obtain ⟨b2, e2, _, h0'⟩ := S1.arg m' _ hm'
        have r' : fp.mv[m']? = some (V.ref b) := r'
        rw [r'] at e2; cases e2
        exact absurd h0 h0'
    | @a m _ hm =>
      cases ag_sh hg' with
      | n =>
        obtain ⟨b1, e1, l, _⟩ := r'
        cases e1
        exact absurd l (S1.dis b (.inr ⟨m, _, hm, r⟩))
      | @s m' _ hm' =>
        obtain ⟨b1, e1, _, h0⟩ := S1.slot m' _ hm'
        have r' : σ[m']? = some (some (V.ref b)) := r'
        rw [r'] at e1; cases e1
        obtain ⟨b2, e2, _, h0'⟩ := S1.arg m _ hm
        have r : fp.mv[m]? = some (V.ref b) := r
        rw [r] at e2; cases e2
        exact absurd h0 h0'
      | @a m' _ hm' =>
        have := S1.argI m m' b _ _ hm r hm' r'
        subst this
        exact dis_a dist hv hv'
  · intro r cs v L' H' hq B rr
    obtain ⟨v', e', hq⟩ := optP_some hq
    have hLc : ∀ b, FA fp L1 w1 σ b → (FA fp L1 w1 σ b ∧ ¬ CAt ags xs b) ∨ CAt ags xs b := fun b hb => by
      by_cases h : CAt ags xs b
      · exact .inr h
      · exact .inl ⟨hb, h⟩
    have bke : ∀ b, H1 b ≠ none → H' b ≠ none := fun b hb => by
      by_cases h : CAt ags xs b
      · obtain ⟨j, c, h1, h2⟩ := h
        obtain ⟨cb, hcb⟩ := (B.same j).mpr ⟨c, h1⟩
        obtain ⟨b', e2, r⟩ := B.args j cb hcb
        rw [h2] at e2; cases e2
        exact r.some
      · cases q : H1 b with
        | none => exact absurd q hb
        | some o => rw [B.st b o q h]; exact fun z => by cases z
    have nx : ∀ L3 : Addr → Prop, (∀ b, L3 b → L1 b ∨ (L' b ∧ H1 b = none)) → (∀ b, L1 b → L3 b) → Nx fp σ L w H L3 (backs w1 vs cs) H' := fun L3 h3 h4 => by
      obtain ⟨_, hM, _, _⟩ := back_SR S1 rs e hLc B h3 hL hn
      refine ⟨fun b o eo nm => ?_, fun b hb => n1.ma b ((hM b).mp hb), fun b hb => h4 b (n1.up b hb), fun b hb => ?_, fun b hb => bke b (n1.ke b hb)⟩
      · refine B.st b o (n1.st b o eo nm) fun hc => ?_
        rcases where_ b hc with q | ⟨q1, q2⟩
        · exact nm (n1.ma b q)
        · rw [hnew b q1 q2] at eo; cases eo
      · rcases h3 b hb with q | q
        · exact n1.nw b q
        · refine .inr ?_
          cases z : H b with
          | none => rfl
          | some o => exact absurd q.2 (n1.ke b (by rw [z]; exact fun z => by cases z))
    have h31 : ∀ b, L1 b → L1 b ∨ (L' b ∧ H1 b = none) := fun b z => .inl z
    obtain ⟨S3, hM, F1, F2⟩ := back_SR S1 rs e hLc B h31 hL hn
    have N3 := nx L1 h31 fun _ z => z
    cases r with
    | d x =>
      cases e'
      exact ep _ _ _ _ _ hq S3 N3 (DR.weak rr F1) trivial
    | f x =>
      cases e'
      exact ep _ _ _ _ _ hq S3 N3 rr trivial
    | n c =>
      cases e'
      obtain ⟨b, rfl, l, h0, rc⟩ := rr
      have h3b : ∀ z, withA L1 b z → L1 z ∨ (L' z ∧ H1 z = none) := fun z hz => hz.elim .inl fun q => .inr (by rw [q]; exact ⟨l, h0⟩)
      obtain ⟨S3, hM, F1, F2⟩ := back_SR S1 rs e hLc B h3b hL hn
      refine ep _ _ _ _ _ hq S3 (nx _ h3b fun _ z => .inl z) ⟨b, rfl, .inr rfl, rc.weak F1⟩ fun b' e1 z => ?_
      cases e1
      exact n1.ke b (S.tr b z) h0
    | a j =>
      obtain ⟨rr, cb, hcb⟩ := rr
      obtain ⟨ca, ha⟩ := (B.same j).mp ⟨cb, hcb⟩
      obtain ⟨v0, x, hv, hx, rv, hg⟩ := rep j _ ha
      rw [rr] at hx; cases hx
      obtain ⟨b, e2, rc⟩ := B.args j cb hcb
      rw [rr] at e2; cases e2
      unfold resOf at e'
      simp only [hv, hcb] at e'
      cases ag_sh hg with
      | n =>
        cases e'
        obtain ⟨b1, e1, l, _⟩ := rv
        cases e1
        exact ep _ _ _ _ _ hq S3 N3 ⟨b, rfl, l, rc.weak F1⟩ fun b' e1 z => by
          cases e1
          exact nf_ne.nfs_get fs hv rr z
      | s => cases e'; exact ep _ _ _ _ _ hq S3 N3 rv trivial
      | a => cases e'; exact ep _ _ _ _ _ hq S3 N3 rv trivial
  · intro ee cs c dd L' H' hq B xr
    have hLc : ∀ b, FA fp L1 w1 σ b → (FA fp L1 w1 σ b ∧ ¬ CAt ags xs b) ∨ CAt ags xs b := fun b hb => by
      by_cases h : CAt ags xs b
      · exact .inr h
      · exact .inl ⟨hb, h⟩
    have bke : ∀ b, H1 b ≠ none → H' b ≠ none := fun b hb => by
      by_cases h : CAt ags xs b
      · obtain ⟨j, c, h1, h2⟩ := h
        obtain ⟨cb, hcb⟩ := (B.same j).mpr ⟨c, h1⟩
        obtain ⟨b', e2, r⟩ := B.args j cb hcb
        rw [h2] at e2; cases e2
        exact r.some
      · cases q : H1 b with
        | none => exact absurd q hb
        | some o => rw [B.st b o q h]; exact fun z => by cases z
    have nx : ∀ L3 : Addr → Prop, (∀ b, L3 b → L1 b ∨ (L' b ∧ H1 b = none)) → (∀ b, L1 b → L3 b) → Nx fp σ L w H L3 (backs w1 vs cs) H' := fun L3 h3 h4 => by
      obtain ⟨_, hM, _, _⟩ := back_SR S1 rs e hLc B h3 hL hn
      refine ⟨fun b o eo nm => ?_, fun b hb => n1.ma b ((hM b).mp hb), fun b hb => h4 b (n1.up b hb), fun b hb => ?_, fun b hb => bke b (n1.ke b hb)⟩
      · refine B.st b o (n1.st b o eo nm) fun hc => ?_
        rcases where_ b hc with q | ⟨q1, q2⟩
        · exact nm (n1.ma b q)
        · rw [hnew b q1 q2] at eo; cases eo
      · rcases h3 b hb with q | q
        · exact n1.nw b q
        · refine .inr ?_
          cases z : H b with
          | none => rfl
          | some o => exact absurd q.2 (n1.ke b (by rw [z]; exact fun z => by cases z))
    obtain ⟨S3, _⟩ := back_SR S1 rs e hLc B (fun b z => .inl z) hL hn
    exact ec ee _ σ H' c dd hq (S3.weak n1.up) (nx L1 (fun b z => .inl z) fun _ z => z).s xr

theorem run_G {k : Nat} {f : Addr} {sp : Sp} {pins : List (Addr × Obj)} {s : Shared} {Q : VK} {us : List Value} {vs : List V} (F : FnG X.prog X.w X.K X.mg X.base k f sp) (hgd : X.A.guards = some []) (hr : Room k X.A) (tk : Takes X Wx)
    (I : Inv X pins σ H s) (r : Vals vs us) (h : sp vs H Q (WE Wx σ)) : wpAny (model X.prog X.w) X.A (call (.ref f) us) (EP X pins σ Q) X.xe s := by
  refine wpAny_call (codeAny_mono (F.run X.A X.stack s H us vs Q (WE Wx σ) hgd hr I.env0 r h) fun r s' hq => ?_)
  cases r with
  | error e => exact passAt tk σ pins H s e s' I hq
  | ok fl =>
    cases fl with
    | ret u => exact I.after hq
    | next => exact False.elim hq
    | brk => exact False.elim hq
    | cont => exact False.elim hq
/-- what X knows of the def y of the text -/
structure Knows (X : Cx) (Γ : Sg) (fp : Fp) (k : Nat) (x y : Str) (n : Nat) : Prop where
  ex : ∃ f : Addr, X.mg x = some (.ref f) ∧ fp.fa y = some f ∧ PySem.W.keepIn X.K (.ref f) = true ∧ FnG X.prog X.w X.K X.mg X.base k f (spD X.K fp.fa n (Γ.call y))
  len : ∀ (ags : List Ag) (Q : Rv → List (Option CV) → Prop) (E : Exn → List (Option CV) → Prop), Γ.call y ags Q E → ags.length = n
theorem r_call {k n : Nat} {x y : Str} {e : Expr} {es : List Expr} {ses : SEs} {p pos : Pos} (kn : Knows X Γ fp k x y n) (hgd : X.A.guards = some []) (hr : Room k X.A) (tk : Takes X Wx) (hg : Gl X x) (ha : PA X (e :: es) (tA X.K Γ fp Wx ses))
    (hdb : (x == ("__debug__" : Str)) = false := by decide) (he : starEach (e :: es) X.env = (false, eval e X.env) :: starEach es X.env := by rfl) (hpl : (backTo pos (starEach es X.env)).any (·.1) = false := by rfl) :
    PE X (.Call (.Name x p) (e :: es) [] pos) (tE X.K Γ fp Wx (.call y ses)) := by
  obtain ⟨⟨f, hm, hf, hk, F⟩, hlen⟩ := kn
  refine ⟨fun pins s σ H Q I ⟨L, w, ex, k, S, ec, h, ep⟩ => ?_⟩
  refine wpAny_Call_Name_kw (ld_glob I hg hm ?_ hdb)
  refine PySem.W.callWith_K (h₀ := X.base) I.ok.mod.kin hk (thn (ha.run pos pins s σ H (fun xs H1 => spD X.K fp.fa n (Γ.call y) xs H1 Q (WE Wx σ)) I ⟨L, w, ex, _, S, ec, h, fun vs w1 xs L1 H1 hk S1 n1 rs fs => call_core S ec ep hlen hk S1 n1 rs fs⟩)
    fun us s1 ⟨vs, H1, I1, r, q⟩ => ⟨I1.kIn, run_G F hgd hr tk I1 r q⟩) he hpl
theorem r_call0 {k n : Nat} {x y : Str} {p pos : Pos} (kn : Knows X Γ fp k x y n) (hgd : X.A.guards = some []) (hr : Room k X.A) (tk : Takes X Wx) (hg : Gl X x) (hdb : (x == ("__debug__" : Str)) = false := by decide) :
    PE X (.Call (.Name x p) [] [] pos) (tE X.K Γ fp Wx (.call y .nil)) := by
  obtain ⟨⟨f, hm, hf, hk, F⟩, hlen⟩ := kn
  refine ⟨fun pins s σ H Q I ⟨L, w, ex, k, S, ec, h, ep⟩ => ?_⟩
  refine wpAny_Call_Name_kw (ld_glob I hg hm ?_ hdb)
  exact PySem.W.callWith_K0 I.kIn hk (run_G (us := []) (vs := []) F hgd hr tk I .nil (call_core S ec ep hlen (vs := []) (xs := []) h S Nx.refl trivial trivial))
/-- a call of a name that holds a def -/
theorem r_callv {k i : Nat} {x : Str} {e : Expr} {es : List Expr} {ses : SEs} {p pos : Pos} (kn : ∀ y f, fp.fa y = some f → XCL.contains y = false → ∃ n, PySem.W.keepIn X.K (.ref f) = true ∧ FnG X.prog X.w X.K X.mg X.base k f (spD X.K fp.fa n (Γ.call y)) ∧ ∀ (ags : List Ag) (Q : Rv → List (Option CV) → Prop) (E : Exn → List (Option CV) → Prop), Γ.call y ags Q E → ags.length = n)
    (hgd : X.A.guards = some []) (hr : Room k X.A) (tk : Takes X Wx) (hN : X.N[i]? = some x) (hv : Vis X.env.scope x) (ha : PA X (e :: es) (tA X.K Γ fp Wx ses))
    (hdb : (x == ("__debug__" : Str)) = false := by decide) (hcd : (x == ("__classdict__" : Str)) = false := by decide) (he : starEach (e :: es) X.env = (false, eval e X.env) :: starEach es X.env := by rfl) (hpl : (backTo pos (starEach es X.env)).any (·.1) = false := by rfl) :
    PE X (.Call (.Name x p) (e :: es) [] pos) (tE X.K Γ fp Wx (.callv i ses)) := by
  refine ⟨fun pins s σ H Q I ⟨L, w, ex, k, S, ec, h, ep⟩ => ?_⟩
  have h : (match w.r[i]? with
    | some (.f x) => XCL.contains x = false ∧ evA Γ ses w ex fun vs w1 => callP Γ x vs w1 ex k
    | _ => False) := h
  cases q : w.r[i]? with
  | none => rw [q] at h; exact h.elim
  | some sl =>
    rw [q] at h
    cases sl with
    | f y =>
      obtain ⟨f, e1, hf⟩ := S.slot i _ q
      obtain ⟨hy, h⟩ := h
      obtain ⟨n, hk, F, hlen⟩ := kn y f hf hy
      refine wpAny_Call_Name_kw (thn ((pe_var (pos := p) hN hv hdb hcd).run pins s σ H (fun v H1 => v = .ref f ∧ H1 = H) I ⟨.ref f, e1, rfl, rfl⟩) fun u s1 ⟨v, H1, I1, r1, q1⟩ => ?_)
      obtain ⟨rfl, rfl⟩ := q1
      cases r1
      exact PySem.W.callWith_K (h₀ := X.base) I.ok.mod.kin hk (thn (ha.run pos pins s1 σ H1 (fun xs H1 => spD X.K fp.fa n (Γ.call y) xs H1 Q (WE Wx σ)) I1 ⟨L, w, ex, _, S, ec, h, fun vs w1 xs L1 H1 hk S1 n1 rs fs => call_core S ec ep hlen hk S1 n1 rs fs⟩)
        fun us s2 ⟨vs, H2, I2, r, q⟩ => ⟨I2.kIn, run_G F hgd hr tk I2 r q⟩) he hpl
    | _ => exact False.elim h
end
end Lb
set_option maxHeartbeats 1000000
/-! ## Lb8 -/
/-! Lb8: built-in functions and methods. -/
namespace Lb
open PySem PySem.Spec L2

def TRs (K : PySem.W.Frag) (H : Hp) (F : Addr → Prop) : List V → List D → Prop
  | [], [] => True
  | v :: vs, d :: ds => TR K H F v d ∧ TRs K H F vs ds
  | _, _ => False
section
variable {X : Cx} {Γ : Sg} {fp : Fp} {Wx : WX}
theorem rds_end {σ : L2.St} {L : Addr → Prop} {w : W} {H : Hp} (S : SR X.K fp L w σ H) : ∀ {vs : List Vl} {xs : List V} {k : List D → Prop}, VRs X.K fp L w σ H vs xs → rdsP w vs k → ∃ ds, TRs X.K H (FA fp L w σ) xs ds ∧ k ds
  | [], [], k, _, h => ⟨[], trivial, h⟩
  | v :: vs, x :: xs, k, ⟨r, t⟩, h => by
    obtain ⟨p, e, h⟩ := rdP_some h
    obtain ⟨ds, q1, q2⟩ := rds_end S t h
    exact ⟨p :: ds, ⟨VR.rd S r e, q1⟩, q2⟩
  | [], _ :: _, _, h, _ => False.elim h
  | _ :: _, [], _, h, _ => False.elim h
/-- a built-in by its readings: conv makes of them what the built-in's own rule asks -/
theorem bi_core {b : Bi} {ses : SEs} {r : List V → Hp → VK → Prop} 
    (conv : ∀ (H : Hp) (F : Addr → Prop) (xs : List V) (ds : List D) (kk : Vl → Prop) (Q : VK), TRs X.K H F xs ds → biP b ds kk →
      (∀ (d : D) (v : V), kk (.d d) → DR X.K H F v d → Q v H) → (∀ (ds : List D) (vs : List V) (p : Addr), kk (.n (.l ds)) → DRs X.K H F vs ds → H p = none → Q (.ref p) (upd H p (.lst vs))) →
      (∀ (ds : List D) (vs : List V) (p : Addr), kk (.d (.tuple ds)) → DRs X.K H F vs ds → H p = none → Q (.ref p) (upd H p (.tup vs))) → r xs H Q) :
    ∀ σ H Q, tE X.K Γ fp Wx (.bi b ses) σ H Q → tCB r (tA X.K Γ fp Wx ses) σ H Q := fun σ H Q ⟨L, w, ex, k, S, ec, h, ep⟩ => ⟨L, w, ex, _, S, ec, h, fun vs w1 xs L1 H1 hk S1 n1 rs fs => by
  obtain ⟨ds, t, hk⟩ := rds_end S1 rs hk
  exact conv H1 (FA fp L1 w1 σ) xs ds _ Q t hk (fun d v h1 h2 => ep.fd h1 S1 n1 h2) (fun ds vs p h1 h2 h3 => ep.fl S h1 S1 n1 h2 h3) fun ds vs p h1 h2 h3 => ep.ft h1 S1 n1 h2 h3⟩
theorem TRs.one {K : PySem.W.Frag} {H : Hp} {F : Addr → Prop} {xs : List V} {d : D} (t : TRs K H F xs [d]) : ∃ x, xs = [x] ∧ TR K H F x d := by
  match xs, t with
  | [x], ⟨t, _⟩ => exact ⟨x, rfl, t⟩
theorem TRs.two {K : PySem.W.Frag} {H : Hp} {F : Addr → Prop} {xs : List V} {d e : D} (t : TRs K H F xs [d, e]) : ∃ x y, xs = [x, y] ∧ TR K H F x d ∧ TR K H F y e := by
  match xs, t with
  | [x, y], ⟨t, u, _⟩ => exact ⟨x, y, rfl, t, u⟩
theorem one1_some {xs : List D} {f : D → Prop} (h : one1 xs f) : ∃ d, xs = [d] ∧ f d := by
  match xs, h with
  | [d], h => exact ⟨d, rfl, h⟩
  | [], h => exact False.elim h
  | _ :: _ :: _, h => exact False.elim h
theorem two2_some {xs : List D} {f : D → D → Prop} (h : two2 xs f) : ∃ d e, xs = [d, e] ∧ f d e := by
  match xs, h with
  | [d, e], h => exact ⟨d, e, rfl, h⟩
  | [], h => exact False.elim h
  | [_], h => exact False.elim h
  | _ :: _ :: _ :: _, h => exact False.elim h
/-- len -/
theorem r_len {e : Expr} {es : List Expr} {ses : SEs} {p pos : Pos} (hg : Gl X "len") (hm : X.mg "len" = none) (ha : PA X (e :: es) (tA X.K Γ fp Wx ses)) (he : starEach (e :: es) X.env = (false, eval e X.env) :: starEach es X.env := by rfl) (hpl : (backTo pos (starEach es X.env)).any (·.1) = false := by rfl) :
    PE X (.Call (.Name "len" p) (e :: es) [] pos) (tE X.K Γ fp Wx (.bi .len ses)) := by
  have hc : CallR X (.builtin "len") (fun xs H Q => (∃ p ys, xs = [.ref p] ∧ (SqL X.K H p ys ∨ SqT X.K H p ys) ∧ Q (.int ys.length) H) ∨ (∃ z, xs = [.str z] ∧ z.length ≤ sizeLine ∧ Q (.int z.length) H)) := by
    intro pins s σ H xs us Q I r h
    rcases h with h | h
    · exact call_len_seq pins s σ H xs us Q I r h
    · exact call_len_str pins s σ H xs us Q I r h
  refine PE.imp (pe_callB hc hg hm PySem.boot_len ha (by decide) (by decide) he hpl) (bi_core fun H F xs ds kk Q t hk f1 f2 f3 => ?_)
  obtain ⟨d, e0, hk⟩ := one1_some hk
  subst e0
  obtain ⟨x, e0, u⟩ := t.one
  subst e0
  cases d <;> first
    | exact False.elim hk
    | (obtain ⟨e1, hz⟩ := u.str
       subst e1
       exact .inr ⟨_, rfl, hz, f1 _ _ hk (.int _)⟩)
    | (obtain ⟨b, vs, rfl, hs, r⟩ := u.tup
       refine .inl ⟨b, vs, rfl, .inr hs, ?_⟩
       rw [r.length]
       exact f1 _ _ hk (.int _))
    | (obtain ⟨b, vs, rfl, hs, r⟩ := u.lst
       refine .inl ⟨b, vs, rfl, .inl (SqL.of hs), ?_⟩
       rw [r.length]
       exact f1 _ _ hk (.int _))
theorem r_abs {e : Expr} {es : List Expr} {ses : SEs} {p pos : Pos} (hg : Gl X "abs") (hm : X.mg "abs" = none) (ha : PA X (e :: es) (tA X.K Γ fp Wx ses)) (he : starEach (e :: es) X.env = (false, eval e X.env) :: starEach es X.env := by rfl) (hpl : (backTo pos (starEach es X.env)).any (·.1) = false := by rfl) :
    PE X (.Call (.Name "abs" p) (e :: es) [] pos) (tE X.K Γ fp Wx (.bi .abs ses)) :=
  PE.imp (pe_callB call_abs hg hm PyProof.Rows.boot_abs ha (by decide) (by decide) he hpl) (bi_core fun H F xs ds kk Q t hk f1 f2 f3 => by
    obtain ⟨d, e0, hk⟩ := one1_some hk
    subst e0
    obtain ⟨x, e0, u⟩ := t.one
    subst e0
    obtain ⟨i, e0, hk⟩ := intP_some hk
    subst e0
    have e := u.int
    subst e
    exact ⟨i, rfl, f1 _ _ hk (.int _)⟩)
theorem r_min2 (hc : X.calm = true) {e : Expr} {es : List Expr} {ses : SEs} {p pos : Pos} (hg : Gl X "min") (hm : X.mg "min" = none) (ha : PA X (e :: es) (tA X.K Γ fp Wx ses)) (he : starEach (e :: es) X.env = (false, eval e X.env) :: starEach es X.env := by rfl) (hpl : (backTo pos (starEach es X.env)).any (·.1) = false := by rfl) :
    PE X (.Call (.Name "min" p) (e :: es) [] pos) (tE X.K Γ fp Wx (.bi .min2 ses)) :=
  PE.imp (pe_callB (call_min2 hc) hg hm (by decide +kernel) ha (by decide) (by decide) he hpl) (bi_core fun H F xs ds kk Q t hk f1 f2 f3 => by
    obtain ⟨d, d', e0, hk⟩ := two2_some hk
    subst e0
    obtain ⟨x, y, e0, u, u'⟩ := t.two
    subst e0
    obtain ⟨i, e0, hk⟩ := intP_some hk
    subst e0
    obtain ⟨j, e0, hk⟩ := intP_some hk
    subst e0
    have e := u.int
    have e' := u'.int
    subst e e'
    exact ⟨i, j, rfl, f1 _ _ hk (.int _)⟩)
theorem r_max2 (hc : X.calm = true) {e : Expr} {es : List Expr} {ses : SEs} {p pos : Pos} (hg : Gl X "max") (hm : X.mg "max" = none) (ha : PA X (e :: es) (tA X.K Γ fp Wx ses)) (he : starEach (e :: es) X.env = (false, eval e X.env) :: starEach es X.env := by rfl) (hpl : (backTo pos (starEach es X.env)).any (·.1) = false := by rfl) :
    PE X (.Call (.Name "max" p) (e :: es) [] pos) (tE X.K Γ fp Wx (.bi .max2 ses)) :=
  PE.imp (pe_callB (call_max2 hc) hg hm (by decide +kernel) ha (by decide) (by decide) he hpl) (bi_core fun H F xs ds kk Q t hk f1 f2 f3 => by
    obtain ⟨d, d', e0, hk⟩ := two2_some hk
    subst e0
    obtain ⟨x, y, e0, u, u'⟩ := t.two
    subst e0
    obtain ⟨i, e0, hk⟩ := intP_some hk
    subst e0
    obtain ⟨j, e0, hk⟩ := intP_some hk
    subst e0
    have e := u.int
    have e' := u'.int
    subst e e'
    exact ⟨i, j, rfl, f1 _ _ hk (.int _)⟩)
theorem r_int1 {e : Expr} {es : List Expr} {ses : SEs} {p pos : Pos} (hg : Gl X "int") (hm : X.mg "int" = none) (ha : PA X (e :: es) (tA X.K Γ fp Wx ses)) (he : starEach (e :: es) X.env = (false, eval e X.env) :: starEach es X.env := by rfl) (hpl : (backTo pos (starEach es X.env)).any (·.1) = false := by rfl) :
    PE X (.Call (.Name "int" p) (e :: es) [] pos) (tE X.K Γ fp Wx (.bi .intOf ses)) :=
  PE.imp (pe_callTy call_int1 hg hm PyProof.Rows.boot_int ha (by decide) (by decide) he hpl) (bi_core fun H F xs ds kk Q t hk f1 f2 f3 => by
    obtain ⟨d, e0, hk⟩ := one1_some hk
    subst e0
    obtain ⟨x, e0, u⟩ := t.one
    subst e0
    cases d <;> first
      | exact False.elim hk
      | (have e := u.int; subst e; exact .inl ⟨_, rfl, f1 _ _ hk (.int _)⟩)
      | (have e := u.bool; subst e; exact .inr ⟨_, rfl, f1 _ _ hk (.int _)⟩))
theorem r_str1 {e : Expr} {es : List Expr} {ses : SEs} {p pos : Pos} (hg : Gl X "str") (hm : X.mg "str" = none) (ha : PA X (e :: es) (tA X.K Γ fp Wx ses)) (he : starEach (e :: es) X.env = (false, eval e X.env) :: starEach es X.env := by rfl) (hpl : (backTo pos (starEach es X.env)).any (·.1) = false := by rfl) :
    PE X (.Call (.Name "str" p) (e :: es) [] pos) (tE X.K Γ fp Wx (.bi .strOf ses)) :=
  PE.imp (pe_callTy call_str_int hg hm PyProof.Rows.boot_str ha (by decide) (by decide) he hpl) (bi_core fun H F xs ds kk Q t hk f1 f2 f3 => by
    obtain ⟨d, e0, hk⟩ := one1_some hk
    subst e0
    obtain ⟨x, e0, u⟩ := t.one
    subst e0
    obtain ⟨i, e0, hk⟩ := intP_some hk
    subst e0
    have e := u.int
    subst e
    exact ⟨i, rfl, hk.1.1, f1 _ _ hk.2 (.str _ hk.1.2)⟩)
theorem r_tuple1 {e : Expr} {es : List Expr} {ses : SEs} {p pos : Pos} (hg : Gl X "tuple") (hm : X.mg "tuple" = none) (ha : PA X (e :: es) (tA X.K Γ fp Wx ses)) (he : starEach (e :: es) X.env = (false, eval e X.env) :: starEach es X.env := by rfl) (hpl : (backTo pos (starEach es X.env)).any (·.1) = false := by rfl) :
    PE X (.Call (.Name "tuple" p) (e :: es) [] pos) (tE X.K Γ fp Wx (.bi .tupleOf ses)) :=
  PE.imp (pe_callTy call_tuple_of hg hm PyProof.Rows.boot_tuple ha (by decide) (by decide) he hpl) (bi_core fun H F xs ds kk Q t hk f1 f2 f3 => by
    obtain ⟨d, e0, hk⟩ := one1_some hk
    subst e0
    obtain ⟨x, e0, u⟩ := t.one
    subst e0
    cases d <;> first
      | exact False.elim hk
      | (obtain ⟨b, vs, rfl, hs, r⟩ := u.lst
         exact ⟨b, vs, rfl, .inl ⟨SqL.of hs, fun p hp => f3 _ vs p hk r hp⟩⟩)
      | (obtain ⟨b, vs, rfl, hs, r⟩ := u.tup
         exact ⟨b, vs, rfl, .inr ⟨hs, f1 _ _ hk (.tup hs r)⟩⟩))
theorem r_list1 {e : Expr} {es : List Expr} {ses : SEs} {p pos : Pos} (hg : Gl X "list") (hm : X.mg "list" = none) (ha : PA X (e :: es) (tA X.K Γ fp Wx ses)) (he : starEach (e :: es) X.env = (false, eval e X.env) :: starEach es X.env := by rfl) (hpl : (backTo pos (starEach es X.env)).any (·.1) = false := by rfl) :
    PE X (.Call (.Name "list" p) (e :: es) [] pos) (tE X.K Γ fp Wx (.bi .listOf ses)) :=
  PE.imp (pe_callTy call_list_of hg hm PyProof.Rows.boot_list ha (by decide) (by decide) he hpl) (bi_core fun H F xs ds kk Q t hk f1 f2 f3 => by
    obtain ⟨d, e0, hk⟩ := one1_some hk
    subst e0
    obtain ⟨x, e0, u⟩ := t.one
    subst e0
    cases d <;> first
      | exact False.elim hk
      | (obtain ⟨b, vs, rfl, hs, r⟩ := u.lst
         exact ⟨b, vs, rfl, .inl (SqL.of hs), fun p hp => f2 _ vs p hk r hp⟩)
      | (obtain ⟨b, vs, rfl, hs, r⟩ := u.tup
         exact ⟨b, vs, rfl, .inr hs, fun p hp => f2 _ vs p hk r hp⟩))
theorem intsD_some : ∀ {ds : List D} {ns : List Int}, intsD ds = some ns → ds = ns.map .int
  | [], _, h => by cases h; rfl
  | d :: ds, ns, h => by
    unfold intsD at h
    cases d <;> first
      | (simp only at h; cases h; done)
      | (rename_i i
         simp only at h
         cases q : intsD ds with
         | none => rw [q] at h; cases h
         | some ms => rw [q] at h; cases h; rw [intsD_some q]; rfl)
theorem strsD_some : ∀ {ds : List D} {ns : List Str}, strsD ds = some ns → ds = ns.map .str
  | [], _, h => by cases h; rfl
  | d :: ds, ns, h => by
    unfold strsD at h
    cases d <;> first
      | (simp only at h; cases h; done)
      | (rename_i i
         simp only at h
         cases q : strsD ds with
         | none => rw [q] at h; cases h
         | some ms => rw [q] at h; cases h; rw [strsD_some q]; rfl)
theorem DRs.ints {K : PySem.W.Frag} {H : Hp} {F : Addr → Prop} : ∀ {ns : List Int} {vs : List V}, DRs K H F vs (ns.map .int) → vs = ns.map .int
  | [], _, .nil => rfl
  | n :: ns, _, .cons r t => by
    cases r
    rw [DRs.ints t]
    rfl
theorem DRs.strs {K : PySem.W.Frag} {H : Hp} {F : Addr → Prop} : ∀ {ns : List Str} {vs : List V}, DRs K H F vs (ns.map .str) → vs = ns.map .str
  | [], _, .nil => rfl
  | n :: ns, _, .cons r t => by
    cases r
    rw [DRs.strs t]
    rfl
theorem r_sum (hc : X.calm = true) {e : Expr} {es : List Expr} {ses : SEs} {p pos : Pos} (hg : Gl X "sum") (hm : X.mg "sum" = none) (ha : PA X (e :: es) (tA X.K Γ fp Wx ses)) (he : starEach (e :: es) X.env = (false, eval e X.env) :: starEach es X.env := by rfl) (hpl : (backTo pos (starEach es X.env)).any (·.1) = false := by rfl) :
    PE X (.Call (.Name "sum" p) (e :: es) [] pos) (tE X.K Γ fp Wx (.bi .sumOf ses)) :=
  PE.imp (pe_callB (cr_sum hc) hg hm (by decide +kernel) ha (by decide) (by decide) he hpl) (bi_core fun H F xs ds kk Q t hk f1 f2 f3 => by
    obtain ⟨d, e0, hk⟩ := one1_some hk
    subst e0
    obtain ⟨x, e0, u⟩ := t.one
    subst e0
    cases d <;> first
      | exact False.elim hk
      | (obtain ⟨b, vs, rfl, hs, r⟩ := u.lst
         obtain ⟨ns, e, hk2⟩ := optP_some hk
         have e := intsD_some e
         subst e
         have e := DRs.ints r
         subst e
         exact ⟨b, ns, rfl, SqL.of hs, f1 _ _ hk2 (.int _)⟩))
/-! ### isinstance -/
def tyN : Ty → String
  | .int => "int" | .bool => "bool" | .str => "str" | .tuple => "tuple" | .list => "list" | .dict => "dict"
def dN : D → String
  | .none => "NoneType" | .bool _ => "bool" | .int _ => "int" | .str _ => "str" | .tuple _ => "tuple" | .list _ => "list" | .dict _ => "dict"
theorem kit_none (t : Ty) : kitB "NoneType" (tyN t) = some (match t with | _ => false) := by cases t <;> decide +kernel
theorem kit_bool (t : Ty) : kitB "bool" (tyN t) = some (match t with | .int => true | .bool => true | _ => false) := by cases t <;> decide +kernel
theorem kit_int (t : Ty) : kitB "int" (tyN t) = some (match t with | .int => true | _ => false) := by cases t <;> decide +kernel
theorem kit_str (t : Ty) : kitB "str" (tyN t) = some (match t with | .str => true | _ => false) := by cases t <;> decide +kernel
theorem kit_tuple (t : Ty) : kitB "tuple" (tyN t) = some (match t with | .tuple => true | _ => false) := by cases t <;> decide +kernel
theorem kit_list (t : Ty) : kitB "list" (tyN t) = some (match t with | .list => true | _ => false) := by cases t <;> decide +kernel
theorem kit_dict (t : Ty) : kitB "dict" (tyN t) = some (match t with | .dict => true | _ => false) := by cases t <;> decide +kernel
theorem kit_all (t : Ty) (d : D) : kitB (dN d) (tyN t) = some (isT t d) := by
  cases d with
  | none => cases t <;> exact kit_none _
  | bool b => cases t <;> exact kit_bool _
  | int i => cases t <;> exact kit_int _
  | str x => cases t <;> exact kit_str _
  | tuple x => cases t <;> exact kit_tuple _
  | list x => cases t <;> exact kit_list _
  | dict x => cases t <;> exact kit_dict _
theorem TR.ty {K : PySem.W.Frag} {H : Hp} {F : Addr → Prop} {d : D} {v : V} (t : TR K H F v d) : TyX K H v (.type (dN d)) := by
  cases d with
  | none => rw [t.none]; exact .base .non
  | bool b => rw [t.bool]; exact .base (.bl _)
  | int i => rw [t.int]; exact .base (.int _)
  | str x => rw [t.str.1]; exact .base (.str _)
  | list xs => obtain ⟨b, vs, rfl, h, _⟩ := t.lst; exact .base (.lst h)
  | dict kvs => obtain ⟨b, vs, rfl, h, _⟩ := t.dic; exact .base (.dK h)
  | tuple xs =>
    obtain ⟨b, vs, rfl, h, _⟩ := t.tup
    rcases h with (h | ⟨o, h⟩) | ⟨o, its, n, h1, h2, _⟩
    · exact .base (.tup h)
    · exact .fTuple h
    · exact .kTuple h1 h2
theorem r_isi (ty : Ty) {x : Str} {e : Expr} {se : SE} {p p2 pos : Pos} (hg : Gl X "isinstance") (hm : X.mg "isinstance" = none) (hg2 : Gl X x) (hm2 : X.mg x = none) (hb : bootBuiltins x = some (.type (tyN ty))) (ha : PE X e (tE X.K Γ fp Wx se)) (hn : x ≠ "__name__" := by decide) (hdb : (x == ("__debug__" : Str)) = false := by decide)
    (hs : starEach (e :: [.Name x p2]) X.env = (false, eval e X.env) :: starEach [.Name x p2] X.env := by rfl) (hs2 : starEach (.Name x p2 :: []) X.env = (false, eval (.Name x p2) X.env) :: starEach [] X.env := by rfl) (hpl : (backTo pos (starEach [.Name x p2] X.env)).any (·.1) = false := by rfl) :
    PE X (.Call (.Name "isinstance" p) [e, .Name x p2] [] pos) (tE X.K Γ fp Wx (.bi (.isi ty) (.cons se .nil))) :=
  PE.imp (pe_callB call_isi hg hm PyProof.Rows.boot_isinstance (pa_cons ha (pa_cons (pe_bltn (v := .ty (tyN ty)) hg2 hm2 hb rfl hn hdb) pa_nil hs2) hs) (by decide) (by decide) hs hpl) fun σ H Q ⟨L, w, ex, k, S, ec, h, ep⟩ => one S ec h fun v w1 x L1 H1 hk S1 n1 r1 _ => by
    have hk : rdP w1 v fun d => k (.d (.bool (isT ty d))) w1 := hk
    obtain ⟨d, e1, hk⟩ := rdP_some hk
    exact ⟨x, .ty (tyN ty), _, _, isT ty d, rfl, .ty _, (VR.rd S1 r1 e1).ty, kit_ty (kit_all ty d), ep.fd hk S1 n1 (.bl _)⟩
end
end Lb
set_option maxHeartbeats 1000000
/-! ## Lb9 -/
/-! Lb9: what changes things; methods of texts; slices backwards. -/
namespace Lb
open PySem PySem.Spec L2
section
variable {K : PySem.W.Frag} {fp : Fp} {L : Addr → Prop} {w : W} {σ : L2.St} {H : Hp}
theorem getCP_some {v : Vl} {k : CV → Prop} (h : getCP w v k) : ∃ c, getC w v = some c ∧ k c := by
  unfold getCP at h
  cases e : getC w v with
  | none => rw [e] at h; exact h.elim
  | some c => rw [e] at h; exact ⟨c, rfl, h⟩
/-- a changeable thing is changed -/
theorem SR.put (S : SR K fp L w σ H) {v : Vl} {x : V} {c : CV} (r : VR K fp L w σ H v x) (hg : getC w v = some c) : ∃ b, x = .ref b ∧ CR K H (FA fp L w σ) b c ∧ MA fp w σ b ∧
    ∀ (c' : CV) (o : HO), CR K (upd H b o) (FA fp L w σ) b c' → SR K fp L (w.putC v c') σ (upd H b o) ∧ Nx fp σ L w H L (w.putC v c') (upd H b o) ∧ (∀ z, FA fp L (w.putC v c') σ z → FA fp L w σ z) := by
  have ne0 : ∀ (b z : Addr), z ≠ b → ∀ o, upd H b o z = H z := fun b z h o => upd_ne h
  -- from the changed place's own facts
  have fin : ∀ (b : Addr) (w' : W) (o : HO), (∀ z, MA fp w' σ z ↔ MA fp w σ z) → MA fp w σ b →
      ((∀ z, FA fp L w' σ z → FA fp L w σ z) → SR K fp L w' σ (upd H b o)) → SR K fp L w' σ (upd H b o) ∧ Nx fp σ L w H L w' (upd H b o) ∧ (∀ z, FA fp L w' σ z → FA fp L w σ z) := fun b w' o hM hb h => by
    have hF : ∀ z, FA fp L w' σ z → FA fp L w σ z := fun z hz => hz.imp id (hM z).mp
    refine ⟨h hF, ⟨Stay.put hb, fun z hz => (hM z).mp hz, fun _ z => z, fun _ z => .inl z, fun z hz => ?_⟩, hF⟩
    by_cases e : z = b
    · rw [e, upd_same]; exact fun z => by cases z
    · rw [upd_ne e]; exact hz
  cases v with
  | s i =>
    have r : σ[i]? = some (some x) := r
    unfold getC at hg
    simp only at hg
    cases q : w.r[i]? with
    | none => rw [q] at hg; cases hg
    | some sl =>
      rw [q] at hg
      cases sl with
      | o c0 =>
        cases hg
        obtain ⟨b, e, rc, h0⟩ := S.slot i _ q
        rw [r] at e; cases e
        have hi : i < w.r.length := (List.getElem?_eq_some_iff.mp q).1
        have hb : MA fp w σ b := .inl ⟨i, _, q, r⟩
        refine ⟨b, rfl, rc, hb, fun c' o hc => ?_⟩
        have hO : ∀ z, OwnAt (w.putC (.s i) c') σ z ↔ OwnAt w σ z := fun z => ⟨fun ⟨j, c2, h1, h2⟩ => by
            rcases set_get h1 with ⟨rfl, _, _⟩ | ⟨ne, h1⟩
            · exact ⟨j, _, q, h2⟩
            · exact ⟨j, c2, h1, h2⟩, fun ⟨j, c2, h1, h2⟩ => by
            by_cases e : i = j
            · subst e; exact ⟨i, c', List.getElem?_set_self hi, h2⟩
            · exact ⟨j, c2, (List.getElem?_set_ne e).trans h1, h2⟩⟩
        have hM : ∀ z, MA fp (w.putC (.s i) c') σ z ↔ MA fp w σ z := fun z => ⟨fun h => h.imp (hO z).mp id, fun h => h.imp (hO z).mpr id⟩
        refine fin b (w.putC (.s i) c') o hM hb fun hF => ?_
        have stp : Stay (fun z => z = b) H (upd H b o) := Stay.put rfl
        have mM : MutAt (fun z => z = b) H := fun z e => by rw [e]; exact rc.mut
        have bF : ∀ z, z = b → FA fp L w σ z := fun z e => by rw [e]; exact .inr hb
        refine ⟨?_, fun j s e => ?_, fun j c2 e => ?_, fun j j' z c1 c2 e1 e2 e3 e4 => ?_, S.argI, fun z hz => S.dis z ((hM z).mp hz), fun z hz => ?_, fun z o' e n => ?_⟩
        · show (w.r.set i _).length = _
          rw [List.length_set, S.len]
        · rcases set_get e with ⟨rfl, rfl, _⟩ | ⟨ne, e⟩
          · exact ⟨b, r, hc.weak hF, h0⟩
          · have sl := S.slot j s e
            cases s with
            | no => trivial
            | d y => obtain ⟨v, e1, r1⟩ := sl; exact ⟨v, e1, DR.step stp mM bF (fun z hz => .inl (hF z hz)) r1⟩
            | o c2 =>
              obtain ⟨b2, e1, r1, h2⟩ := sl
              refine ⟨b2, e1, CR.step stp mM bF (fun z hz => .inl (hF z hz)) (fun e' => ?_) r1, h2⟩
              subst e'
              exact ne (S.ownI j i b2 c2 _ e e1 q r)
            | a m => exact sl
            | f y => exact sl
            | z ns => obtain ⟨b2, e1, z, r1⟩ := sl; exact ⟨b2, e1, z, stp.frzL mM r1⟩
            | x y => obtain ⟨b2, C, e1, z, r1⟩ := sl; exact ⟨b2, C, e1, z, stp.ext mM r1⟩
        · obtain ⟨b2, e1, r1, h2⟩ := S.arg j c2 e
          refine ⟨b2, e1, CR.step stp mM bF (fun z hz => .inl (hF z hz)) (fun e' => ?_) r1, h2⟩
          subst e'
          exact h2 h0
        · obtain ⟨c3, q1⟩ : ∃ c3, w.r[j]? = some (.o c3) := by
            rcases set_get e1 with ⟨rfl, _, _⟩ | ⟨_, e1⟩
            · exact ⟨_, q⟩
            · exact ⟨_, e1⟩
          obtain ⟨c4, q2⟩ : ∃ c4, w.r[j']? = some (.o c4) := by
            rcases set_get e3 with ⟨rfl, _, _⟩ | ⟨_, e3⟩
            · exact ⟨_, q⟩
            · exact ⟨_, e3⟩
          exact S.ownI j j' z c3 c4 q1 e2 q2 e4
        · by_cases e : z = b
          · rw [e, upd_same]; exact fun z => by cases z
          · rw [upd_ne e]; exact S.tr z hz
        · rw [upd_ne fun e' => ?_]
          · exact S.keep z o' e n
          · rw [e', h0] at e; cases e
      | _ => cases hg
  | a i =>
    have r : fp.mv[i]? = some x := r
    unfold getC at hg
    simp only at hg
    cases q : w.a[i]? with
    | none => rw [q] at hg; cases hg
    | some oc =>
      rw [q] at hg
      cases oc with
      | none => cases hg
      | some c0 =>
        cases hg
        obtain ⟨b, e, rc, h0⟩ := S.arg i _ q
        rw [r] at e; cases e
        have hi : i < w.a.length := (List.getElem?_eq_some_iff.mp q).1
        have hb : MA fp w σ b := .inr ⟨i, _, q, r⟩
        refine ⟨b, rfl, rc, hb, fun c' o hc => ?_⟩
        have hA : ∀ z, ArgAt fp (w.putC (.a i) c') z ↔ ArgAt fp w z := fun z => ⟨fun ⟨j, c2, h1, h2⟩ => by
            rcases set_get h1 with ⟨rfl, _, _⟩ | ⟨ne, h1⟩
            · exact ⟨j, _, q, h2⟩
            · exact ⟨j, c2, h1, h2⟩, fun ⟨j, c2, h1, h2⟩ => by
            by_cases e : i = j
            · subst e; exact ⟨i, c', List.getElem?_set_self hi, h2⟩
            · exact ⟨j, c2, (List.getElem?_set_ne e).trans h1, h2⟩⟩
        have hM : ∀ z, MA fp (w.putC (.a i) c') σ z ↔ MA fp w σ z := fun z => ⟨fun h => h.imp id (hA z).mp, fun h => h.imp id (hA z).mpr⟩
        refine fin b (w.putC (.a i) c') o hM hb fun hF => ?_
        have stp : Stay (fun z => z = b) H (upd H b o) := Stay.put rfl
        have mM : MutAt (fun z => z = b) H := fun z e => by rw [e]; exact rc.mut
        have bF : ∀ z, z = b → FA fp L w σ z := fun z e => by rw [e]; exact .inr hb
        refine ⟨S.len, fun j s e => ?_, fun j c2 e => ?_, S.ownI, fun j j' z c1 c2 e1 e2 e3 e4 => ?_, fun z hz => S.dis z ((hM z).mp hz), fun z hz => ?_, fun z o' e n => ?_⟩
        · have sl := S.slot j s e
          cases s with
          | no => trivial
          | d y => obtain ⟨v, e1, r1⟩ := sl; exact ⟨v, e1, DR.step stp mM bF (fun z hz => .inl (hF z hz)) r1⟩
          | o c2 =>
            obtain ⟨b2, e1, r1, h2⟩ := sl
            refine ⟨b2, e1, CR.step stp mM bF (fun z hz => .inl (hF z hz)) (fun e' => ?_) r1, h2⟩
            subst e'
            exact h0 h2
          | a m =>
            obtain ⟨b2, c2, e1, e2, e3⟩ := sl
            by_cases em : i = m
            · subst em; exact ⟨b2, c', e1, e2, List.getElem?_set_self hi⟩
            · exact ⟨b2, c2, e1, e2, (List.getElem?_set_ne em).trans e3⟩
          | f y => exact sl
          | z ns => obtain ⟨b2, e1, z, r1⟩ := sl; exact ⟨b2, e1, z, stp.frzL mM r1⟩
          | x y => obtain ⟨b2, C, e1, z, r1⟩ := sl; exact ⟨b2, C, e1, z, stp.ext mM r1⟩
        · rcases set_get e with ⟨rfl, e', _⟩ | ⟨ne, e⟩
          · cases e'
            exact ⟨b, r, hc.weak hF, h0⟩
          · obtain ⟨b2, e1, r1, h2⟩ := S.arg j c2 e
            refine ⟨b2, e1, CR.step stp mM bF (fun z hz => .inl (hF z hz)) (fun e' => ?_) r1, h2⟩
            subst e'
            exact ne (S.argI j i b2 c2 _ e e1 q r)
        · obtain ⟨c3, q1⟩ : ∃ c3, w.a[j]? = some (some c3) := by
            rcases set_get e1 with ⟨rfl, _, _⟩ | ⟨_, e1⟩
            · exact ⟨_, q⟩
            · exact ⟨_, e1⟩
          obtain ⟨c4, q2⟩ : ∃ c4, w.a[j']? = some (some c4) := by
            rcases set_get e3 with ⟨rfl, _, _⟩ | ⟨_, e3⟩
            · exact ⟨_, q⟩
            · exact ⟨_, e3⟩
          exact S.argI j j' z c3 c4 q1 e2 q2 e4
        · by_cases e : z = b
          · rw [e, upd_same]; exact fun z => by cases z
          · rw [upd_ne e]; exact S.tr z hz
        · rw [upd_ne fun e' => ?_]
          · exact S.keep z o' e fun hh => n ((hA z).mpr hh)
          · exact n (by rw [e']; exact (hA b).mpr ⟨i, _, q, r⟩)
  | _ => cases hg
end
section
variable {X : Cx} {Γ : Sg} {fp : Fp} {Wx : WX}
theorem lstP_some {w : W} {v : Vl} {P : Prop} (h : lstP w v P) : ∃ xs, rd w v = some (.list xs) ∧ P := by
  unfold lstP at h
  split at h
  · rename_i xs e; exact ⟨xs, e, h⟩
  · exact h.elim
theorem strP_some {x : D} {f : Str → Prop} (h : strP x f) : ∃ i, x = .str i ∧ f i := by
  cases x <;> first | exact False.elim h | exact ⟨_, rfl, h⟩
theorem ty_list {K : PySem.W.Frag} {H : Hp} {F : Addr → Prop} {v : V} {xs : List D} (t : TR K H F v (.list xs)) : tyV K "list" v H := by
  obtain ⟨b, vs, rfl, h, _⟩ := t.lst
  exact .inl ⟨rfl, vs, SqL.of h⟩
theorem putStep {K : PySem.W.Frag} {H : Hp} {F : Addr → Prop} {b : Addr} {c : CV} {o : HO} (rc : CR K H F b c) (hb : F b) {vs : List V} {ds : List D} (r : DRs K H F vs ds) : DRs K (upd H b o) F vs ds :=
  r.step (M := fun z => z = b) (Stay.put rfl) (fun z e => by rw [e]; exact rc.mut) (fun z e => by rw [e]; exact hb) fun z hz => .inl hz
/-- xs.append(e) -/
theorem r_app {o e : Expr} {so se : SE} {apos cpos : Pos} (ho : PE X o (tE X.K Γ fp Wx so)) (he : PE X e (tE X.K Γ fp Wx se))
    (hbase : attributeBase o "append" X.env (eval o X.env) = eval o X.env := by rfl)
    (hfew : ((backTo cpos (starEach [e] X.env)).all (fun x => !x.1) && (backToKw cpos (keywordEach [] X.env)).all (fun x => x.1.isSome)
      && decide ([e].length + ([] : List Keyword).length + (if ([] : List Keyword).isEmpty then 0 else 1) < 30)) = true := by rfl)
    (hline : (apos.endLine == cpos.line) = true := by rfl) (hs : starEach [e] X.env = (false, eval e X.env) :: starEach [] X.env := by rfl) (hplain : (backTo cpos (starEach [] X.env)).any (·.1) = false := by rfl) :
    PE X (.Call (.Attribute o "append" apos) [e] [] cpos) (tE X.K Γ fp Wx (.app so se)) :=
  PE.imp (pe_bm PySem.F.plainAttrs_list PySem.F.slot_list_append PySem.F.type_list_append mt_append ho (pa_cons he pa_nil hs) hbase hfew hline hs hplain) fun σ H Q ⟨L, w, ex, k, S, ec, h, ep⟩ => one S ec h fun v w1 x L1 H1 hk S1 n1 r1 _ => by
    obtain ⟨xs0, e0, hk⟩ := lstP_some hk
    refine ⟨ty_list (VR.rd S1 r1 e0), one S1 (ec.nx n1) hk fun u w2 y L2 H2 hk2 S2 n2 r2 f2 => ?_⟩
    obtain ⟨q, w3, L3, hk3, S3, n3, dq, _⟩ := dat_end S1 S2 n2 r2 f2 hk2
    obtain ⟨c, hg, hk4⟩ := getCP_some hk3
    obtain ⟨b, rfl, rc, hb, fin⟩ := S3.put (r1.next S1 n3) hg
    cases c with
    | m kvs => exact False.elim hk4
    | l xs =>
      cases rc with
      | l hH r =>
        refine ⟨b, _, y, rfl, rfl, hH, by rw [r.length]; exact hk4.1, ?_⟩
        have dn : CR X.K (upd H2 b (.lst _)) (FA fp L3 w3 σ) b (.l (xs ++ [q])) := .l upd_same (putStep (.l hH r) (.inr hb) (r.append (.cons dq .nil)))
        obtain ⟨S4, n4, _⟩ := fin (.l (xs ++ [q])) _ dn
        exact ep.fd hk4.2 S4 (n1.trans (n3.trans n4)) .non
theorem r_pop {o : Expr} {so : SE} {apos cpos : Pos} (ho : PE X o (tE X.K Γ fp Wx so))
    (hbase : attributeBase o "pop" X.env (eval o X.env) = eval o X.env := by rfl) (hline : (apos.endLine == cpos.line) = true := by rfl) : PE X (.Call (.Attribute o "pop" apos) [] [] cpos) (tE X.K Γ fp Wx (.pop so)) :=
  PE.imp (pe_bm0 PySem.F.plainAttrs_list PySem.F.slot_list_pop PySem.F.type_list_pop mt_pop ho hbase hline) fun σ H Q ⟨L, w, ex, k, S, ec, h, ep⟩ => one S ec h fun v w1 x L1 H1 hk S1 n1 r1 _ => by
    obtain ⟨xs0, e0, hk⟩ := lstP_some hk
    refine ⟨ty_list (VR.rd S1 r1 e0), ?_⟩
    obtain ⟨c, hg, hk4⟩ := getCP_some hk
    obtain ⟨b, rfl, rc, hb, fin⟩ := S1.put r1 hg
    cases c with
    | m kvs => exact False.elim hk4
    | l xs =>
      cases rc with
      | l hH r =>
        simp only at hk4
        cases e1 : xs[xs.length - 1]? with
        | none => rw [e1] at hk4; exact hk4.elim
        | some d =>
          rw [e1] at hk4
          obtain ⟨y, hy, ry⟩ := r.get e1
          refine ⟨b, _, y, rfl, rfl, hH, by rw [r.length]; exact hy, ?_⟩
          have dn : CR X.K (upd H1 b (.lst _)) (FA fp L1 w1 σ) b (.l xs.dropLast) := .l upd_same (putStep (.l hH r) (.inr hb) r.dropLast)
          obtain ⟨S4, n4, hF⟩ := fin (.l xs.dropLast) _ dn
          refine ep.fd hk4 S4 (n1.trans n4) ?_
          exact DR.weak (DR.step (M := fun z => z = b) (F' := FA fp L1 w1 σ) (Stay.put rfl) (fun z e => by rw [e]; exact .inl ⟨_, hH⟩) (fun z e => by rw [e]; exact .inr hb) (fun z hz => .inl hz) ry) hF
theorem extend_list_tuple (l : Addr) (items : Array Value) (n : Nat) (b : Addr) (items2 : Array Value) (n2 : Nat) (dd : Option Addr) (sl : Array (Option Value)) (hs0 : ¬(!items.isEmpty && Builtin.List.listTooLong (items.size + items2.size)) = true) (hs1 : items.size ≤ sizeLine) (hs2 : items.size + items2.size ≤ sizeLine + 1) :
    Meets (Builtin.«list.extend» ⟨[.ref l, .ref b], []⟩) (fun _ R s => s.heap.get? l = some { cls := .type "list", dict := none, data := .seq items n, slots := #[] } ∧ s.heap.get? b = some { cls := .type "tuple", dict := dd, data := .seq items2 n2, slots := sl } ∧ R (.ok (.ret Value.none)) { s with heap := s.heap.update l (Obj.mapSeq fun x => x ++ items2), toks := s.toks }) :=
  .of_wp fun prog w A R s h => by
    obtain ⟨hp, g, d, tk, os⟩ := s; obtain ⟨hl, hb, h⟩ := h; have f1 := AutoSeq1.idx_int; have f2 := AutoSeq1.sub_tuple_tuple; have f3 := AutoSeq1.sub_list_list; have f4 := AutoSeq1.sub_tuple_list; have f5 := AutoSeq1.sub_list_tuple
    have hz' : (items ++ items2).size ≤ sizeLine + 1 := by rw [Array.size_append]; exact hs2
    wp_walk using (wpAny_updateSeq hl rfl (hz := hs1) (_hz' := hz')), AutoSeq1.wpAny_loadPart' hl, AutoSeq1.wpAny_loadPart' hb
    exact ⟨_, rfl, h⟩
def rExtendB (K : PySem.W.Frag) : V → List V → Hp → VK → Prop := fun x vs H Q => rExtend x vs H Q ∨ ∃ l b xs zs, x = V.ref l ∧ vs = [V.ref b] ∧ H l = some (.lst xs) ∧ SqT K H b zs ∧ xs.length + zs.length ≤ sizeLine ∧ Q .non (upd H l (.lst (xs ++ zs)))
theorem mt_extendB : MtM X "list.extend" (rExtendB X.K) := by
  intro pins s σ H x vs v us Q I rx rv h
  rcases h with h | h
  · exact mt_extend pins s σ H x vs v us Q I rx rv h
  obtain ⟨l, b, xs, zs, rfl, rfl, hH, hB, hz, q⟩ := h
  cases rx
  obtain ⟨u, rfl, ru⟩ := rv.one
  cases ru
  obtain ⟨z, its, n, r, hl, e⟩ := I.lstM hH
  obtain ⟨its2, r2, ⟨o2, e2, c2, n2, d2⟩, hz2⟩ := I.tuple hB
  obtain ⟨c1, dd, data, sl⟩ := o2
  simp only at c2 d2
  subst c2 d2
  have hl2 := r2.length
  have hsz : its.toArray.size + its2.toArray.size ≤ sizeLine := by rw [List.size_toArray, List.size_toArray]; omega
  have hlong : ¬ (!its.toArray.isEmpty && Builtin.List.listTooLong (its.toArray.size + its2.toArray.size)) = true := by
    rw [notLongL hsz, Bool.and_false]
    exact Bool.false_ne_true
  refine call_meets F.slot_list_extend ⟨_, e, rfl⟩ F.entry_list_extend (F.args_list_extend_2 _ _)
    (extend_list_tuple l its.toArray n b its2.toArray n2 dd sl hlong (by rw [List.size_toArray]; omega) (by omega)) ⟨e, e2, ?_⟩
  refine ⟨.non, _, I.lset (its' := its ++ its2) hH e (by simp) (r.append r2) ?_, rfl, q⟩
  rw [List.length_append]
  omega
theorem r_ext {o e : Expr} {so se : SE} {apos cpos : Pos} (ho : PE X o (tE X.K Γ fp Wx so)) (he : PE X e (tE X.K Γ fp Wx se))
    (hbase : attributeBase o "extend" X.env (eval o X.env) = eval o X.env := by rfl)
    (hfew : ((backTo cpos (starEach [e] X.env)).all (fun x => !x.1) && (backToKw cpos (keywordEach [] X.env)).all (fun x => x.1.isSome)
      && decide ([e].length + ([] : List Keyword).length + (if ([] : List Keyword).isEmpty then 0 else 1) < 30)) = true := by rfl)
    (hline : (apos.endLine == cpos.line) = true := by rfl) (hs : starEach [e] X.env = (false, eval e X.env) :: starEach [] X.env := by rfl) (hplain : (backTo cpos (starEach [] X.env)).any (·.1) = false := by rfl) :
    PE X (.Call (.Attribute o "extend" apos) [e] [] cpos) (tE X.K Γ fp Wx (.ext so se)) :=
  PE.imp (pe_bm PySem.F.plainAttrs_list PySem.F.slot_list_extend PySem.F.type_list_extend mt_extendB ho (pa_cons he pa_nil hs) hbase hfew hline hs hplain) fun σ H Q ⟨L, w, ex, k, S, ec, h, ep⟩ => one S ec h fun v w1 x L1 H1 hk S1 n1 r1 _ => by
    obtain ⟨xs0, e0, hk⟩ := lstP_some hk
    refine ⟨ty_list (VR.rd S1 r1 e0), one S1 (ec.nx n1) hk fun u w2 y L2 H2 hk2 S2 n2 r2 f2 => ?_⟩
    obtain ⟨q, e2, hk3⟩ := rdP_some hk2
    obtain ⟨c, hg, hk4⟩ := getCP_some hk3
    have t2 := VR.rd S2 r2 e2
    obtain ⟨b, rfl, rc, hb, fin⟩ := S2.put (r1.next S1 n2) hg
    cases c with
    | m kvs => exact False.elim hk4
    | l xs =>
      cases rc with
      | l hH r =>
        cases q <;> first
          | exact False.elim hk4
          | (obtain ⟨b2, vs2, rfl, h2, rr2⟩ := t2.lst
             refine .inl ⟨b, b2, _, vs2, rfl, rfl, hH, h2, by rw [r.length, rr2.length]; exact hk4.1, ?_⟩
             have dn : CR X.K (upd H2 b (.lst _)) (FA fp L2 w2 σ) b (.l (xs ++ _)) := .l upd_same (putStep (.l hH r) (.inr hb) (r.append rr2))
             obtain ⟨S4, n4, _⟩ := fin _ _ dn
             exact ep.fd hk4.2 S4 (n1.trans (n2.trans n4)) .non)
          | (obtain ⟨b2, vs2, rfl, h2, rr2⟩ := t2.tup
             refine .inr ⟨b, b2, _, vs2, rfl, rfl, hH, h2, by rw [r.length, rr2.length]; exact hk4.1, ?_⟩
             have dn : CR X.K (upd H2 b (.lst _)) (FA fp L2 w2 σ) b (.l (xs ++ _)) := .l upd_same (putStep (.l hH r) (.inr hb) (r.append rr2))
             obtain ⟨S4, n4, _⟩ := fin _ _ dn
             exact ep.fd hk4.2 S4 (n1.trans (n2.trans n4)) .non)
theorem join_len (a : Str) : ∀ ys : List Str, (Str.join a ys).length ≤ (ys.map (·.length)).sum + ys.length * a.length
  | [] => Nat.zero_le _
  | [x] => by
    show x.length ≤ [x.length].sum + 1 * a.length
    simp
  | x :: y :: r => by
    have ih := join_len a (y :: r)
    show (x ++ a ++ Str.join a (y :: r)).length ≤ _
    rw [strLen, strLen, List.map_cons, List.sum_cons, List.length_cons]
    have : (r.length + 1 + 1) * a.length = a.length + (r.length + 1) * a.length := by rw [Nat.add_mul (r.length + 1) 1, Nat.one_mul, Nat.add_comm]
    rw [List.length_cons] at ih ⊢
    omega
theorem r_join {o e : Expr} {so se : SE} {apos pos : Pos} (ho : PE X o (tE X.K Γ fp Wx so)) (he : PE X e (tE X.K Γ fp Wx se)) (hs : starEach [e] X.env = [(false, eval e X.env)] := by rfl) (hbase : attributeBase o "join" X.env (eval o X.env) = eval o X.env := by rfl) (hline : (apos.endLine == pos.line) = true := by rfl) :
    PE X (.Call (.Attribute o "join" apos) [e] [] pos) (tE X.K Γ fp Wx (.join so se)) :=
  PE.imp (pe_join ho he hs hbase hline) fun σ H Q ⟨L, w, ex, k, S, ec, h, ep⟩ => one S ec h fun v w1 x L1 H1 hk S1 n1 r1 _ => by
    obtain ⟨p, e1, hk⟩ := rdP_some hk
    obtain ⟨a, e2, hk⟩ := strP_some hk
    subst e2
    obtain ⟨rfl, hz⟩ := (VR.rd S1 r1 e1).str
    refine ⟨⟨a, rfl⟩, one S1 (ec.nx n1) hk fun u w2 y L2 H2 hk2 S2 n2 r2 _ => ?_⟩
    obtain ⟨q, e3, hk2⟩ := rdP_some hk2
    obtain ⟨ys, e4, hk3⟩ := optP_some hk2
    obtain ⟨zs, e5, hk4⟩ := optP_some hk3
    have e5 := strsD_some e5
    subst e5
    have t := VR.rd S2 r2 e3
    have fin : Q (.str (Txt.join a zs)) H2 := ep.fd hk4.2 S2 (n1.trans n2) (.str _ (by show (Builtin.Str.glued a zs).length ≤ _; rw [PySem.StrLaws.glued_eq_join]; exact Nat.le_trans (join_len a zs) (by have := hk4.1; rw [sizeLine_eq]; exact this)))
    cases q <;> first
      | (cases e4; done)
      | (cases e4
         obtain ⟨b, vs, rfl, h2, rr⟩ := t.lst
         have e6 := DRs.strs rr
         subst e6
         exact ⟨a, b, zs, rfl, rfl, .inl (SqL.of h2), hk4.1, fin⟩)
      | (cases e4
         obtain ⟨b, vs, rfl, h2, rr⟩ := t.tup
         have e6 := DRs.strs rr
         subst e6
         exact ⟨a, b, zs, rfl, rfl, .inr h2, hk4.1, fin⟩)
theorem r_upper {o : Expr} {so : SE} {apos pos : Pos} (ho : PE X o (tE X.K Γ fp Wx so)) (hbase : attributeBase o "upper" X.env (eval o X.env) = eval o X.env := by rfl) (hline : (apos.endLine == pos.line) = true := by rfl) :
    PE X (.Call (.Attribute o "upper" apos) [] [] pos) (tE X.K Γ fp Wx (.upper so)) :=
  PE.imp (pe_upper ho hbase hline) fun σ H Q ⟨L, w, ex, k, S, ec, h, ep⟩ => one S ec h fun v w1 x L1 H1 hk S1 n1 r1 _ => by
    obtain ⟨p, e1, hk⟩ := rdP_some hk
    obtain ⟨a, e2, hk⟩ := strP_some hk
    subst e2
    obtain ⟨rfl, hz⟩ := (VR.rd S1 r1 e1).str
    refine ⟨⟨a, rfl⟩, a, rfl, rfl, hk.1, ep.fd hk.2 S1 n1 (.str _ ?_)⟩
    have h1 := hk.1
    have h2 := PyProof.Rows.len_upper a
    rw [sizeLine_eq]
    omega
end
end Lb
set_option maxHeartbeats 1000000
/-! ## Lb10 -/
/-! Lb10: backward slices of texts and lists. -/
namespace Lb
open PySem PySem.Spec L2
theorem filterMap_rev {α : Type} (xs : Array α) : ((List.range xs.size).map fun k => xs.size - 1 - k).filterMap (xs[·]?) = xs.toList.reverse := by
  rw [PySem.W.krv_range, List.filterMap_reverse, PySem.W.krv_all]
section
open HT PyProof.Rows
variable {prog : Program} {w : World} {A : Around} {E : Value → Shared → Prop} {s : Shared}
theorem sliceApplied_rev {sl : Addr} {vl vu vs : Value} {n : Nat} {Q : Int × Int × Nat → Shared → Prop} (hs : s.heap.IsSliceOf sl vl vu vs) (pl : IsPart vl none) (pu : IsPart vu none) (ps : IsPart vs (some (-1)))
    (h : Q ((n : Int) - 1, -1, n) s) : wpAny (model prog w) A (Builtin.Slice.sliceApplied (.ref sl) (pure (n : Int))) Q E s := by
  obtain ⟨os, hos, hcs, hds⟩ := id hs
  unfold Builtin.Slice.sliceApplied Builtin.Slice.sliceFields
  refine wpAny_bind (wpAny_bind (wpAny_field hos hds (x := vl) rfl (wpAny_bind (wpAny_field hos hds (x := vu) rfl (wpAny_bind (wpAny_field hos hds (x := vs) rfl (wpAny_pure ?_)))))))
  refine wpAny_bind (slicePart_ ps ?_)
  show wpAny _ _ (if ((-1 : Int) == 0) = true then _ else _) _ _ s
  rw [if_neg (by decide)]
  refine wpAny_bind (slicePart_ pl (wpAny_bind (slicePart_ pu (wpAny_bind (wpAny_pure ?_)))))
  show wpAny _ _ (pure ((n : Int) - 1, (-1 : Int), Builtin.Slice.slicePlaces ((n : Int) - 1) (-1) (-1))) _ _ s
  have e : Builtin.Slice.slicePlaces ((n : Int) - 1) (-1) (-1) = n := by
    unfold Builtin.Slice.slicePlaces
    rw [if_neg (by decide)]
    by_cases q : (n : Int) - 1 > -1
    · rw [if_pos q, show (-(-1) : Int) = 1 from rfl, Int.ediv_one]
      omega
    · rw [if_neg q]
      omega
  rw [e]
  exact wpAny_pure h
theorem pick_rev (xs : Array Value) : ((List.range xs.size).filterMap fun (m : Nat) => xs[((xs.size : Int) - 1 + (m : Int) * -1).toNat]?).toArray = xs.toList.reverse.toArray := by
  rw [← filterMap_rev, List.filterMap_map]
  congr 2
  funext m
  show _ = xs[xs.size - 1 - m]?
  have : ((xs.size : Int) - 1 + (m : Int) * -1).toNat = xs.size - 1 - m := by omega
  rw [this]
theorem getItem_tuple_rev {t sl : Addr} {items : Array Value} {vl vu vs : Value} {Q : Value → Shared → Prop} (ht : IsTup s.heap t items) (hs : s.heap.IsSliceOf sl vl vu vs) (pl : IsPart vl none) (pu : IsPart vu none) (ps : IsPart vs (some (-1)))
    (h : Q (.ref s.heap.objs.size) { s with heap := s.heap.push { cls := .type "tuple", data := .seq items.toList.reverse.toArray } })
    (hsz : items.size ≤ sizeLine) : wpAny (model prog w) A (getItem (.ref t) (.ref sl)) Q E s := by
  have htake : sizeOk (.seq items.toList.reverse.toArray) := by
    show items.toList.reverse.toArray.size ≤ sizeLine
    rw [List.size_toArray, List.length_reverse, Array.length_toList]
    omega
  obtain ⟨os, hos, hcs, hds⟩ := id hs
  have hTs : s.TypeIs (.ref sl) "slice" := ⟨os, hos, hcs⟩
  unfold getItem
  try with_reducible refine wpAny_holding ?_
  first | refine wpAny_bind (wpAny_pure ?_) | skip
  refine wpAny_bind (wpAny_sequenceKey ht.typeIs (by decide) ?_)
  refine wpAny_bind (wpAny_callSpecial?_slot (name := Str.ofString "__getitem__") ht.typeIs PyProof.Rows.slot_tuple_getitem
    (wpAny_call_entry PyProof.Rows.slot_tuple_getitem ht.typeIs entry_tuple_getitem ?_ (args_tuple_getitem _ _)))
  show wpAny _ _ (Builtin.Tuple.tupleItemsOf (.ref t) >>= _) _ _ s
  refine wpAny_bind (tupleItemsOf_ ht ?_)
  refine wpAny_bind (wpAny_typeOf hTs ?_)
  rw [if_pos (by decide)]
  refine wpAny_bind (sliceApplied_rev hs pl pu ps ?_)
  have hno : ¬ (((((items.size : Nat) : Int) - 1) == 0 && (-1 : Int) == 1 && items.size == items.size) = true) := by
    intro q
    rw [Bool.and_eq_true, Bool.and_eq_true] at q
    exact absurd q.1.2 (by decide)
  show wpAny _ _ (if ((((items.size : Nat) : Int) - 1) == 0 && (-1 : Int) == 1 && items.size == items.size) = true then _ else _) _ _ s
  rw [if_neg hno, pick_rev]
  first
    | exact wpAny_bind (m := Builtin.Tuple.tupleExact _) (wpAny_newObj_type (wpAny_pure ⟨_, rfl, wpAny_pure h⟩) htake)
    | exact wpAny_bind (m := Builtin.Tuple.tupleExact _) (wpAny_newObj_type (wpAny_bind (wpAny_pure (wpAny_pure ⟨_, rfl, wpAny_pure h⟩))) htake)
    | exact wpAny_bind (wpAny_bind (m := Builtin.Tuple.tupleExact _) (wpAny_newObj_type (wpAny_pure (wpAny_pure ⟨_, rfl, wpAny_pure h⟩)) htake))
    | exact wpAny_bind (wpAny_bind (m := Builtin.Tuple.tupleExact _) (wpAny_newObj_type (wpAny_pure ⟨_, rfl, wpAny_pure h⟩) htake))
end
section
variable {X : Cx} {Γ : Sg} {fp : Fp} {Wx : WX}
def tRv (K : PySem.W.Frag) (te : TE) : TE := fun σ H Q => te σ H fun x H1 => (∃ a xs, x = .ref a ∧ SqL K H1 a xs ∧ ∀ p, H1 p = none → Q (.ref p) (upd H1 p (.lst xs.reverse))) ∨
  (∃ z : Str, x = .str z ∧ z.length ≤ sizeLine ∧ Q (.str ⟨z.cps.toList.reverse.toArray⟩) H1) ∨
  (∃ a xs, x = .ref a ∧ SqT K H1 a xs ∧ ∀ p, H1 p = none → Q (.ref p) (upd H1 p (.tup xs.reverse)))
theorem pe_rv {e : Expr} {te : TE} {k : Nat} {p1 p2 p3 pos : Pos} (he : PE X e te) : PE X (.Subscript e (.Slice none none (some (.UnaryOp .USub (.Constant (.int 1) k p1) p2)) p3) pos) (tRv X.K te) := by
  refine ⟨fun pins s σ H Q I h => PyProof.Rows.Subscript_ (thn (he.run pins s σ H _ I h) fun v s1 ⟨x, H1, I1, r1, q1⟩ => ?_)⟩
  have hst : PO X (some (.UnaryOp .USub (.Constant (.int 1) k p1) p2)) (tPart (tUn (rU fun i => .int (-i)) (tC (.int 1)))) :=
    po_some (pe_un un_neg pe_int)
  refine wpAny_Slice (thn (po_none.run pins s1 σ H1 (fun o H2 => o = none ∧ H2 = H1) I1 ⟨rfl, rfl⟩)
    fun vl s2 ⟨l, H2, I2, pl, el, e2⟩ => ?_)
  subst el e2
  refine thn (po_none.run pins s2 σ H2 (fun o H3 => o = none ∧ H3 = H2) I2 ⟨rfl, rfl⟩)
    fun vu s3 ⟨u, H3, I3, pu, eu, e3⟩ => ?_
  subst eu e3
  refine thn (hst.run pins s3 σ H3 (fun o H4 => o = some (-1) ∧ H4 = H3) I3 ⟨1, rfl, -1, rfl, rfl, rfl⟩)
    fun vs s4 ⟨o, H4, I4, ps, eo, e4⟩ => ?_
  subst eo e4
  have I5 : Inv X pins σ H4 { s4 with heap := s4.heap.push { cls := .type "slice", data := .fields #[vl, vu, vs] } } :=
    I4.kept (t' := s4.toks) fun b ob q => Heap.get?_push_of_some _ q
  rcases q1 with ⟨a, xs, ex, hx, q⟩ | ⟨z, ex, hz, q⟩ | ⟨a, xs, ex, hx, q⟩
  · subst ex
    cases r1
    obtain ⟨its, r, ht, hsz⟩ := I5.list hx
    have hlen := r.length
    refine PyProof.Rows.tail_any (ops := [.ref a, .ref s4.heap.objs.size]) ht.isList.typeIs (PySem.slot_list_getitem.lookup)
      ?_ (by with_unfolding_all rfl)
    refine wpAny_getItem_list_slice ht.isList (Heap.IsSliceOf.new _ vl vu vs) pl pu ps (by decide)
      ?_ (by rw [List.size_toArray]; omega)
    rw [PySem.W.krv_pick]
    refine ⟨.ref _, _, I5.laid (t' := s4.toks) (o := .lst xs.reverse) (fun b ob q => Heap.get?_push_of_some _ q) (Nat.le_refl _)
      ?_, rfl, q _ (I5.hok.fresh (Nat.le_refl _))⟩
    exact ⟨by rw [List.length_reverse]; exact hsz, _, 0, r.reverse, Heap.get?_push_size _ rfl⟩
  · subst ex
    obtain ⟨t, rfl⟩ := r1
    cases pl
    cases pu
    cases ps with
    | int i tk =>
      refine PyProof.Rows.tail_any (ops := [.str z t, .ref s4.heap.objs.size]) (typeIs_str _ z t) PyProof.Rows.slot_str_getitem.lookup
        ?_ (by with_unfolding_all rfl)
      refine wpAny_getItem_str_slice (l := none) (u := none) (st := some (-1, tk)) ⟨_, Heap.get?_push_size _ rfl, rfl, rfl⟩ rfl
        ?_
      have e : sliceMade z t none none (some (-1, tk)) = .str ⟨z.cps.toList.reverse.toArray⟩ := by
        unfold sliceMade slicePicked
        rw [if_neg (by simp)]
        congr 2
        have e1 : Builtin.Str.strSliceIndices none none (-1) z.length = (List.range z.cps.size).map fun k => z.cps.size - 1 - k := by
          rw [← PySem.W.krv_sliceRange]
          rfl
        show ((Builtin.Str.strSliceIndices none none (-1) z.length).filterMap (z.cps[·]?)).toArray = _
        rw [e1, filterMap_rev]
      rw [e]
      refine ⟨?_, ⟨.str _, H4, (I5.tok _), ⟨_, rfl⟩, q⟩⟩
      show (List.toArray _).size ≤ _
      rw [List.size_toArray, List.length_reverse, Array.length_toList]
      exact hz
  · subst ex
    cases r1
    obtain ⟨its, r, ht, hsz⟩ := I5.tuple hx
    have hlen := r.length
    refine PyProof.Rows.tail_any (ops := [.ref a, .ref s4.heap.objs.size]) ht.typeIs (PyProof.Rows.slot_tuple_getitem.lookup)
      ?_ (by with_unfolding_all rfl)
    refine getItem_tuple_rev ht (Heap.IsSliceOf.new _ vl vu vs) pl pu ps
      ?_ (by rw [List.size_toArray]; omega)
    refine ⟨.ref _, _, I5.laid (t' := s4.toks) (o := .tup xs.reverse) (fun b ob q => Heap.get?_push_of_some _ q) (Nat.le_refl _)
      ?_, rfl, q _ (I5.hok.fresh (Nat.le_refl _))⟩
    exact ⟨by rw [List.length_reverse]; exact hsz, _, r.reverse, PyProof.Rows.IsTup.new _ _⟩
theorem r_rv {e : Expr} {se : SE} {k : Nat} {p1 p2 p3 pos : Pos} (he : PE X e (tE X.K Γ fp Wx se)) : PE X (.Subscript e (.Slice none none (some (.UnaryOp .USub (.Constant (.int 1) k p1) p2)) p3) pos) (tE X.K Γ fp Wx (.rv se)) :=
  PE.imp (pe_rv he) fun σ H Q ⟨L, w, ex, k, S, ec, h, ep⟩ => one S ec h fun v w1 x L1 H1 hk S1 n1 r1 _ => by
    obtain ⟨p, e1, hk⟩ := rdP_some hk
    have t := VR.rd S1 r1 e1
    cases p <;> first
      | exact False.elim hk
      | (obtain ⟨b, vs, rfl, hs, r⟩ := t.lst
         exact .inl ⟨b, vs, rfl, SqL.of hs, fun p hp => ep.fl S hk S1 n1 r.reverse hp⟩)
      | (obtain ⟨rfl, hz⟩ := t.str
         refine .inr (.inl ⟨_, rfl, hz, ep.fd hk S1 n1 (.str _ ?_)⟩)
         show (List.toArray _).size ≤ _
         rw [List.size_toArray, List.length_reverse, Array.length_toList]
         exact hz)
      | (obtain ⟨b, vs, rfl, hs, r⟩ := t.tup
         exact .inr (.inr ⟨b, vs, rfl, hs, fun p hp => ep.ft hk S1 n1 r.reverse hp⟩))
end
end Lb
set_option maxHeartbeats 1000000
/-! ## Lb11 -/
/-! Lb11: from statement to statement; targets; what is walked. -/
namespace Lb
open PySem PySem.Spec L2

section
variable {K : PySem.W.Frag} {fp : Fp} {L L' L1 : Addr → Prop} {w w' w1 : W} {σ σ' σ1 : L2.St} {H H' H1 : Hp}
theorem NxS.fa (n : NxS fp w σ H w' σ' H') (hL : ∀ b, L' b → L b ∨ H b = none) : ∀ b, FA fp L' w' σ' b → FA fp L w σ b ∨ H b = none := fun b z => z.elim (fun q => (hL b q).imp .inl id) fun q => (n.ma b q).imp .inr id
theorem DR.nextS (S : SR K fp L w σ H) (n : NxS fp w σ H w' σ' H') {v : V} {d : D} (r : DR K H (FA fp L w σ) v d) : DR K H' (FA fp L w' σ') v d := r.step n.st S.mut (fun _ z => .inr z) (n.fa fun _ z => .inl z)
theorem DRs.nextS (S : SR K fp L w σ H) (n : NxS fp w σ H w' σ' H') {v : List V} {d : List D} (r : DRs K H (FA fp L w σ) v d) : DRs K H' (FA fp L w' σ') v d := r.step n.st S.mut (fun _ z => .inr z) (n.fa fun _ z => .inl z)
theorem DR.nextM (S : SR K fp L w σ H) (n : NxS fp w σ H w' σ' H') {v : V} {d : D} (r : DR K H (FA fp L w σ) v d) (hM : ∀ b, L' b → L b ∨ H b = none) : DR K H' (FA fp L' w' σ') v d := r.step n.st S.mut (fun _ z => .inr z) (n.fa hM)
/-- a slot is stored: from point to point -/
theorem NxS.store {i : Nat} {sl : Sl} {x : Option V} (hno : ∀ c, sl ≠ .o c) : NxS fp w σ H (w.setR i sl) (σ.set i x) H :=
  ⟨Stay.refl, fun b z => z.elim (fun q => by
    obtain ⟨j, c, _, h1, h2⟩ := own_set hno q
    exact .inl (.inl ⟨j, c, h1, h2⟩)) fun q => .inl (.inr q), fun _ z => z⟩
end

section
variable {X : Cx} {Γ : Sg} {fp : Fp} {Wx : WX}
/-! ### targets -/
mutual
def tgL : Tg → List Nat
  | .v i => [i]
  | .t ts => tgsL ts
def tgsL : Tgs → List Nat
  | .nil => []
  | .cons t r => tgL t ++ tgsL r
end
/-- the slots but those are as they were -/
def Off (vs : List Nat) (σ σ' : L2.St) : Prop := σ'.length = σ.length ∧ ∀ i, i ∉ vs → σ'[i]? = σ[i]?
def tG (K : PySem.W.Frag) (fp : Fp) (tg : Tg) : TG := fun v σ H Q => ∃ (L : Addr → Prop) (w : W) (d : D) (k : W → Prop), SR K fp L w σ H ∧ DR K H (FA fp L w σ) v d ∧ tgP tg d w k ∧
  ∀ (w' : W) (σ' : L2.St), k w' → SR K fp L w' σ' H → NxS fp w σ H w' σ' H → Off (tgL tg) σ σ' → Q σ' H
def tGs (K : PySem.W.Frag) (fp : Fp) (ts : Tgs) : TGs := fun vs σ H Q => ∃ (L : Addr → Prop) (w : W) (ds : List D) (k : W → Prop), SR K fp L w σ H ∧ DRs K H (FA fp L w σ) vs ds ∧ tgsP ts ds w k ∧
  ∀ (w' : W) (σ' : L2.St), k w' → SR K fp L w' σ' H → NxS fp w σ H w' σ' H → Off (tgsL ts) σ σ' → Q σ' H
theorem PG.imp {X : Cx} {e : Expr} {t t' : TG} (h : PG X e t) (q : ∀ v σ H Q, t' v σ H Q → t v σ H Q) : PG X e t' := ⟨fun pins s σ H v u Q I r z => h.run pins s σ H v u Q I r (q v σ H Q z)⟩
theorem PGs.imp {X : Cx} {e : List Expr} {t t' : TGs} (h : PGs X e t) (q : ∀ v σ H Q, t' v σ H Q → t v σ H Q) : PGs X e t' := ⟨fun pins s σ H v u Q I r z => h.run pins s σ H v u Q I r (q v σ H Q z)⟩
theorem g_v {i : Nat} {x : Str} {pos : Pos} (hN : X.N.Nodup) (hi : X.N[i]? = some x) (hx : Loc X.env.scope x) (hf : X.fn x = true ∨ X.env.scope.names.lookup x = some .local := by first | exact .inl rfl | exact .inr rfl | assumption) : PG X (.Name x pos) (tG X.K fp (.v i)) :=
  PG.imp (pg_name hN hi hx hf) fun v σ H Q ⟨L, w, d, k, S, r, h, fin⟩ => by
    have n : NxS fp w σ H (w.setR i (.d d)) (σ.set i (some v)) H := NxS.store fun _ z => by cases z
    exact fin _ _ h (S.store (fun _ z => by cases z) ⟨v, rfl, r.nextS S n⟩) n ⟨List.length_set, fun j hj => List.getElem?_set_ne fun e => hj (by rw [e]; exact List.mem_singleton.mpr rfl)⟩
theorem g_nil : PGs X [] (tGs X.K fp .nil) := PGs.imp pgs_nil fun v σ H Q ⟨L, w, ds, k, S, r, h, fin⟩ => by
  obtain ⟨rfl, hk⟩ := h
  cases r
  exact ⟨rfl, fin w σ hk S NxS.refl ⟨rfl, fun _ _ => rfl⟩⟩
theorem g_cons {e : Expr} {es : List Expr} {t : Tg} {ts : Tgs} (h1 : PG X e (tG X.K fp t)) (h2 : PGs X es (tGs X.K fp ts)) (hs : (assignEach (e :: es) X.env).map (·.2) = assign e X.env :: (assignEach es X.env).map (·.2) := by rfl) : PGs X (e :: es) (tGs X.K fp (.cons t ts)) :=
  PGs.imp (pgs_cons h1 h2 hs) fun v σ H Q ⟨L, w, ds, k, S, r, h, fin⟩ => by
    cases r with
    | nil => exact False.elim h
    | cons r rs =>
      exact ⟨_, _, rfl, L, w, _, _, S, r, h, fun w' σ' hk S' n' o' => ⟨L, w', _, k, S', rs.nextS S n', hk, fun w2 σ2 hk2 S2 n2 o2 => fin w2 σ2 hk2 S2 (n'.trans n2) ⟨o2.1.trans o'.1, fun i hi => (o2.2 i fun z => hi (List.mem_append_right _ z)).trans (o'.2 i fun z => hi (List.mem_append_left _ z))⟩⟩⟩
def tgN : Tgs → Nat
  | .nil => 0
  | .cons _ r => tgN r + 1
mutual
theorem tgP_ex : ∀ (t : Tg) (d : D) (w : W) (k : W → Prop), tgP t d w k → ∃ w', k w'
  | .v i, d, w, k, h => ⟨_, h⟩
  | .t ts, .tuple xs, w, k, h => tgsP_ex ts xs w k h
  | .t ts, .none, w, k, h => False.elim h
  | .t ts, .bool _, w, k, h => False.elim h
  | .t ts, .int _, w, k, h => False.elim h
  | .t ts, .str _, w, k, h => False.elim h
  | .t ts, .list _, w, k, h => False.elim h
  | .t ts, .dict _, w, k, h => False.elim h
theorem tgsP_ex : ∀ (ts : Tgs) (ds : List D) (w : W) (k : W → Prop), tgsP ts ds w k → ∃ w', k w'
  | .nil, ds, w, k, h => ⟨w, h.2⟩
  | .cons t ts, [], w, k, h => False.elim h
  | .cons t ts, d :: ds, w, k, h => by
    obtain ⟨w', h⟩ := tgP_ex t d w _ h
    exact tgsP_ex ts ds w' k h
end
theorem tgs_len : ∀ (ts : Tgs) (ds : List D) (w : W) (k : W → Prop), tgsP ts ds w k → ds.length = tgN ts
  | .nil, ds, w, k, h => by obtain ⟨rfl, _⟩ := h; rfl
  | .cons t ts, [], w, k, h => False.elim h
  | .cons t ts, d :: ds, w, k, h => by
    obtain ⟨w', h⟩ := tgP_ex t d w _ h
    exact congrArg (· + 1) (tgs_len ts ds w' k h)
theorem g_tup {es : List Expr} {k : Nat} {pos : Pos} {ts : Tgs} (hc : X.calm = true) (h : PGs X es (tGs X.K fp ts)) (hn : (assignEach es X.env).length = tgN ts := by rfl) (hst : (assignEach es X.env).findIdx? (·.1) = none := by rfl) : PG X (.Tuple es k pos) (tG X.K fp (.t ts)) :=
  PG.imp (pg_tup hc h hn hst) fun v σ H Q ⟨L, w, d, k, S, r, h, fin⟩ => by
    cases d <;> first
      | exact False.elim h
      | (cases r with
         | tup hs rs => exact ⟨_, _, rfl, hs, by rw [rs.length]; exact tgs_len ts _ w k h, L, w, _, k, S, rs, h, fin⟩)

/-! ### what is walked -/
/-- an iterator that gives ds, from the point (w1, σ1, H1) on -/
structure ItOk (K : PySem.W.Frag) (fp : Fp) (L : Addr → Prop) (w1 : W) (σ1 : L2.St) (H1 : Hp) (v : Vl) (ds : List D) (J : It) : Prop where
  go : ∀ (M : Addr → Prop) (i : Nat) (w : W) (σ : L2.St) (H : Hp), (∀ b, M b → L b ∨ H1 b = none) → i < ds.length → SR K fp M w σ H → NxS fp w1 σ1 H1 w σ H → sameAs v ds w → J.go i H ∧ ∀ (x : V) (H' : Hp), J.yld i H x H' →
    ∃ d, ds[i]? = some d ∧ SR K fp M w σ H' ∧ NxS fp w σ H w σ H' ∧ DR K H' (FA fp M w σ) x d
  stop : ∀ (M : Addr → Prop) (i : Nat) (w : W) (σ : L2.St) (H : Hp), (∀ b, M b → L b ∨ H1 b = none) → ds.length ≤ i → SR K fp M w σ H → NxS fp w1 σ1 H1 w σ H → sameAs v ds w → J.stop i H
def tI (K : PySem.W.Frag) (Γ : Sg) (fp : Fp) (Wx : WX) (it : SI) : TI := fun σ H R => ∃ (L : Addr → Prop) (w : W) (ex : KX) (k : Vl → List D → W → Prop), SR K fp L w σ H ∧ EC K fp L w σ H Wx ex ∧ evI Γ it w ex k ∧
  ∀ (v : Vl) (ds : List D) (w' : W) (L' : Addr → Prop) (H' : Hp) (J : It), k v ds w' → SR K fp L' w' σ H' → Nx fp σ L w H L' w' H' → ItOk K fp L' w' σ H' v ds J → R J H'
theorem PI.imp {X : Cx} {tg e : Expr} {t t' : TI} (h : PI X tg e t) (q : ∀ σ H R, t' σ H R → t σ H R) : PI X tg e t' := ⟨fun pins s σ H R I z => h.run pins s σ H R I (q σ H R z)⟩
/-- a list or a tuple -/
theorem pi_any {tg l : Expr} {tl : TE} (hl : PE X l tl) : PI X tg l (fun σ H R => tl σ H fun x H1 => (∃ a, x = .ref a ∧ (∃ xs, SqL X.K H1 a xs) ∧ R (Itl X.K a) H1) ∨ ∃ a, x = .ref a ∧ (∃ xs, SqT X.K H1 a xs) ∧ R (Itt X.K a) H1) := by
  refine ⟨fun pins s σ H R I h => thn (hl.run pins s σ H _ I h) fun v s1 ⟨x, H1, I1, r1, q1⟩ => ?_⟩
  rcases q1 with ⟨a, rfl, ⟨xs, hx⟩, q⟩ | ⟨a, rfl, ⟨xs, hx⟩, q⟩
  · cases r1
    obtain ⟨its, rv, p, _⟩ := I1.list hx
    refine wpAny_pyIter_list p.isList
      ⟨s1.heap.objs.size, [s1.heap.objs.size], _, _, H1, rfl, I1.kept (t' := s1.toks) fun b o e => Heap.get?_push_of_some _ e, turn_list a _, ⟨_, Heap.get?_push_size _ rfl, rfl, rfl⟩, fun b hb => ?_, q⟩
    obtain rfl := List.mem_singleton.mp hb
    exact I1.fpOk (Nat.le_refl _) (I1.hok.fresh (Nat.le_refl _))
  · cases r1
    obtain ⟨its, rv, p, _⟩ := I1.tuple hx
    refine wpAny_pyIter_tuple (show s1.heap.IsTuple a its.toArray from p)
      ⟨s1.heap.objs.size, [s1.heap.objs.size], _, _, H1, rfl, I1.kept (t' := s1.toks) fun b o e => Heap.get?_push_of_some _ e, turn_tuple a _, ⟨_, Heap.get?_push_size _ rfl, rfl, rfl⟩, fun b hb => ?_, q⟩
    obtain rfl := List.mem_singleton.mp hb
    exact I1.fpOk (Nat.le_refl _) (I1.hok.fresh (Nat.le_refl _))
theorem mem_len {α : Type} {l : List α} {i : Nat} (h : i < l.length) : ∃ x, l[i]? = some x := ⟨l[i], by simp [h]⟩
/-- the walk over a list that stands where it stood -/
theorem it_list {K : PySem.W.Frag} {L : Addr → Prop} {w1 : W} {σ1 : L2.St} {H1 : Hp} {v : Vl} {ds : List D} {a : Addr}
    (at_ : ∀ (M : Addr → Prop) (w : W) (σ : L2.St) (H : Hp), (∀ b, M b → L b ∨ H1 b = none) → SR K fp M w σ H → NxS fp w1 σ1 H1 w σ H → sameAs v ds w → ∃ vs, SqL K H a vs ∧ DRs K H (FA fp M w σ) vs ds) : ItOk K fp L w1 σ1 H1 v ds (Itl K a) := by
  refine ⟨fun M i w σ H hM hi S n sm => ?_, fun M i w σ H hM hi S n sm => ?_⟩
  · obtain ⟨vs, hs, r⟩ := at_ M w σ H hM S n sm
    obtain ⟨d, hd⟩ := mem_len hi
    obtain ⟨x, hx, rx⟩ := r.get hd
    refine ⟨⟨vs, x, hs, hx⟩, fun y H' ⟨e, h⟩ => ?_⟩
    subst e
    have := h vs hs
    rw [hx] at this; cases this
    exact ⟨d, hd, S, NxS.refl, rx⟩
  · obtain ⟨vs, hs, r⟩ := at_ M w σ H hM S n sm
    exact ⟨vs, hs, by rw [r.length]; exact hi⟩
theorem it_tup {K : PySem.W.Frag} {L : Addr → Prop} {w1 : W} {σ1 : L2.St} {H1 : Hp} {v : Vl} {ds : List D} {a : Addr}
    (at_ : ∀ (M : Addr → Prop) (w : W) (σ : L2.St) (H : Hp), (∀ b, M b → L b ∨ H1 b = none) → SR K fp M w σ H → NxS fp w1 σ1 H1 w σ H → sameAs v ds w → ∃ vs, SqT K H a vs ∧ DRs K H (FA fp M w σ) vs ds) : ItOk K fp L w1 σ1 H1 v ds (Itt K a) := by
  refine ⟨fun M i w σ H hM hi S n sm => ?_, fun M i w σ H hM hi S n sm => ?_⟩
  · obtain ⟨vs, hs, r⟩ := at_ M w σ H hM S n sm
    obtain ⟨d, hd⟩ := mem_len hi
    obtain ⟨x, hx, rx⟩ := r.get hd
    refine ⟨⟨vs, x, hs, hx⟩, fun y H' ⟨e, h⟩ => ?_⟩
    subst e
    have := h vs hs
    rw [hx] at this; cases this
    exact ⟨d, hd, S, NxS.refl, rx⟩
  · obtain ⟨vs, hs, r⟩ := at_ M w σ H hM S n sm
    exact ⟨vs, hs, by rw [r.length]; exact hi⟩
/-- data, a list, from a point on -/
theorem DR.lstAt {K : PySem.W.Frag} {H : Hp} {F : Addr → Prop} {x : V} {ds : List D} (r : DR K H F x (.list ds)) : ∃ a vs, x = .ref a ∧ H a = some (.lst vs) ∧ ¬ F a ∧ DRs K H F vs ds := by
  cases r with
  | lst h n r => exact ⟨_, _, rfl, h, n, r⟩
theorem DR.tupAt {K : PySem.W.Frag} {H : Hp} {F : Addr → Prop} {x : V} {ds : List D} (r : DR K H F x (.tuple ds)) : ∃ a vs, x = .ref a ∧ SqT K H a vs ∧ DRs K H F vs ds := by
  cases r with
  | tup h r => exact ⟨_, _, rfl, h, r⟩
/-- a walked value, at its end: what R is told -/
theorem seq_end {σ : L2.St} {L : Addr → Prop} {w : W} {H : Hp} {L1 : Addr → Prop} {w1 : W} {H1 : Hp} {v : Vl} {x : V} {k : Vl → List D → W → Prop} (S : SR X.K fp L w σ H) (S1 : SR X.K fp L1 w1 σ H1) (n1 : Nx fp σ L w H L1 w1 H1) (r1 : VR X.K fp L1 w1 σ H1 v x) (f1 : NF L v x) (hk : seqP w1 v k) :
    ∃ (v' : Vl) (ds : List D) (w2 : W) (L2 : Addr → Prop), k v' ds w2 ∧ SR X.K fp L2 w2 σ H1 ∧ Nx fp σ L w H L2 w2 H1 ∧
      ((∃ a vs, x = .ref a ∧ SqL X.K H1 a vs ∧ DRs X.K H1 (FA fp L2 w2 σ) vs ds ∧ ∀ (M : Addr → Prop) (w' : W) (σ' : Stt) (H' : Hp), (∀ b, M b → L2 b ∨ H1 b = none) → SR X.K fp M w' σ' H' → NxS fp w2 σ H1 w' σ' H' → sameAs v' ds w' → ∃ vs, SqL X.K H' a vs ∧ DRs X.K H' (FA fp M w' σ') vs ds) ∨
        (∃ a vs, x = .ref a ∧ SqT X.K H1 a vs ∧ DRs X.K H1 (FA fp L2 w2 σ) vs ds ∧ ∀ (M : Addr → Prop) (w' : W) (σ' : Stt) (H' : Hp), (∀ b, M b → L2 b ∨ H1 b = none) → SR X.K fp M w' σ' H' → NxS fp w2 σ H1 w' σ' H' → sameAs v' ds w' → ∃ vs, SqT X.K H' a vs ∧ DRs X.K H' (FA fp M w' σ') vs ds)) := by
  have gen : datP w1 v (fun p w2 => match p with
      | .list xs => k (.d p) xs w2
      | .tuple xs => k (.d p) xs w2
      | _ => False) → _ := fun hk => dat_end S S1 n1 r1 f1 hk
  have rest : (∃ (p : D) (w2 : W) (L2 : Addr → Prop), (match p with
      | .list xs => k (.d p) xs w2
      | .tuple xs => k (.d p) xs w2
      | _ => False) ∧ SR X.K fp L2 w2 σ H1 ∧ Nx fp σ L w H L2 w2 H1 ∧ DR X.K H1 (FA fp L2 w2 σ) x p ∧ (∀ z, L2 z → L1 z)) → ∃ (v' : Vl) (ds : List D) (w2 : W) (L2 : Addr → Prop), k v' ds w2 ∧ SR X.K fp L2 w2 σ H1 ∧ Nx fp σ L w H L2 w2 H1 ∧
      ((∃ a vs, x = .ref a ∧ SqL X.K H1 a vs ∧ DRs X.K H1 (FA fp L2 w2 σ) vs ds ∧ ∀ (M : Addr → Prop) (w' : W) (σ' : Stt) (H' : Hp), (∀ b, M b → L2 b ∨ H1 b = none) → SR X.K fp M w' σ' H' → NxS fp w2 σ H1 w' σ' H' → sameAs v' ds w' → ∃ vs, SqL X.K H' a vs ∧ DRs X.K H' (FA fp M w' σ') vs ds) ∨
        (∃ a vs, x = .ref a ∧ SqT X.K H1 a vs ∧ DRs X.K H1 (FA fp L2 w2 σ) vs ds ∧ ∀ (M : Addr → Prop) (w' : W) (σ' : Stt) (H' : Hp), (∀ b, M b → L2 b ∨ H1 b = none) → SR X.K fp M w' σ' H' → NxS fp w2 σ H1 w' σ' H' → sameAs v' ds w' → ∃ vs, SqT X.K H' a vs ∧ DRs X.K H' (FA fp M w' σ') vs ds)) := by
    rintro ⟨p, w2, L2, hk, S2, n2, d, _⟩
    cases p with
    | list ds =>
      obtain ⟨a, vs, rfl, h, nf, r⟩ := d.lstAt
      refine ⟨.d (.list ds), ds, w2, L2, hk, S2, n2, .inl ⟨a, vs, rfl, SqL.of h, r, fun M w' σ' H' hM S' n' _ => ?_⟩⟩
      obtain ⟨a', vs', e, h', _, r'⟩ := (d.nextM S2 n' hM).lstAt
      cases e
      exact ⟨vs', SqL.of h', r'⟩
    | tuple ds =>
      obtain ⟨a, vs, rfl, h, r⟩ := d.tupAt
      refine ⟨.d (.tuple ds), ds, w2, L2, hk, S2, n2, .inr ⟨a, vs, rfl, h, r, fun M w' σ' H' hM S' n' _ => ?_⟩⟩
      obtain ⟨a', vs', e, h', r'⟩ := (d.nextM S2 n' hM).tupAt
      cases e
      exact ⟨vs', h', r'⟩
    | _ => exact False.elim hk
  cases v with
  | a j =>
    have r1 : fp.mv[j]? = some x := r1
    unfold seqP at hk
    simp only at hk
    cases q : w1.a[j]? with
    | none => rw [q] at hk; exact hk.elim
    | some oc =>
      rw [q] at hk
      cases oc with
      | none => exact False.elim hk
      | some c =>
        cases c with
        | m kvs => exact False.elim hk
        | l ds =>
          obtain ⟨b, e, rc, _⟩ := S1.arg j _ q
          rw [r1] at e; cases e
          cases rc with
          | l h r =>
            refine ⟨.a j, ds, w1, L1, hk, S1, n1, .inl ⟨b, _, rfl, SqL.of h, r, fun M w' σ' H' hM S' n' sm => ?_⟩⟩
            obtain ⟨b', e', rc', _⟩ := S'.arg j _ sm
            rw [r1] at e'; cases e'
            cases rc' with
            | l h' r' => exact ⟨_, SqL.of h', r'⟩
  | d y => exact rest (gen hk)
  | n c => exact rest (gen hk)
  | s i => exact rest (gen hk)
  | f y => exact rest (gen hk)
  | z ns => exact rest (gen hk)
  | x y => exact rest (gen hk)
theorem i_seq {tg e : Expr} {se : SE} (he : PE X e (tE X.K Γ fp Wx se)) : PI X tg e (tI X.K Γ fp Wx (.seq se)) :=
  PI.imp (pi_any he) fun σ H R ⟨L, w, ex, k, S, ec, h, fin⟩ => one S ec h fun v w1 x L1 H1 hk S1 n1 r1 f1 => by
    obtain ⟨v', ds, w2, L2, hk2, S2, n2, q⟩ := seq_end S S1 n1 r1 f1 hk
    rcases q with ⟨a, vs, rfl, hs, r, at_⟩ | ⟨a, vs, rfl, hs, r, at_⟩
    · exact .inl ⟨a, rfl, ⟨vs, hs⟩, fin v' ds w2 L2 H1 _ hk2 S2 n2 (it_list at_)⟩
    · exact .inr ⟨a, rfl, ⟨vs, hs⟩, fin v' ds w2 L2 H1 _ hk2 S2 n2 (it_tup at_)⟩
theorem i_str {tg e : Expr} {se : SE} (he : PE X e (tE X.K Γ fp Wx se)) : PI X tg e (tI X.K Γ fp Wx (.str se)) :=
  PI.imp (pi_str he) fun σ H R ⟨L, w, ex, k, S, ec, h, fin⟩ => one S ec h fun v w1 x L1 H1 hk S1 n1 r1 f1 => by
    obtain ⟨p, e1, hk⟩ := rdP_some hk
    cases p <;> first
      | exact False.elim hk
      | (rename_i z
         obtain ⟨rfl, hz⟩ := (VR.rd S1 r1 e1).str
         refine ⟨z, rfl, fin _ _ w1 L1 H1 _ hk S1 n1 ⟨fun M i w σ H hM hi S n sm => ?_, fun M i w σ H hM hi S n sm => ?_⟩⟩
         · unfold signsD at hi
           rw [List.length_map, Array.length_toList] at hi
           refine ⟨hi, fun x H' ⟨e, c, hc, ex⟩ => ?_⟩
           subst e ex
           refine ⟨.str ⟨#[c]⟩, ?_, S, NxS.refl, .str _ (by show 1 ≤ sizeLine; decide)⟩
           unfold signsD
           rw [List.getElem?_map, Array.getElem?_toList, hc]
           rfl
         · unfold signsD at hi
           rw [List.length_map, Array.length_toList] at hi
           exact hi)
theorem i_rng1 {tg a : Expr} {sa : SE} {p pos : Pos} (hg : Gl X "range") (hm : X.mg "range" = none) (ha : PE X a (tE X.K Γ fp Wx sa)) (hs : starEach [a] X.env = [(false, eval a X.env)] := by rfl) : PI X tg (.Call (.Name "range" p) [a] [] pos) (tI X.K Γ fp Wx (.rng1 sa)) :=
  PI.imp (pi_range1 hg hm (pa_cons ha pa_nil hs) hs) fun σ H R ⟨L, w, ex, k, S, ec, h, fin⟩ => one S ec h fun v w1 x L1 H1 hk S1 n1 r1 f1 => by
    obtain ⟨q, e1, hk0⟩ := rdP_some hk
    obtain ⟨n, e2, hk1⟩ := intP_some hk0
    subst e2
    have e := (VR.rd S1 r1 e1).int
    subst e
    refine ⟨n, rfl, hk1.1.1, hk1.1.2, fin _ _ w1 L1 H1 _ hk1.2 S1 n1 ⟨fun M i w σ H hM hi S n sm => ?_, fun M i w σ H hM hi S n sm => ?_⟩⟩
    · unfold rng1D at hi
      rw [List.length_map, List.length_range] at hi
      refine ⟨hi, fun x H' ⟨e, ex⟩ => ?_⟩
      subst e ex
      refine ⟨.int i, ?_, S, NxS.refl, by rw [Int.zero_add]; exact .int _⟩
      unfold rng1D
      rw [List.getElem?_map, List.getElem?_range hi]
      rfl
    · unfold rng1D at hi
      rw [List.length_map, List.length_range] at hi
      exact hi
theorem i_rng2 {tg a b : Expr} {sa sb : SE} {p pos : Pos} (hg : Gl X "range") (hm : X.mg "range" = none) (ha : PE X a (tE X.K Γ fp Wx sa)) (hb : PE X b (tE X.K Γ fp Wx sb)) (hs : starEach [a, b] X.env = [(false, eval a X.env), (false, eval b X.env)] := by rfl) (hs2 : starEach [b] X.env = [(false, eval b X.env)] := by rfl)
    (hs3 : starEach [a, b] X.env = (false, eval a X.env) :: starEach [b] X.env := by rfl) (hs4 : starEach [b] X.env = (false, eval b X.env) :: starEach [] X.env := by rfl) : PI X tg (.Call (.Name "range" p) [a, b] [] pos) (tI X.K Γ fp Wx (.rng2 sa sb)) :=
  PI.imp (pi_range2 hg hm (pa_cons ha (pa_cons hb pa_nil hs4) hs3) hs hs2) fun σ H R ⟨L, w, ex, k, S, ec, h, fin⟩ => two S ec h fun v u w1 x y L1 H1 hk S1 n1 r1 r2 => by
    obtain ⟨q, e1, hk0⟩ := rdP_some hk
    obtain ⟨q', e2, hk1⟩ := rdP_some hk0
    obtain ⟨lo, e3, hk2⟩ := intP_some hk1
    obtain ⟨up, e4, hk3⟩ := intP_some hk2
    subst e3 e4
    have e := (VR.rd S1 r1 e1).int
    have e' := (VR.rd S1 r2 e2).int
    subst e e'
    refine ⟨lo, up, rfl, hk3.1, fin _ _ w1 L1 H1 _ hk3.2 S1 n1 ⟨fun M i w σ H hM hi S n sm => ?_, fun M i w σ H hM hi S n sm => ?_⟩⟩
    · unfold rng2D at hi
      rw [List.length_map, List.length_range] at hi
      refine ⟨hi, fun x H' ⟨e, ex⟩ => ?_⟩
      subst e ex
      refine ⟨.int (lo + i), ?_, S, NxS.refl, .int _⟩
      unfold rng2D
      rw [List.getElem?_map, List.getElem?_range hi]
      rfl
    · unfold rng2D at hi
      rw [List.length_map, List.length_range] at hi
      exact hi
end
end Lb
set_option maxHeartbeats 1000000
/-! ## Lb12 -/
/-! Lb12: statements. -/
namespace Lb
open PySem PySem.Spec L2

/-- the ends of a piece, in the heap -/
structure ESt (K : PySem.W.Frag) (fp : Fp) (L : Addr → Prop) (w : W) (σ : Stt) (H : Hp) (D' : Ends') (D : Ends) : Prop where
  nx : ∀ (w' : W) (σ' : Stt) (H' : Hp), D'.nx w' → SR K fp L w' σ' H' → NxS fp w σ H w' σ' H' → D.nx σ' H'
  rt : ∀ (v : Vl) (w' : W) (x : V) (M : Addr → Prop) (σ' : Stt) (H' : Hp), D'.rt v w' → SR K fp M w' σ' H' → NxS fp w σ H w' σ' H' → (∀ b, L b → M b) → (∀ b, M b → L b ∨ H b = none) → VR K fp M w' σ' H' v x → NF L v x → D.rt x H'
  bk : ∀ (w' : W) (σ' : Stt) (H' : Hp), D'.bk w' → SR K fp L w' σ' H' → NxS fp w σ H w' σ' H' → D.bk σ' H'
  ct : ∀ (w' : W) (σ' : Stt) (H' : Hp), D'.ct w' → SR K fp L w' σ' H' → NxS fp w σ H w' σ' H' → D.ct σ' H'
def tS (K : PySem.W.Frag) (Γ : Sg) (fp : Fp) (Wx : WX) (s : SS) : TS := fun D σ H => ∃ (L : Addr → Prop) (w : W) (D' : Ends'), SR K fp L w σ H ∧ EC K fp L w σ H Wx D'.ex ∧ evS Γ s w D' ∧ ESt K fp L w σ H D' D
def tSs (K : PySem.W.Frag) (Γ : Sg) (fp : Fp) (Wx : WX) (s : List SS) : TS := fun D σ H => ∃ (L : Addr → Prop) (w : W) (D' : Ends'), SR K fp L w σ H ∧ EC K fp L w σ H Wx D'.ex ∧ evSs Γ s w D' ∧ ESt K fp L w σ H D' D
theorem PS.imp {X : Cx} {e : Stmt} {t t' : TS} (h : PS X e t) (q : ∀ D σ H, t' D σ H → t D σ H) : PS X e t' := ⟨fun pins s σ H D I z => h.run pins s σ H D I (q D σ H z)⟩
theorem PSs.imp {X : Cx} {e : List Stmt} {t t' : TS} (h : PSs X e t) (q : ∀ D σ H, t' D σ H → t D σ H) : PSs X e t' := ⟨fun pins s σ H D I z => h.run pins s σ H D I (q D σ H z)⟩
section
variable {K : PySem.W.Frag} {fp : Fp} {L M L1 : Addr → Prop} {w w1 : W} {σ σ1 : Stt} {H H1 : Hp} {D' : Ends'} {D : Ends}
theorem ESt.shift (e : ESt K fp L w σ H D' D) (n : NxS fp w σ H w1 σ1 H1) : ESt K fp L w1 σ1 H1 D' D where
  nx := fun w' σ' H' h S' n' => e.nx w' σ' H' h S' (n.trans n')
  rt := fun v w' x M σ' H' h S' n' up nw r f => e.rt v w' x M σ' H' h S' (n.trans n') up (fun b hb => (nw b hb).imp id fun q => by
    cases z : H b with
    | none => rfl
    | some o => exact absurd q (n.ke b (by rw [z]; exact fun z => by cases z))) r f
  bk := fun w' σ' H' h S' n' => e.bk w' σ' H' h S' (n.trans n')
  ct := fun w' σ' H' h S' n' => e.ct w' σ' H' h S' (n.trans n')
/-- L grows by what is new for a while -/
theorem ESt.more (e : ESt K fp L w σ H D' D) (up : ∀ b, L b → L1 b) (nw : ∀ b, L1 b → L b ∨ H b = none) : ESt K fp L1 w σ H D' D where
  nx := fun w' σ' H' h S' n' => e.nx w' σ' H' h (S'.weak up) n'
  rt := fun v w' x M σ' H' h S' n' up' nw' r f => e.rt v w' x M σ' H' h S' n' (fun b z => up' b (up b z)) (fun b hb => (nw' b hb).elim (nw b) .inr) r (f.anti up)
  bk := fun w' σ' H' h S' n' => e.bk w' σ' H' h (S'.weak up) n'
  ct := fun w' σ' H' h S' n' => e.ct w' σ' H' h (S'.weak up) n'
/-- a value is bound to a slot -/
theorem bind_end {i : Nat} {v : Vl} {x : V} {kk : W → Prop} {H0 : Hp} {w0 : W} {σ0 : Stt} (S1 : SR K fp L1 w1 σ H1) (n1 : NxS fp w0 σ0 H0 w1 σ H1) (hnew : ∀ c b, v = .n c → x = .ref b → H0 b = none ∧ fp.H0 b = none) (r1 : VR K fp L1 w1 σ H1 v x) (hk : bindP w1 i v kk) :
    ∃ w2, kk w2 ∧ SR K fp (fun z => L1 z ∧ ∀ c, v = .n c → x ≠ .ref z) w2 (σ.set i (some x)) H1 ∧ NxS fp w0 σ0 H0 w2 (σ.set i (some x)) H1 ∧ ∀ z, FA fp (fun z => L1 z ∧ ∀ c, v = .n c → x ≠ .ref z) w2 (σ.set i (some x)) z → FA fp L1 w1 σ z := by
  have pl : ∀ (sl : Sl) (w2 : W) (S2 : SR K fp L1 w2 σ H1) (n2 : NxS fp w0 σ0 H0 w2 σ H1), (∀ z, MA fp w2 σ z → MA fp w1 σ z) → (∀ c, sl ≠ .o c) → SlR K fp H1 (FA fp L1 (w2.setR i sl) (σ.set i (some x))) w2 sl (some (some x)) →
      SR K fp (fun z => L1 z ∧ ∀ c, v = .n c → x ≠ .ref z) (w2.setR i sl) (σ.set i (some x)) H1 ∧ NxS fp w0 σ0 H0 (w2.setR i sl) (σ.set i (some x)) H1 ∧ ∀ z, FA fp (fun z => L1 z ∧ ∀ c, v = .n c → x ≠ .ref z) (w2.setR i sl) (σ.set i (some x)) z → FA fp L1 w1 σ z := fun sl w2 S2 n2 hM no hs => by
    have nn : NxS fp w2 σ H1 (w2.setR i sl) (σ.set i (some x)) H1 := NxS.store no
    refine ⟨(S2.store no hs).weak fun b z => z.1, n2.trans nn, fun z hz => ?_⟩
    rcases hz with q | q
    · exact .inl q.1
    · rcases q with q | q
      · obtain ⟨j, c, _, h1, h2⟩ := own_set no q
        exact .inr (hM z (.inl ⟨j, c, h1, h2⟩))
      · exact .inr (hM z (.inr q))
  cases v with
  | d y =>
    have n2 : NxS fp w1 σ H1 (w1.setR i (.d y)) (σ.set i (some x)) H1 := NxS.store fun _ z => by cases z
    exact ⟨_, hk, pl (.d y) w1 S1 n1 (fun _ z => z) (fun _ z => by cases z) ⟨x, rfl, DR.nextS S1 n2 r1⟩⟩
  | n c =>
    obtain ⟨b, rfl, hb, rc⟩ := r1
    obtain ⟨h0, hf⟩ := hnew c b rfl rfl
    refine ⟨_, hk, S1.storeO (fun z q => ⟨q.1, fun e => q.2 c rfl (by rw [e])⟩) hb hf rc, ?_, fun z hz => ?_⟩
    · refine ⟨n1.st, fun z hz => ?_, n1.ke⟩
      rcases hz with ⟨j, c', h1, h2⟩ | q
      · rcases set_get h1 with ⟨e, _, hi⟩ | ⟨ne, h1⟩
        · subst e
          rw [List.getElem?_set_self (by rw [← S1.len]; exact hi)] at h2
          cases h2
          exact .inr h0
        · rw [List.getElem?_set_ne (Ne.symm ne)] at h2
          exact n1.ma z (.inl ⟨j, c', h1, h2⟩)
      · exact n1.ma z (.inr q)
    · rcases hz with q | q | q
      · exact .inl q.1
      · obtain ⟨j, c', h1, h2⟩ := q
        rcases set_get h1 with ⟨e, _, hi⟩ | ⟨ne, h1⟩
        · subst e
          rw [List.getElem?_set_self (by rw [← S1.len]; exact hi)] at h2
          cases h2
          exact .inl hb
        · rw [List.getElem?_set_ne (Ne.symm ne)] at h2
          exact .inr (.inl ⟨j, c', h1, h2⟩)
      · exact .inr (.inr q)
  | a j =>
    have r1 : fp.mv[j]? = some x := r1
    unfold bindP at hk
    simp only at hk
    cases q : w1.a[j]? with
    | none => rw [q] at hk; exact hk.elim
    | some oc =>
      rw [q] at hk
      cases oc with
      | none => exact False.elim hk
      | some c =>
        obtain ⟨b, e, _, _⟩ := S1.arg j _ q
        rw [r1] at e; cases e
        exact ⟨_, hk, pl (.a j) w1 S1 n1 (fun _ z => z) (fun _ z => by cases z) ⟨b, c, rfl, r1, q⟩⟩
  | f y =>
    obtain ⟨b, rfl, hf⟩ := r1
    exact ⟨_, hk, pl (.f y) w1 S1 n1 (fun _ z => z) (fun _ z => by cases z) ⟨b, rfl, hf⟩⟩
  | s j =>
    have r1 : σ[j]? = some (some x) := r1
    unfold bindP at hk
    simp only at hk
    cases q : w1.r[j]? with
    | none => rw [q] at hk; exact hk.elim
    | some sl =>
      rw [q] at hk
      cases sl with
      | o c =>
        simp only at hk
        by_cases e : i = j
        · rw [if_pos e] at hk
          subst e
          have es : σ.set i (some x) = σ := set_same r1
          rw [es]
          exact ⟨w1, hk, S1.weak fun b z => z.1, n1, fun z hz => hz.imp (fun q => q.1) id⟩
        · rw [if_neg e] at hk
          obtain ⟨b, e1, S2, d, hM⟩ := S1.freeze q
          rw [r1] at e1; cases e1
          have n2 : NxS fp w0 σ0 H0 (w1.setR j (.d c.dat)) σ H1 := n1.trans ⟨Stay.refl, fun z hz => .inl (hM z hz), fun _ z => z⟩
          have n3 : NxS fp (w1.setR j (.d c.dat)) σ H1 ((w1.setR j (.d c.dat)).setR i (.d c.dat)) (σ.set i (some (.ref b))) H1 := NxS.store fun _ z => by cases z
          exact ⟨_, hk, pl (.d c.dat) _ S2 n2 hM (fun _ z => by cases z) ⟨.ref b, rfl, DR.nextS S2 n3 d⟩⟩
      | d y =>
        obtain ⟨v', e1, d⟩ := S1.slot j _ q
        rw [r1] at e1; cases e1
        have n2 : NxS fp w1 σ H1 (w1.setR i (.d y)) (σ.set i (some x)) H1 := NxS.store fun _ z => by cases z
        exact ⟨_, hk, pl (.d y) w1 S1 n1 (fun _ z => z) (fun _ z => by cases z) ⟨x, rfl, DR.nextS S1 n2 d⟩⟩
      | _ => exact False.elim hk
  | z ns => exact False.elim hk
  | x y =>
    obtain ⟨b, C, rfl, hf⟩ := r1
    exact ⟨_, hk, pl (.x y) w1 S1 n1 (fun _ z => z) (fun _ z => by cases z) ⟨b, C, rfl, hf⟩⟩
theorem new_none (S : SR K fp L w σ H) (n : Nx fp σ L w H L1 w1 H1) {v : Vl} {x : V} (r : VR K fp L1 w1 σ H1 v x) (f : NF L v x) : ∀ c b, v = .n c → x = .ref b → H b = none ∧ fp.H0 b = none := fun c b e1 e2 => by
  subst e1 e2
  obtain ⟨b', e, l, _⟩ := r
  cases e
  have := (n.nw b l).elim (fun z => absurd z (f b rfl)) id
  exact ⟨this, S.h0 this⟩
end
section
variable {X : Cx} {Γ : Sg} {fp : Fp} {Wx : WX}
theorem ss_nil : PSs X [] (tSs X.K Γ fp Wx []) := PSs.imp pss_nil fun D σ H ⟨L, w, D', S, ec, h, es⟩ => es.nx w σ H h S NxS.refl
theorem ss_cons {st : Stmt} {rest : List Stmt} {s : SS} {ss : List SS} (h1 : PS X st (tS X.K Γ fp Wx s)) (h2 : PSs X rest (tSs X.K Γ fp Wx ss)) : PSs X (st :: rest) (tSs X.K Γ fp Wx (s :: ss)) :=
  PSs.imp (pss_cons h1 h2) fun D σ H ⟨L, w, D', S, ec, h, es⟩ => ⟨L, w, { D' with nx := fun w' => evSs Γ ss w' D' }, S, ec, h,
    { nx := fun w' σ' H' hk S' n' => ⟨L, w', D', S', ec.sh (fun _ z => z) n', hk, es.shift n'⟩, rt := es.rt, bk := es.bk, ct := es.ct }⟩
theorem s_set {i : Nat} {x : Str} {e : Expr} {se : SE} {pos pos' : Pos} (hN : X.N.Nodup) (hi : X.N[i]? = some x) (hx : Loc X.env.scope x) (he : PE X e (tE X.K Γ fp Wx se)) (hs : swapsWith e (some (.Name x pos')) pos.line X.env = pure false := by rfl) (hf : X.fn x = true ∨ X.env.scope.names.lookup x = some .local := by first | exact .inl rfl | exact .inr rfl | assumption) :
    PS X (.Assign [.Name x pos'] e pos) (tS X.K Γ fp Wx (.asg (.v i) se)) :=
  PS.imp (ps_set hN hi hx he hs hf) fun D σ H ⟨L, w, D', S, ec, h, es⟩ => one S ec h fun v w1 x L1 H1 hk S1 n1 r1 f1 => by
    have hk : bindP w1 i v D'.nx := hk
    obtain ⟨w2, hk2, S2, n2, _⟩ := bind_end S1 n1.s (new_none S n1 r1 f1) r1 hk
    refine es.nx w2 _ H1 hk2 (S2.weak fun b hb => ⟨n1.up b hb, fun c e1 e2 => ?_⟩) n2
    subst e1
    exact f1 b e2 hb
theorem s_setT {es : List Expr} {e : Expr} {se : SE} {ts : Tgs} {k : Nat} {pt pos : Pos} (he : PE X e (tE X.K Γ fp Wx se)) (hg : PG X (.Tuple es k pt) (tG X.K fp (.t ts))) (hs : swapsWithSole [.Tuple es k pt] e pos.line X.env = pure false := by rfl) (hw : swappedStores [.Tuple es k pt] e X.env = pure none := by rfl)
    (h1 : (assignEach [.Tuple es k pt] X.env).map (·.2) = [assign (.Tuple es k pt) X.env] := by rfl) : PS X (.Assign [.Tuple es k pt] e pos) (tS X.K Γ fp Wx (.asg (.t ts) se)) :=
  PS.imp (ps_asg he hg hs hw h1) fun D σ H ⟨L, w, D', S, ec, h, es⟩ => one S ec h fun v w1 x L1 H1 hk S1 n1 r1 f1 => by
    obtain ⟨p, e1, hk2⟩ := rdP_some hk
    have t := VR.rd S1 r1 e1
    cases p <;> first
      | exact False.elim hk2
      | (obtain ⟨b, vs, rfl, hs, r⟩ := t.tup
         exact ⟨L1, w1, _, D'.nx, S1, .tup hs r, hk2, fun w' σ' hk3 S' n' _ => es.nx w' σ' H1 hk3 (S'.weak n1.up) (n1.s.trans n')⟩)
def VEnd (K : PySem.W.Frag) (fp : Fp) (L : Addr → Prop) (w : W) (σ : Stt) (H H1 : Hp) (x : V) (kk : Vl → W → Prop) : Prop :=
  ∃ (v' : Vl) (w2 : W) (M : Addr → Prop), kk v' w2 ∧ SR K fp M w2 σ H1 ∧ Nx fp σ L w H M w2 H1 ∧ VR K fp M w2 σ H1 v' x ∧ NF L v' x ∧ (∀ j : Nat, v' ≠ Vl.s j) ∧ (∀ j : Nat, v' ≠ Vl.a j) ∧ (∀ j : List Int, v' ≠ Vl.z j) ∧ (∀ j : Str, v' ≠ Vl.f j) ∧ ∀ j : Exn, v' ≠ Vl.x j
theorem val_end {K : PySem.W.Frag} {L L1 : Addr → Prop} {w w1 : W} {σ : Stt} {H H1 : Hp} {v : Vl} {x : V} {kk : Vl → W → Prop} (S : SR K fp L w σ H) (S1 : SR K fp L1 w1 σ H1) (n1 : Nx fp σ L w H L1 w1 H1) (r1 : VR K fp L1 w1 σ H1 v x) (f1 : NF L v x) (hk : valP w1 v kk) : VEnd K fp L w σ H H1 x kk := by
  have rest : datP w1 v (fun y w' => kk (.d y) w') → VEnd K fp L w σ H H1 x kk := fun hk => by
    obtain ⟨p, w2, M, hk, S2, n2, d, _⟩ := dat_end S S1 n1 r1 f1 hk
    exact ⟨.d p, w2, M, hk, S2, n2, d, trivial, (fun _ z => by cases z), (fun _ z => by cases z), (fun _ z => by cases z), (fun _ z => by cases z), (fun _ z => by cases z)⟩
  cases v with
  | n c => exact ⟨.n c, w1, L1, hk, S1, n1, r1, f1, (fun _ z => by cases z), (fun _ z => by cases z), (fun _ z => by cases z), (fun _ z => by cases z), (fun _ z => by cases z)⟩
  | d y => exact rest hk
  | s i => exact rest hk
  | a j => exact rest hk
  | f y => exact rest hk
  | z ns => exact rest hk
  | x y => exact rest hk
theorem s_par {i j : Nat} {x y : Str} {a b : Expr} {sa sb : SE} {px py pt : Pos} {kt k2 : Nat} {pt2 pos : Pos} (hc : X.calm = true) (hN : X.N.Nodup) (hi : X.N[i]? = some x) (hj : X.N[j]? = some y) (hij : i ≠ j)
    (hx : X.env.scope.names.lookup x = some .local) (hy : X.env.scope.names.lookup y = some .local) (ha : PE X a (tE X.K Γ fp Wx sa)) (hb : PE X b (tE X.K Γ fp Wx sb))
    (hw : swappedStores [.Tuple [.Name x px, .Name y py] kt pt] (.Tuple [a, b] k2 pt2) X.env = pure (some [x, y]))
    (hs : swapsWithSole [.Tuple [.Name x px, .Name y py] kt pt] (.Tuple [a, b] k2 pt2) pos.line X.env = pure false := by rfl)
    (hs3 : starEach [a, b] X.env = (false, eval a X.env) :: starEach [b] X.env := by rfl) (hs4 : starEach [b] X.env = (false, eval b X.env) :: starEach [] X.env := by rfl) :
    PS X (.Assign [.Tuple [.Name x px, .Name y py] kt pt] (.Tuple [a, b] k2 pt2) pos) (tS X.K Γ fp Wx (.par i j sa sb)) :=
  PS.imp (ps_par hc hN hi hj hij hx hy (pa_cons ha (pa_cons hb pa_nil hs4) hs3) hw hs) fun D σ H ⟨L, w, D', S, ec, h, es⟩ => one S ec h fun v w1 x L1 H1 hk S1 n1 r1 f1 => by
    obtain ⟨v', w2, M2, hk2, S2, n2, r2, f2, nos, noa, noz, nof, nox⟩ := val_end S S1 n1 r1 f1 hk
    refine one S2 (ec.nx n2) hk2 fun u w3 y M3 H3 hk3 S3 n3 r3 f3 => ?_
    obtain ⟨u', w4, M4, hk4, S4, n4, r4, f4, nos', noa', noz', nof', nox'⟩ := val_end S2 S3 n3 r3 f3 hk3
    refine ⟨x, y, rfl, ?_⟩
    have rx := r2.next S2 n4
    have nn := n2.trans n4
    have hn1 := new_none S n2 r2 f2
    have hn2 := new_none S2 n4 r4 f4
    obtain ⟨w5, hk5, S5, n5, hF⟩ := bind_end S4 nn.s hn1 rx hk4
    have hn2' : ∀ c b, u' = .n c → y = .ref b → H b = none ∧ fp.H0 b = none := fun c b e1 e2 => by
      obtain ⟨q1, q2⟩ := hn2 c b e1 e2
      refine ⟨?_, q2⟩
      cases z : H b with
      | none => rfl
      | some o => exact absurd q1 (n2.ke b (by rw [z]; exact fun z => by cases z))
    have ry : VR X.K fp (fun z => M4 z ∧ ∀ c, v' = .n c → x ≠ .ref z) w5 (σ.set i (some x)) H3 u' y := by
      cases u' with
      | d d => exact DR.weak r4 hF
      | n c =>
        obtain ⟨b, rfl, hb, rc⟩ := r4
        refine ⟨b, rfl, ⟨hb, fun c' e1 e2 => ?_⟩, rc.weak hF⟩
        subst e1 e2
        obtain ⟨b', e, hb', _⟩ := r2
        cases e
        exact f4 b rfl hb'
      | s j => exact absurd rfl (nos' j)
      | a j => exact absurd rfl (noa' j)
      | z j => exact absurd rfl (noz' j)
      | f j => exact absurd rfl (nof' j)
      | x j => exact absurd rfl (nox' j)
    obtain ⟨w6, hk6, S6, n6, _⟩ := bind_end S5 n5 hn2' ry hk5
    refine es.nx w6 _ H3 hk6 (S6.weak fun b hb => ⟨⟨nn.up b hb, fun c e1 e2 => ?_⟩, fun c e1 e2 => ?_⟩) n6
    · subst e1; exact f2 b e2 hb
    · subst e1; exact f4 b e2 (n2.up b hb)
end
end Lb
set_option maxHeartbeats 1000000
/-! ## Lb13 -/
/-! Lb13: more statements. -/
namespace Lb
open PySem PySem.Spec L2
section
variable {X : Cx} {Γ : Sg} {fp : Fp} {Wx : WX}
theorem s_pass {pos : Pos} : PS X (.Pass pos) (tS X.K Γ fp Wx .pass) := PS.imp ps_pass fun D σ H ⟨L, w, D', S, ec, h, es⟩ => es.nx w σ H h S NxS.refl
theorem s_brk {pos : Pos} : PS X (.Break pos) (tS X.K Γ fp Wx .brk) := PS.imp ps_break fun D σ H ⟨L, w, D', S, ec, h, es⟩ => es.bk w σ H h S NxS.refl
theorem s_cont {pos : Pos} : PS X (.Continue pos) (tS X.K Γ fp Wx .cont) := PS.imp ps_continue fun D σ H ⟨L, w, D', S, ec, h, es⟩ => es.ct w σ H h S NxS.refl
theorem s_ex {e : Expr} {se : SE} {pos : Pos} (he : PE X e (tE X.K Γ fp Wx se)) (hs : swapsWith e none pos.line X.env = pure false := by rfl) : PS X (.Expr e pos) (tS X.K Γ fp Wx (.ex se)) :=
  PS.imp (ps_expr he hs) fun D σ H ⟨L, w, D', S, ec, h, es⟩ => one S ec h fun v w1 x L1 H1 hk S1 n1 r1 f1 => es.nx w1 σ H1 hk (S1.weak n1.up) n1.s
theorem s_ret {e : Expr} {se : SE} {pos : Pos} (he : PE X e (tE X.K Γ fp Wx se)) : PS X (.Return (some e) pos) (tS X.K Γ fp Wx (.ret se)) :=
  PS.imp (ps_ret he) fun D σ H ⟨L, w, D', S, ec, h, es⟩ => one S ec h fun v w1 x L1 H1 hk S1 n1 r1 f1 => es.rt v w1 x L1 σ H1 hk S1 n1.s n1.up n1.nw r1 f1
theorem s_retN {pos : Pos} : PS X (.Return none pos) (tS X.K Γ fp Wx .retN) :=
  PS.imp ps_retN fun D σ H ⟨L, w, D', S, ec, h, es⟩ => es.rt (.d .none) w .non L σ H h S NxS.refl (fun _ z => z) (fun _ z => .inl z) .non trivial
theorem s_if {c : Expr} {a b : List Stmt} {sc : ST} {sa sb : List SS} {pos : Pos} (hc : PT X c (tT X.K Γ fp Wx sc)) (ha : PSs X a (tSs X.K Γ fp Wx sa)) (hb : PSs X b (tSs X.K Γ fp Wx sb)) : PS X (.If c a b pos) (tS X.K Γ fp Wx (.ite sc sa sb)) :=
  PS.imp (ps_if hc ha hb) fun D σ H ⟨L, w, D', S, ec, h, es⟩ => ⟨L, w, D'.ex, _, S, ec, h, fun c w1 L1 H1 hk S1 n1 => by
    have go : ∀ ss : List SS, evSs Γ ss w1 D' → tSs X.K Γ fp Wx ss D σ H1 := fun ss hk => ⟨L, w1, D', S1.weak n1.up, ec.sh (fun _ z => z) n1.s, hk, es.shift n1.s⟩
    cases c with
    | true =>
      rw [if_pos rfl] at hk
      exact iteT (go _ hk)
    | false =>
      rw [if_neg Bool.false_ne_true] at hk
      exact iteF (go _ hk)⟩
theorem s_while {c : Expr} {body : List Stmt} {sc : ST} {sb : List SS} {pos : Pos} (hp : PassesOwn (model X.prog X.w) X.A X.env X.xe) (hc : PT X c (tT X.K Γ fp Wx sc)) (hb : PSs X body (tSs X.K Γ fp Wx sb)) : PS X (.While c body [] pos) (tS X.K Γ fp Wx (.whl sc sb)) :=
  PS.imp (ps_while hp hc hb) fun D σ H ⟨L, w, D', S, ec, h, es⟩ => by
    obtain ⟨n0, h⟩ := h
    refine ⟨fun m σ' H' => ∃ w', whileN (fun w' k => evT Γ sc w' D'.ex k) (fun w' k => evSs Γ sb w' { D' with nx := k, ct := k, bk := D'.nx }) D'.nx m w' ∧ SR X.K fp L w' σ' H' ∧ NxS fp w σ H w' σ' H', ⟨n0, w, h, S, NxS.refl⟩, ?_⟩
    rintro m σ1 H1 ⟨w1, h1, S1, n1⟩
    cases m with
    | zero => exact False.elim h1
    | succ m =>
      refine ⟨L, w1, D'.ex, _, S1, ec.sh (fun _ z => z) n1, h1, fun b w2 L2 H2 hk S2 n2 => ?_⟩
      have S2' := S2.weak n2.up
      have n12 := n1.trans n2.s
      cases b with
      | true =>
        rw [if_pos rfl] at hk
        refine iteT ⟨_, fun σ' H' z => ⟨m, Nat.lt_succ_self m, z⟩, L, w2, { nx := whileN (fun w' k => evT Γ sc w' D'.ex k) (fun w' k => evSs Γ sb w' { D' with nx := k, ct := k, bk := D'.nx }) D'.nx m, rt := D'.rt, bk := D'.nx, ct := whileN (fun w' k => evT Γ sc w' D'.ex k) (fun w' k => evSs Γ sb w' { D' with nx := k, ct := k, bk := D'.nx }) D'.nx m, ex := D'.ex }, S2', ec.sh (fun _ z => z) n12, hk, ?_⟩
        exact { nx := fun w' σ' H' hk' S' n' => ⟨w', hk', S', n12.trans n'⟩, ct := fun w' σ' H' hk' S' n' => ⟨w', hk', S', n12.trans n'⟩, bk := (es.shift n12).nx, rt := (es.shift n12).rt }
      | false =>
        rw [if_neg Bool.false_ne_true] at hk
        exact iteF (es.nx w2 σ1 H2 hk S2' n12)
theorem s_for {tg iter : Expr} {body : List Stmt} {st : Tg} {si : SI} {sb : List SS} {pos : Pos} (hp : PassesOwn (model X.prog X.w) X.A X.env X.xe) (hc : X.calm = true) (hi : PI X tg iter (tI X.K Γ fp Wx si)) (hg : PG X tg (tG X.K fp st)) (hb : PSs X body (tSs X.K Γ fp Wx sb))
    (hs : ∀ x, foldedSetIterable iter X.env x = pure x := by intro _; rfl) : PS X (.For tg iter body [] pos) (tS X.K Γ fp Wx (.for st si sb)) :=
  PS.imp (ps_for hp hc hi hg hb hs) fun D σ H ⟨L, w, D', S, ec, h, es⟩ => ⟨L, w, D'.ex, _, S, ec, h, fun v ds w1 L1 H1 J hk S1 n1 ok => by
    have es1 : ESt X.K fp L1 w σ H D' D := es.more n1.up n1.nw
    let wk : Nat → W → Prop := fun i w' => walk (sameAs v ds) (fun x w' k bk => tgP st x w' fun w2 => evSs Γ sb w2 { D' with nx := k, ct := k, bk := bk }) (ds.drop i) w' D'.nx D'.nx
    refine ⟨fun i m σ' H' => m = ds.length - i ∧ i ≤ ds.length ∧ ∃ w', walk (sameAs v ds) (fun x w' k bk => tgP st x w' fun w2 => evSs Γ sb w2 { D' with nx := k, ct := k, bk := bk }) (ds.drop i) w' D'.nx D'.nx ∧ SR X.K fp L1 w' σ' H' ∧ NxS fp w1 σ H1 w' σ' H',
      ⟨ds.length, rfl, Nat.zero_le _, w1, hk, S1, NxS.refl⟩, ?_⟩
    rintro i m σ2 H2 ⟨rfl, hi, w2, h2, S2, n2⟩
    have nn := n1.s.trans n2
    by_cases hlt : i < ds.length
    · rw [List.drop_eq_getElem_cons hlt] at h2
      obtain ⟨sm, h2⟩ := h2
      obtain ⟨go, yl⟩ := ok.go L1 i w2 σ2 H2 (fun _ z => .inl z) hlt S2 n2 sm
      refine .inr ⟨go, fun σ' H' => ∃ w', walk (sameAs v ds) (fun x w' k bk => tgP st x w' fun w2 => evSs Γ sb w2 { D' with nx := k, ct := k, bk := bk }) (ds.drop (i + 1)) w' D'.nx D'.nx ∧ SR X.K fp L1 w' σ' H' ∧ NxS fp w1 σ H1 w' σ' H', fun σ' H' z => ⟨ds.length - (i + 1), by omega, rfl, hlt, z⟩, fun x H3 y => ?_⟩
      obtain ⟨d, e, S3, n3, r3⟩ := yl x H3 y
      have e' : d = ds[i] := by rw [List.getElem?_eq_getElem hlt] at e; exact (Option.some.inj e).symm
      subst e'
      refine ⟨L1, w2, _, _, S3, r3, h2, fun w4 σ4 hk4 S4 n4 _ => ?_⟩
      have n14 := n2.trans (n3.trans n4)
      have n04 := n1.s.trans n14
      refine ⟨L1, w4, { nx := wk (i + 1), rt := D'.rt, bk := D'.nx, ct := wk (i + 1), ex := D'.ex }, S4, (ec.sh n1.up n04), hk4, ?_⟩
      exact { nx := fun w' σ' H' hk' S' n' => ⟨w', hk', S', n14.trans n'⟩, ct := fun w' σ' H' hk' S' n' => ⟨w', hk', S', n14.trans n'⟩, bk := (es1.shift n04).nx, rt := (es1.shift n04).rt }
    · have e : i = ds.length := by omega
      subst e
      rw [List.drop_length] at h2
      obtain ⟨sm, h2⟩ := h2
      exact .inl ⟨ok.stop L1 _ w2 σ2 H2 (fun _ z => .inl z) (Nat.le_refl _) S2 n2 sm, es1.nx w2 σ2 H2 h2 S2 nn⟩⟩
/-- what a name holds -/
theorem var_end {K : PySem.W.Frag} {σ : L2.St} {L : Addr → Prop} {w : W} {H : Hp} {i : Nat} {k : Vl → Prop} (S : SR K fp L w σ H) (h : varP w i k) : ∃ v x, σ[i]? = some (some x) ∧ k v ∧ VR K fp L w σ H v x := by
  unfold varP at h
  cases q : w.r[i]? with
  | none => rw [q] at h; exact h.elim
  | some sl =>
    rw [q] at h
    have sl_ := S.slot i sl q
    cases sl with
    | no => exact h.elim
    | d x =>
      obtain ⟨v, e, r⟩ := sl_
      exact ⟨_, v, e, h, r⟩
    | o c =>
      obtain ⟨b, e, r, _⟩ := sl_
      exact ⟨.s i, _, e, h, e⟩
    | a j =>
      obtain ⟨b, c, e, e2, _⟩ := sl_
      exact ⟨.a j, _, e, h, e2⟩
    | f x =>
      obtain ⟨b, e, e2⟩ := sl_
      exact ⟨.f x, _, e, h, b, rfl, e2⟩
    | z ns =>
      obtain ⟨b, e, e2⟩ := sl_
      exact ⟨.z ns, _, e, h, b, rfl, e2⟩
    | x y =>
      obtain ⟨b, C, e, e2⟩ := sl_
      exact ⟨.x y, _, e, h, b, C, rfl, e2⟩
def aopOf : Bop → Operator
  | .sub => .Sub
  | _ => .Add
def aInt : Bop → Int → Int → Int
  | .sub => fun i j => i - j
  | _ => fun i j => i + j
theorem ip_aop : ∀ o : Bop, PIp X (aopOf o) (ipI (aInt o))
  | .add => ip_add
  | .sub => ip_sub
  | .mul => ip_add
  | .fdiv => ip_add
  | .mod => ip_add
  | .pow => ip_add
theorem s_aug (o : Bop) {i : Nat} {x : Str} {e : Expr} {se : SE} {pos' pos : Pos} (hN : X.N.Nodup) (hi : X.N[i]? = some x) (hx : Loc X.env.scope x) (he : PE X e (tE X.K Γ fp Wx se)) (hf : X.fn x = true ∨ X.env.scope.names.lookup x = some .local := by first | exact .inl rfl | exact .inr rfl | assumption) :
    PS X (.AugAssign (.Name x pos') (aopOf o) e pos) (tS X.K Γ fp Wx (.aug i o se)) :=
  PS.imp (ps_aug hN hi hx he (ip_aop o) hf) fun D σ H ⟨L, w, D', S, ec, h, es⟩ => by
    have h : varP w i fun x => evE Γ se w D'.ex fun y w1 => rdP w1 x fun p => rdP w1 y fun q => augP o p q fun z => D'.nx (w1.setR i (.d z)) := h
    obtain ⟨v, x, ex, h, rv⟩ := var_end S h
    refine ⟨x, ex, one S ec h fun u w1 y L1 H1 hk S1 n1 r1 f1 => ?_⟩
    obtain ⟨p, e1, hk⟩ := rdP_some hk
    obtain ⟨q, e2, hk⟩ := rdP_some hk
    have t1 := VR.rd S1 (rv.next S n1) e1
    have t2 := VR.rd S1 r1 e2
    have fin : ∀ z : Int, D'.nx (w1.setR i (.d (.int z))) → D.nx (σ.set i (some (.int z))) H1 := fun z hz => by
      have nn : NxS fp w1 σ H1 (w1.setR i (.d (.int z))) (σ.set i (some (.int z))) H1 := NxS.store fun _ z => by cases z
      exact es.nx _ _ H1 hz ((S1.store (sl := .d (.int z)) (x := some (.int z)) (fun _ z => by cases z) ⟨.int z, rfl, .int z⟩).weak n1.up) (n1.s.trans nn)
    cases p <;> cases q <;> first
      | exact False.elim hk
      | (have a1 := t1.int
         have a2 := t2.int
         subst a1 a2
         refine ⟨_, _, rfl, rfl, ?_⟩
         cases o <;> first
           | exact False.elim hk
           | exact fin _ hk)
theorem s_put {o i e : Expr} {so si se : SE} {tpos pos : Pos} (ho : PE X o (tE X.K Γ fp Wx so)) (hi : PE X i (tE X.K Γ fp Wx si)) (he : PE X e (tE X.K Γ fp Wx se))
    (ha : ∀ v, assign (.Subscript o i tpos) X.env v = (do
      let ov ← holding [v] (eval o X.env)
      let iv ← holding [v, ov] (eval i X.env)
      standAt tpos
      holding [v, ov, iv] (setItem ov iv v)
      release [v, ov, iv] []) := by intro _; rfl)
    (hs : swapsWithSole [.Subscript o i tpos] e pos.line X.env = pure false := by rfl) (hw : swappedStores [.Subscript o i tpos] e X.env = pure none := by rfl)
    (h1 : (assignEach [.Subscript o i tpos] X.env).map (·.2) = [assign (.Subscript o i tpos) X.env] := by rfl) : PS X (.Assign [.Subscript o i tpos] e pos) (tS X.K Γ fp Wx (.put so si se)) :=
  PS.imp (ps_asg he (pg_sub ho hi set_list ha) hs hw h1) fun D σ H ⟨L, w, D', S, ec, h, es⟩ => one S ec h fun v w1 x L1 H1 hk S1 n1 r1 f1 => by
    obtain ⟨q, w2, L2, hk2, S2, n2, dq, _⟩ := dat_end S S1 n1 r1 f1 hk
    refine one S2 (ec.nx n2) hk2 fun u w3 y L3 H3 hk3 S3 n3 r3 _ => one S3 ((ec.nx n2).nx n3) hk3 fun u' w4 z L4 H4 hk4 S4 n4 r4 _ => ?_
    obtain ⟨qi, ei, hk5⟩ := rdP_some hk4
    have ti := VR.rd S4 r4 ei
    obtain ⟨c, hgc, hk6⟩ := getCP_some hk5
    obtain ⟨b, rfl, rc, hb, fin⟩ := S4.put (r3.next S3 n4) hgc
    have d4 : DR X.K H4 (FA fp L4 w4 σ) x q := VR.next (v := .d q) S3 n4 (VR.next (v := .d q) S2 n3 dq)
    cases c with
    | m kvs => exact False.elim hk6
    | l xs =>
      cases qi <;> first
        | exact False.elim hk6
        | (have a1 := ti.int
           subst a1
           simp only at hk6
           cases rc with
           | l hH r =>
             split at hk6
             · rename_i j hj
               refine ⟨b, _, _, j, rfl, rfl, hH, by rw [r.length]; exact hj, ?_⟩
               have dn : CR X.K (upd H4 b (.lst _)) (FA fp L4 w4 σ) b (.l (xs.set j q)) := .l upd_same (putStep (.l hH r) (.inr hb) (r.set j d4))
               obtain ⟨S5, n5, _⟩ := fin _ _ dn
               have nn := (n2.trans n3).trans (n4.trans n5)
               exact es.nx _ σ _ hk6 (S5.weak nn.up) nn.s
             · exact False.elim hk6)
end
end Lb
set_option maxHeartbeats 1000000
/-! ## Lb14 -/
/-! Lb14: comprehensions. -/
namespace Lb
open PySem PySem.Spec L2
section
variable {K : PySem.W.Frag} {fp : Fp} {L : Addr → Prop} {w w' : W} {σ σ' : L2.St} {H : Hp}
/-- some slots are other than they were, none of those holds a thing of its own -/
theorem SR.patch (S : SR K fp L w σ H) (ha : w'.a = w.a) (hl : w'.r.length = σ'.length)
    (h : ∀ (i : Nat) (s : Sl), w'.r[i]? = some s → (w.r[i]? = some s ∧ σ'[i]? = σ[i]?) ∨ ((∀ c, s ≠ .o c) ∧ SlR K fp H (FA fp L w σ) w s σ'[i]?)) : SR K fp L w' σ' H ∧ ∀ b, MA fp w' σ' b → MA fp w σ b := by
  have hO : ∀ (j : Nat) (c : CV) (b : Addr), w'.r[j]? = some (.o c) → σ'[j]? = some (some (.ref b)) → w.r[j]? = some (.o c) ∧ σ[j]? = some (some (.ref b)) := fun j c b h1 h2 => by
    rcases h j _ h1 with ⟨q1, q2⟩ | ⟨n, _⟩
    · exact ⟨q1, by rw [← q2]; exact h2⟩
    · exact absurd rfl (n c)
  have hM : ∀ b, MA fp w' σ' b → MA fp w σ b := fun b hb => by
    rcases hb with ⟨j, c, h1, h2⟩ | ⟨j, c, h1, h2⟩
    · obtain ⟨q1, q2⟩ := hO j c b h1 h2
      exact .inl ⟨j, c, q1, q2⟩
    · rw [ha] at h1
      exact .inr ⟨j, c, h1, h2⟩
  have hF : ∀ b, FA fp L w' σ' b → FA fp L w σ b := fun b hb => hb.imp id (hM b)
  refine ⟨⟨hl, fun i s e => ?_, fun j c e => ?_, fun i i' b c c' e1 e2 e3 e4 => ?_, fun j j' b c c' e1 e2 e3 e4 => ?_, fun b hb => S.dis b (hM b hb), S.tr, fun b o e n => S.keep b o e fun ⟨j, c, h1, h2⟩ => n ⟨j, c, by rw [ha]; exact h1, h2⟩⟩, hM⟩
  · rcases h i s e with ⟨q1, q2⟩ | ⟨_, q⟩
    · rw [q2]; exact (S.slot i s q1).weak hF ha
    · exact q.weak hF ha
  · rw [ha] at e
    obtain ⟨b, e1, r, n⟩ := S.arg j c e
    exact ⟨b, e1, r.weak hF, n⟩
  · obtain ⟨a1, a2⟩ := hO _ _ _ e1 e2
    obtain ⟨a3, a4⟩ := hO _ _ _ e3 e4
    exact S.ownI i i' b c c' a1 a2 a3 a4
  · rw [ha] at e1 e3
    exact S.argI j j' b c c' e1 e2 e3 e4
/-- a held-back list is changed -/
theorem SR.putM (S : SR K fp L w σ H) {D : Addr} {o : HO} (hD : L D) (h0 : fp.H0 D = none) (h : (∃ xs, H D = some (.lst xs)) ∨ ∃ kvs, H D = some (.dK kvs)) : SR K fp L w σ (upd H D o) := by
  have stp : Stay (fun z => z = D) H (upd H D o) := Stay.put rfl
  have mM : MutAt (fun z => z = D) H := fun z e => by rw [e]; exact h
  have bF : ∀ z, z = D → FA fp L w σ z := fun z e => by rw [e]; exact .inl hD
  refine ⟨S.len, fun i s e => ?_, fun j c e => ?_, S.ownI, S.argI, S.dis, fun z hz => ?_, fun z o' e n => ?_⟩
  · have sl := S.slot i s e
    cases s with
    | no => trivial
    | d y => obtain ⟨v, e1, r1⟩ := sl; exact ⟨v, e1, DR.step stp mM bF (fun z hz => .inl hz) r1⟩
    | o c2 =>
      obtain ⟨b2, e1, r1, h2⟩ := sl
      refine ⟨b2, e1, CR.step stp mM bF (fun z hz => .inl hz) (fun e' => ?_) r1, h2⟩
      subst e'
      exact S.dis b2 (.inl ⟨i, c2, e, e1⟩) hD
    | a m => exact sl
    | f y => exact sl
    | z ns => obtain ⟨b2, e1, z, r1⟩ := sl; exact ⟨b2, e1, z, stp.frzL mM r1⟩
    | x y => obtain ⟨b2, C, e1, z, r1⟩ := sl; exact ⟨b2, C, e1, z, stp.ext mM r1⟩
  · obtain ⟨b2, e1, r1, h2⟩ := S.arg j c e
    refine ⟨b2, e1, CR.step stp mM bF (fun z hz => .inl hz) (fun e' => ?_) r1, h2⟩
    subst e'
    exact h2 h0
  · by_cases e : z = D
    · rw [e, upd_same]; exact fun z => by cases z
    · rw [upd_ne e]; exact S.tr z hz
  · rw [upd_ne fun e' => ?_]
    · exact S.keep z o' e n
    · rw [e', h0] at e; cases e
end
theorem SR.putL {K : PySem.W.Frag} {fp : Fp} {L : Addr → Prop} {w : W} {σ : L2.St} {H : Hp} (S : SR K fp L w σ H) {D : Addr} {xs : List V} {o : HO} (hD : L D) (h0 : fp.H0 D = none) (h : H D = some (.lst xs)) : SR K fp L w σ (upd H D o) := S.putM hD h0 (.inl ⟨_, h⟩)
/-! ### the block's own slots -/
theorem wipe_in {σ : L2.St} {i : Nat} : ∀ {vs : List Nat}, i ∈ vs → i < σ.length → (wipe σ vs)[i]? = some none
  | v :: vs, h, hi => by
    unfold wipe
    by_cases e : v = i
    · subst e
      exact List.getElem?_set_self (by rw [wipe_length]; exact hi)
    · rw [List.getElem?_set_ne e]
      exact wipe_in ((List.mem_cons.mp h).resolve_left fun z => e z.symm) hi
theorem wipe_eq {σ σ2 : L2.St} {vs us : List Nat} (o : Off us (wipe σ vs) σ2) (h : ∀ i ∈ us, i ∈ vs) : wipe σ2 vs = wipe σ vs := by
  have hl : σ2.length = σ.length := o.1.trans (wipe_length σ vs)
  refine List.ext_getElem? fun i => ?_
  by_cases hi : i ∈ vs
  · by_cases hn : i < σ.length
    · rw [wipe_in hi hn, wipe_in hi (by rw [hl]; exact hn)]
    · rw [List.getElem?_eq_none (by rw [wipe_length]; omega), List.getElem?_eq_none (by rw [wipe_length]; omega)]
  · rw [wipe_out hi, o.2 i fun z => hi (h i z)]
theorem off_out {σ σ2 : L2.St} {vs us : List Nat} (o : Off us (wipe σ vs) σ2) (h : ∀ i ∈ us, i ∈ vs) {i : Nat} (hi : i ∉ vs) : σ[i]? = σ2[i]? := by
  rw [o.2 i fun z => hi (h i z), wipe_out hi]
theorem wipeW_len (w : W) : ∀ vs : List Nat, (wipeW w vs).r.length = w.r.length ∧ (wipeW w vs).a = w.a
  | [] => ⟨rfl, rfl⟩
  | v :: vs => ⟨by show ((wipeW w vs).r.set v .no).length = _; rw [List.length_set]; exact (wipeW_len w vs).1, (wipeW_len w vs).2⟩
theorem wipeW_get {w : W} {i : Nat} {s : Sl} : ∀ {vs : List Nat}, (wipeW w vs).r[i]? = some s → s = .no ∨ (i ∉ vs ∧ w.r[i]? = some s)
  | [], h => .inr ⟨by simp, h⟩
  | v :: vs, h => by
    rcases set_get h with ⟨_, e, _⟩ | ⟨ne, h⟩
    · exact .inl e
    · rcases wipeW_get h with e | ⟨n, q⟩
      · exact .inl e
      · exact .inr ⟨fun z => (List.mem_cons.mp z).elim ne n, q⟩
theorem rest_len (w0 w : W) : ∀ vs : List Nat, (restore w0 w vs).r.length = w.r.length ∧ (restore w0 w vs).a = w.a
  | [] => ⟨rfl, rfl⟩
  | v :: vs => ⟨by show ((restore w0 w vs).r.set v _).length = _; rw [List.length_set]; exact (rest_len w0 w vs).1, (rest_len w0 w vs).2⟩
theorem rest_get {w0 w : W} {i : Nat} {s : Sl} : ∀ {vs : List Nat}, (restore w0 w vs).r[i]? = some s → (i ∈ vs ∧ s = w0.r[i]?.getD .no) ∨ (i ∉ vs ∧ w.r[i]? = some s)
  | [], h => .inr ⟨by simp, h⟩
  | v :: vs, h => by
    rcases set_get h with ⟨e1, e, _⟩ | ⟨ne, h⟩
    · subst e1
      exact .inl ⟨List.mem_cons_self, e⟩
    · rcases rest_get h with ⟨n, e⟩ | ⟨n, q⟩
      · exact .inl ⟨List.mem_cons_of_mem _ n, e⟩
      · exact .inr ⟨fun z => (List.mem_cons.mp z).elim ne n, q⟩
theorem own_ok {w : W} {i : Nat} : ∀ {vs : List Nat}, ownOk w vs → i ∈ vs → w.r[i]? = some .no ∨ ∃ x, w.r[i]? = some (.d x)
  | v :: vs, ⟨h, t⟩, hi => by
    rcases List.mem_cons.mp hi with e | hi
    · subst e
      cases q : w.r[i]? with
      | none => rw [q] at h; exact h.elim
      | some sl =>
        rw [q] at h
        cases sl <;> first
          | exact False.elim h
          | exact .inl rfl
          | exact .inr ⟨_, rfl⟩
    · exact own_ok t hi
section
variable {K : PySem.W.Frag} {fp : Fp} {L L1 : Addr → Prop} {w w1 w5 : W} {σ σ2 : L2.St} {H H1 H5 : Hp}
theorem SR.wiped (S : SR K fp L w σ H) (vs : List Nat) : SR K fp L (wipeW w vs) (wipe σ vs) H ∧ ∀ b, MA fp (wipeW w vs) (wipe σ vs) b → MA fp w σ b :=
  S.patch (wipeW_len w vs).2 (by rw [(wipeW_len w vs).1, wipe_length]; exact S.len) fun i s h => by
    rcases wipeW_get h with rfl | ⟨n, q⟩
    · exact .inr ⟨fun _ z => (by cases z), trivial⟩
    · exact .inl ⟨q, wipe_out n⟩
theorem SR.unwiped (S1 : SR K fp L1 w1 σ H1) (S : SR K fp L w5 σ2 H5) (n : NxS fp w1 σ H1 w5 σ2 H5) (hL : ∀ b, L b → L1 b ∨ H1 b = none) {vs us : List Nat} (ok : ownOk w1 vs) (o : Off us (wipe σ vs) σ2) (hu : ∀ i ∈ us, i ∈ vs) :
    SR K fp L (restore w1 w5 vs) σ H5 ∧ ∀ b, MA fp (restore w1 w5 vs) σ b → MA fp w5 σ2 b := by
  refine S.patch (rest_len w1 w5 vs).2 ?_ fun i s h => ?_
  · rw [(rest_len w1 w5 vs).1, S.len]
    exact o.1.trans (wipe_length σ vs)
  · rcases rest_get h with ⟨hi, rfl⟩ | ⟨ni, q⟩
    · rcases own_ok ok hi with e | ⟨x, e⟩
      · rw [e]; exact .inr ⟨fun _ z => (by cases z), trivial⟩
      · obtain ⟨v, e1, r⟩ := S1.slot i _ e
        rw [e]
        exact .inr ⟨fun _ z => (by cases z), v, e1, r.nextM S1 n hL⟩
    · exact .inl ⟨q, off_out o hu ni⟩
end
/-- no exception leaves -/
def WN : WX := fun _ _ _ _ => False
theorem takes_blk {X : Cx} (hx : X.xe = fun _ _ => False) : Takes X WN := fun u s' ⟨_, _, _, _, _, _, _, _, _, _, _, _, _, _, _, _, w⟩ => False.elim w
theorem EC.no {K : PySem.W.Frag} {fp : Fp} {L : Addr → Prop} {w : W} {σ : L2.St} {H : Hp} {Wx : WX} : EC K fp L w σ H Wx (fun _ _ => False) := fun _ _ _ _ _ _ h => False.elim h
def tC (K : PySem.W.Frag) (Γ : Sg) (fp : Fp) (Wx : WX) (c : SC) : TT := fun σ H Q => ∃ (L : Addr → Prop) (w : W) (ex : KX) (k : Bool → W → Prop), SR K fp L w σ H ∧ EC K fp L w σ H Wx ex ∧ evC Γ c w ex k ∧ BPst K fp σ L w H k Q
theorem PTs.imp {X : Cx} {e : List Expr} {t t' : TT} (h : PTs X e t) (q : ∀ σ H Q, t' σ H Q → t σ H Q) : PTs X e t' := ⟨fun pins s σ H Q I z => h.run pins s σ H Q I (q σ H Q z)⟩
section
variable {X : Cx} {Γ : Sg} {fp : Fp} {Wx : WX}
theorem c_no : PTs X [] (tC X.K Γ fp Wx .no) := PTs.imp pts_nil fun σ H Q ⟨L, w, ex, k, S, ec, h, ep⟩ => ep true w L H h S Nx.refl
theorem c_so {c : Expr} {t : ST} (h : PT X c (tT X.K Γ fp Wx t)) : PTs X [c] (tC X.K Γ fp Wx (.so t)) := PTs.imp (pts_one h) fun σ H Q ⟨L, w, ex, k, S, ec, h, ep⟩ => ⟨L, w, ex, k, S, ec, h, ep⟩
theorem lc_end {si : SI} {st : Tg} {sc : SC} {se : SE} {vs : List Nat} (hu : ∀ i ∈ tgL st, i ∈ vs) {σ : L2.St} {H : Hp} {Q : VK} (q : tE X.K Γ fp Wx (.lc vs se st si sc) σ H Q) : tLc (tI X.K Γ fp Wx si) (tG X.K fp st) (tC X.K Γ fp WN sc) (tE X.K Γ fp WN se) vs σ H Q := by
  obtain ⟨L, w, ex, k, S, ec, h, ep⟩ := q
  refine ⟨L, w, ex, _, S, ec, h, fun v ds w1 L1 H1 J hk S1 n1 ok D hD => ?_⟩
  obtain ⟨own, hk⟩ := hk
  let body : PyData → W → (Option PyData → W → Prop) → Prop := fun x w' ky => tgP st x (wipeW w' vs) fun w2 => evC Γ sc w2 (fun _ _ => False) fun r w3 =>
        if r = true then evE Γ se w3 (fun _ _ => False) fun y w4 => datP w4 y fun q w5 => ky (some q) (restore w1 w5 vs) else ky none (restore w1 w3 vs)
  have hD0 : fp.H0 D = none := S1.h0 hD
  have hM : ∀ b, withA L1 D b → L1 b ∨ H1 b = none := fun b z => z.imp id fun e => by rw [e]; exact hD
  have fresh : ∀ {w' : W} {σ' : L2.St} {H' : Hp} {M : Addr → Prop}, SR X.K fp M w' σ' H' → M D → ¬ MA fp w' σ' D := fun S' l m => S'.dis D m l
  refine ⟨fun i m H' => m = ds.length - i ∧ i ≤ ds.length ∧ ∃ w' accV accD, walkC (sameAs v ds) body (ds.drop i) accD w' (fun acc w' => k (.n (.l acc)) w') ∧ SR X.K fp (withA L1 D) w' σ H' ∧ Nx fp σ L1 w1 H1 (withA L1 D) w' H' ∧ H' D = some (.lst accV) ∧ DRs X.K H' (FA fp (withA L1 D) w' σ) accV accD,
    ⟨ds.length, rfl, Nat.zero_le _, w1, [], [], hk, S1.laid hD, Nx.laid hD, upd_same, .nil⟩, ?_⟩
  rintro i m H2 ⟨rfl, hi, w2, accV, accD, h2, S2, n2, hl2, r2⟩
  by_cases hlt : i < ds.length
  · rw [List.drop_eq_getElem_cons hlt] at h2
    obtain ⟨sm, h2⟩ := h2
    obtain ⟨go, yl⟩ := ok.go (withA L1 D) i w2 σ H2 hM hlt S2 n2.s sm
    refine .inr ⟨go, fun H' => ∃ w' accV accD, walkC (sameAs v ds) body (ds.drop (i + 1)) accD w' (fun acc w' => k (.n (.l acc)) w') ∧ SR X.K fp (withA L1 D) w' σ H' ∧ Nx fp σ L1 w1 H1 (withA L1 D) w' H' ∧ H' D = some (.lst accV) ∧ DRs X.K H' (FA fp (withA L1 D) w' σ) accV accD,
      fun H' z => ⟨ds.length - (i + 1), by omega, rfl, hlt, z⟩, fun x H3 y => ?_⟩
    obtain ⟨d, e, S3, n3, r3⟩ := yl x H3 y
    have e' : d = ds[i] := by rw [List.getElem?_eq_getElem hlt] at e; exact (Option.some.inj e).symm
    subst e'
    have hl3 : H3 D = some (.lst accV) := n3.st D _ hl2 (fresh S2 (.inr rfl))
    have ra3 : DRs X.K H3 (FA fp (withA L1 D) w2 σ) accV accD := r2.nextS S2 n3
    obtain ⟨Sw, mw⟩ := S3.wiped vs
    have nw : NxS fp w2 σ H3 (wipeW w2 vs) (wipe σ vs) H3 := ⟨Stay.refl, fun b hb => .inl (mw b hb), fun _ z => z⟩
    refine ⟨withA L1 D, wipeW w2 vs, _, _, Sw, r3.nextS S3 nw, h2, fun w4 σ4 hk4 S4 n4 off => ⟨wipe_eq off hu, withA L1 D, w4, fun _ _ => False, _, S4, EC.no, hk4, fun b w5 L5 H5 hk5 S5 n5 => ?_⟩⟩
    -- from the turn's start to a later point
    have to : ∀ {w6 : W} {L6 : Addr → Prop} {H6 : Hp}, SR X.K fp L6 w6 σ4 H6 → Nx fp σ4 (withA L1 D) w4 H3 L6 w6 H6 → SR X.K fp (withA L1 D) (restore w1 w6 vs) σ H6 ∧ Nx fp σ L1 w1 H1 (withA L1 D) (restore w1 w6 vs) H6 ∧ H6 D = some (.lst accV) ∧ DRs X.K H6 (FA fp (withA L1 D) (restore w1 w6 vs) σ) accV accD ∧ ∀ b, FA fp (withA L1 D) (restore w1 w6 vs) σ b → FA fp L6 w6 σ4 b := fun {w6 L6 H6} S6 n6 => by
      have S6' := S6.weak n6.up
      have na : NxS fp w1 σ H1 w6 σ4 H6 := n2.s.trans (n3.trans (nw.trans (n4.trans n6.s)))
      obtain ⟨S7, m7⟩ := S1.unwiped S6' na hM own off hu
      have m4 : ∀ b, MA fp w4 σ4 b → MA fp w2 σ b := fun b hb => (n4.ma b hb).elim (mw b) fun z => absurd z (S4.mtr hb)
      have m6 : ∀ b, MA fp (restore w1 w6 vs) σ b → MA fp w2 σ b := fun b hb => m4 b (n6.ma b (m7 b hb))
      have l6 : H6 D = some (.lst accV) := n6.st D _ hl3 (fresh S4 (.inr rfl))
      refine ⟨S7, ⟨na.st, fun b hb => n2.ma b (m6 b hb), fun b z => .inl z, hM, na.ke⟩, l6, ?_, fun b hb => hb.imp (n6.up b) (m7 b)⟩
      exact ra3.step (nw.trans (n4.trans n6.s)).st S3.mut (fun _ z => .inr z) fun b hb => .inl (hb.imp id (m6 b))
    cases b with
    | false =>
      rw [if_neg Bool.false_ne_true] at hk5
      obtain ⟨S7, n7, l7, r7, _⟩ := to S5 n5
      exact ⟨_, accV, accD, hk5, S7, n7, l7, r7⟩
    | true =>
      rw [if_pos rfl] at hk5
      refine ⟨L5, w5, fun _ _ => False, _, S5, EC.no, hk5, fun u w6 y L6 H6 hk6 S6 n6 r6 f6 => ?_⟩
      obtain ⟨q, w7, L7, hk7, S7, n7, dq, _⟩ := dat_end S5 S6 n6 r6 f6 hk6
      obtain ⟨S8, n8, l8, r8, F8⟩ := to S7 (n5.trans n7)
      refine ⟨accV, l8, by rw [r8.length]; exact hk7.1, restore w1 w7 vs, accV ++ [y], accD ++ [q], hk7.2, S8.putL (.inr rfl) hD0 l8, ?_, upd_same, ?_⟩
      · refine ⟨fun b o eo nb => ?_, n8.ma, n8.up, n8.nw, fun b hb => ?_⟩
        · rw [upd_ne fun e => ?_]
          · exact n8.st b o eo nb
          · rw [e, hD] at eo; cases eo
        · by_cases e : b = D
          · rw [e, upd_same]; exact fun z => by cases z
          · rw [upd_ne e]; exact n8.ke b hb
      · exact (r8.append (.cons (dq.weak F8) .nil)).step (M := fun z => z = D) (Stay.put rfl) (fun z e => by rw [e]; exact .inl ⟨_, l8⟩) (fun z e => .inl (.inr e)) fun b hb => .inl hb
  · have e : i = ds.length := by omega
    subst e
    rw [List.drop_length] at h2
    obtain ⟨sm, h2⟩ := h2
    refine .inl ⟨ok.stop (withA L1 D) _ w2 σ H2 hM (Nat.le_refl _) S2 n2.s sm, ?_⟩
    refine ep (.n (.l accD)) w2 (.ref D) (withA L1 D) H2 h2 S2 (n1.trans n2) ⟨D, rfl, .inr rfl, .l hl2 r2⟩ fun b e z => ?_
    cases e
    exact n1.ke D (S.tr D z) hD
theorem r_lc {elt tg iter : Expr} {ifs : List Expr} {scope : Scope} {own : List (Str × Nat)} {pos : Pos} {si : SI} {st : Tg} {sc : SC} {se : SE} (hc : X.calm = true) (hN : X.N.Nodup) (hi : PI X tg iter (tI X.K Γ fp Wx si)) (ok : BlkOk X.N X.env.scope scope own)
    (hg : ∀ (s : Shared) (H : Hp) (C : Addr) (cl : List (Str × Addr)) (fl : List Addr), PG (X.blk s H scope (compEnvC scope cl C X.env) fl) tg (tG X.K fp st)) (ht : ∀ (s : Shared) (H : Hp) (C : Addr) (cl : List (Str × Addr)) (fl : List Addr), PTs (X.blk s H scope (compEnvC scope cl C X.env) fl) ifs (tC X.K Γ fp WN sc))
    (he : ∀ (s : Shared) (H : Hp) (C : Addr) (cl : List (Str × Addr)) (fl : List Addr), PE (X.blk s H scope (compEnvC scope cl C X.env) fl) elt (tE X.K Γ fp WN se)) (hu : ∀ i ∈ tgL st, i ∈ own.map (·.2)) (hs : ∀ x, foldedSetIterable iter X.env x = pure x := by intro _; rfl) :
    PE X (.ListComp elt [⟨tg, iter, ifs, 0⟩] scope pos) (tE X.K Γ fp Wx (.lc (own.map (·.2)) se st si sc)) :=
  PE.imp (pe_lc hc hN hi ok hg ht he hs) fun σ H Q q => lc_end hu q
/-- name = [..], the name plain and local -/
theorem s_setLc {i : Nat} {y : Str} {py : Pos} {elt tg iter : Expr} {ifs : List Expr} {scope : Scope} {own : List (Str × Nat)} {pos spos : Pos} {si : SI} {st : Tg} {sc : SC} {se : SE} (hc : X.calm = true) (hN : X.N.Nodup) (hy : X.N[i]? = some y) (hyl : X.env.scope.names.lookup y = some .local)
    (hsw : swapsWith (.ListComp elt [⟨tg, iter, ifs, 0⟩] scope pos) (some (.Name y py)) spos.line X.env = pure true) (hi : PI X tg iter (tI X.K Γ fp Wx si)) (ok : BlkOk X.N X.env.scope scope own)
    (hg : ∀ (s : Shared) (H : Hp) (C : Addr) (cl : List (Str × Addr)) (fl : List Addr), PG (X.blk s H scope (compEnvC scope cl C X.env) fl) tg (tG X.K fp st)) (ht : ∀ (s : Shared) (H : Hp) (C : Addr) (cl : List (Str × Addr)) (fl : List Addr), PTs (X.blk s H scope (compEnvC scope cl C X.env) fl) ifs (tC X.K Γ fp WN sc))
    (he : ∀ (s : Shared) (H : Hp) (C : Addr) (cl : List (Str × Addr)) (fl : List Addr), PE (X.blk s H scope (compEnvC scope cl C X.env) fl) elt (tE X.K Γ fp WN se)) (hu : ∀ i ∈ tgL st, i ∈ own.map (·.2)) (hs : ∀ x, foldedSetIterable iter X.env x = pure x := by intro _; rfl) :
    PS X (.Assign [.Name y py] (.ListComp elt [⟨tg, iter, ifs, 0⟩] scope pos) spos) (tS X.K Γ fp Wx (.asg (.v i) (.lc (own.map (·.2)) se st si sc))) :=
  PS.imp (ps_setLc hc hN hy hyl hsw hi ok hg ht he hs) fun D σ H ⟨L, w, D', S, ec, h, es⟩ => lc_end hu (one S ec (show evE Γ (.lc (own.map (·.2)) se st si sc) w D'.ex fun v w1 => tgV (.v i) v w1 D'.nx from h) fun v w1 x L1 H1 hk S1 n1 r1 f1 => by
    have hk : bindP w1 i v D'.nx := hk
    obtain ⟨w2, hk2, S2, n2, _⟩ := bind_end S1 n1.s (new_none S n1 r1 f1) r1 hk
    refine es.nx w2 _ H1 hk2 (S2.weak fun b hb => ⟨n1.up b hb, fun c e1 e2 => ?_⟩) n2
    subst e1
    exact f1 b e2 hb)
/-- {k: v}, the key a text -/
theorem r_dic1 {a b : Expr} {sa sb : SE} {pos : Pos} (ha : PE X a (tE X.K Γ fp Wx sa)) (hb : PE X b (tE X.K Γ fp Wx sb)) : PE X (.Dict [some a] [b] pos) (tE X.K Γ fp Wx (.dic1 sa sb)) :=
  PE.imp (pe_disp (pps_cons ha hb pps_nil) rfl rfl (fun z => by cases z) (by show 1 ≤ 15; decide)) fun σ H Q ⟨L, w, ex, k, S, ec, h, ep⟩ => fun p hp => by
    have n0 : Nx fp σ L w H (withA L p) w (upd H p (.dK [])) := Nx.laid hp
    refine one (S.laid hp) (ec.nx n0) h fun v w1 x L1 H1 hk S1 n1 r1 _ => one S1 ((ec.nx n0).nx n1) hk fun u w2 y L2 H2 hk2 S2 n2 r2 f2 => ?_
    obtain ⟨q, e1, hk3⟩ := rdP_some hk2
    have t1 := VR.rd S2 (r1.next S1 n2) e1
    obtain ⟨d, w3, L3, hk4, S3, n3, dq, _⟩ := dat_end S1 S2 n2 r2 f2 hk3
    cases q <;> first
      | exact False.elim hk4
      | (rename_i zz
         obtain ⟨rfl, hz⟩ := t1.str
         have n13 := n1.trans n3
         have hp2 : H2 p = some (.dK []) := n13.st p _ upd_same fun m => (S.laid hp (o := .dK [])).dis p m (.inr rfl)
         have l3 : L3 p := n13.up p (.inr rfl)
         refine ⟨hp2, [(.inr zz, y)], rfl, (by show 1 ≤ 15; decide), ?_⟩
         have dy := DR.step (M := fun z => z = p) (F' := FA fp L3 w3 σ) (H' := upd H2 p (.dK (mergeK [] [(.inr zz, y)]))) (Stay.put rfl) (fun z e => by rw [e]; exact .inr ⟨_, hp2⟩) (fun z e => by rw [e]; exact .inl l3) (fun z hz => .inl hz) dq
         refine ep (.n (.m [(.str zz, d)])) w3 (.ref p) L3 _ hk4 (S3.putM l3 (S.h0 hp) (.inr ⟨_, hp2⟩)) ⟨fun b o eo nb => ?_, (n0.trans n13).ma, (n0.trans n13).up, (n0.trans n13).nw, fun b hb => ?_⟩ ⟨p, rfl, l3, .m upd_same (.str hz dy .nil)⟩ fun b e z => ?_
         · rw [upd_ne fun e => ?_]
           · exact (n0.trans n13).st b o eo nb
           · rw [e, hp] at eo; cases eo
         · by_cases e : b = p
           · rw [e, upd_same]; exact fun z => by cases z
           · rw [upd_ne e]; exact (n0.trans n13).ke b hb
         · cases e
           exact S.tr p z hp)
end
end Lb
set_option maxHeartbeats 1000000
/-! ## Lb15 -/
/-! Lb15: a def keeps its promise, all defs keep theirs. -/
namespace Lb
open PySem PySem.Spec L2
open PyProof.Rows (envOfC)

theorem shp_c : ∀ {ags : List Ag} {cs : List (Option CV)} {j : Nat} {c : CV}, shpB ags cs = true → ags[j]? = some (.c c) → ∃ c', cs[j]? = some (some c')
  | .c a :: r, some b :: t, 0, c, h, e => ⟨b, rfl⟩
  | .c a :: r, some b :: t, j + 1, c, h, e => by simpa using shp_c (ags := r) (cs := t) (j := j) h (by simpa using e)
  | .d a :: r, none :: t, 0, c, h, e => by simp at e
  | .f a :: r, none :: t, 0, c, h, e => by simp at e
  | .z a :: r, none :: t, 0, c, h, e => by simp at e
  | .x a :: r, none :: t, 0, c, h, e => by simp at e
  | .d a :: r, none :: t, j + 1, c, h, e => by simpa using shp_c (ags := r) (cs := t) (j := j) h (by simpa using e)
  | .f a :: r, none :: t, j + 1, c, h, e => by simpa using shp_c (ags := r) (cs := t) (j := j) h (by simpa using e)
  | .z a :: r, none :: t, j + 1, c, h, e => by simpa using shp_c (ags := r) (cs := t) (j := j) h (by simpa using e)
  | .x a :: r, none :: t, j + 1, c, h, e => by simpa using shp_c (ags := r) (cs := t) (j := j) h (by simpa using e)
  | [], _, _, _, h, e => by simp at e
theorem shp_c' : ∀ {ags : List Ag} {cs : List (Option CV)} {j : Nat} {c : CV}, shpB ags cs = true → cs[j]? = some (some c) → ∃ c', ags[j]? = some (.c c')
  | .c a :: r, some b :: t, 0, c, h, e => ⟨a, rfl⟩
  | .c a :: r, some b :: t, j + 1, c, h, e => by simpa using shp_c' (ags := r) (cs := t) (j := j) h (by simpa using e)
  | .d a :: r, none :: t, 0, c, h, e => by simp at e
  | .f a :: r, none :: t, 0, c, h, e => by simp at e
  | .z a :: r, none :: t, 0, c, h, e => by simp at e
  | .x a :: r, none :: t, 0, c, h, e => by simp at e
  | .d a :: r, none :: t, j + 1, c, h, e => by simpa using shp_c' (ags := r) (cs := t) (j := j) h (by simpa using e)
  | .f a :: r, none :: t, j + 1, c, h, e => by simpa using shp_c' (ags := r) (cs := t) (j := j) h (by simpa using e)
  | .z a :: r, none :: t, j + 1, c, h, e => by simpa using shp_c' (ags := r) (cs := t) (j := j) h (by simpa using e)
  | .x a :: r, none :: t, j + 1, c, h, e => by simpa using shp_c' (ags := r) (cs := t) (j := j) h (by simpa using e)
  | [], [], _, _, h, e => by simp at e
section
variable {K : PySem.W.Frag} {fa : Str → Option Addr} {H H' : Hp} {L M M' : Addr → Prop} {w' : W} {σ' : L2.St} {ags : List Ag} {vs : List V}
theorem cat_arg (sh : shpB ags w'.a = true) {b : Addr} : CAt ags vs b ↔ ArgAt ⟨fa, vs, H⟩ w' b := ⟨fun ⟨j, c, h1, h2⟩ => by
  obtain ⟨c', e⟩ := shp_c sh h1
  exact ⟨j, c', e, h2⟩, fun ⟨j, c, h1, h2⟩ => by
  obtain ⟨c', e⟩ := shp_c' sh h1
  exact ⟨j, c', e, h2⟩⟩
theorem back_of (S : SR K ⟨fa, vs, H⟩ M w' σ' H') (sh : shpB ags w'.a = true) (up : ∀ b, L b → M' b) (nw : ∀ b, M' b → L b ∨ H b = none) (tr : ∀ b, M' b → H' b ≠ none) (hF : ∀ b, M' b → FA ⟨fa, vs, H⟩ M w' σ' b) : Back K fa L ags vs H w'.a M' H' := by
  refine ⟨fun b o e n => S.keep b o e fun q => n ((cat_arg sh).mpr q), up, nw, tr, fun j c e => ?_, fun j => ⟨fun ⟨c, e⟩ => shp_c' sh e, fun ⟨c, e⟩ => shp_c sh e⟩⟩
  obtain ⟨b, e1, r, _⟩ := S.arg j c e
  exact ⟨b, e1, r.weak fun z hz => hz.elim (hF z) fun q => .inr (.inr ((cat_arg sh).mp q))⟩
end
/-- what a def's body may lean on -/
structure Cond (X : Cx) (Γ : Sg) (fp : Fp) (Wx : WX) (k : Nat) (T : Str → Option Df) : Prop where
  gd : X.A.guards = some []
  rm : Room k X.A
  tk : Takes X Wx
  kn : ∀ (x : Str) (d : Df), T x = some d → Knows X Γ fp k x x d.ps
  ft : ∀ (y : Str) (f : Addr), fp.fa y = some f → XCL.contains y = false → ∃ d, T y = some d
theorem Cond.hu {X : Cx} {Γ : Sg} {fp : Fp} {Wx : WX} {k : Nat} {T : Str → Option Df} (C : Cond X Γ fp Wx k T) : X.A.units + 64 < cLine := by have := C.rm.un; omega
theorem Cond.blk {X : Cx} {Γ : Sg} {fp : Fp} {Wx : WX} {k : Nat} {T : Str → Option Df} (C : Cond X Γ fp Wx k T) (s : Shared) (H : Hp) (scope : Scope) (env : Env) (fl : List Addr) : Cond (X.blk s H scope env fl) Γ fp WN k T :=
  ⟨C.gd, C.rm, takes_blk rfl, fun x d h => ⟨(C.kn x d h).ex, (C.kn x d h).len⟩, C.ft⟩
theorem Cond.kv {X : Cx} {Γ : Sg} {fp : Fp} {Wx : WX} {k : Nat} {T : Str → Option Df} (C : Cond X Γ fp Wx k T) : ∀ y f, fp.fa y = some f → XCL.contains y = false → ∃ n, PySem.W.keepIn X.K (.ref f) = true ∧ FnG X.prog X.w X.K X.mg X.base k f (spD X.K fp.fa n (Γ.call y)) ∧ ∀ (ags : List Ag) (Q : Rv → List (Option CV) → Prop) (E : Exn → List (Option CV) → Prop), Γ.call y ags Q E → ags.length = n := fun y f hf hy => by
  obtain ⟨d, hd⟩ := C.ft y f hf hy
  obtain ⟨⟨f', h1, h2, h3, h4⟩, h5⟩ := C.kn y d hd
  rw [hf] at h2
  cases h2
  exact ⟨d.ps, h3, h4, h5⟩
theorem sem_len {T : Str → Option Df} {con : Str → Option PyData} {k : Nat} {y : Str} {d : Df} (hT : T y = some d) (ags : List Ag) (Q : Rv → List (Option CV) → Prop) (E : Exn → List (Option CV) → Prop) (h : sem T con k y ags Q E) : ags.length = d.ps := by
  cases k with
  | zero => exact False.elim h
  | succ k =>
    obtain ⟨d', e, h⟩ := optP_some h
    rw [hT] at e; cases e
    exact h.1
section
variable {P : Program} {w : World} {K : PySem.W.Frag} {mg : Str → Option Value} {base : Heap}
theorem FnG.of {x qual : Str} {st : Stmt} {f : Addr} {fd : FuncData} {N ps : List Str} {fa : Str → Option Addr} {T : Str → Option Df} {con : Str → Option PyData} {k : Nat} {y : Str} {d : Df}
    (F : Fun K x qual st f fd) (S : FnScope N ps (defScope st)) (b : Binds K fd ps []) (hT : T y = some d) (hn : d.n = N.length) (hp : d.ps = ps.length) (hle : ps.length ≤ N.length)
    (hft : ∀ (y : Str) (f : Addr), fa y = some f → XCL.contains y = false → ∃ d, T y = some d)
    (kn : ∀ (x : Str) (d : Df), T x = some d → ∃ f : Addr, mg x = some (.ref f) ∧ fa x = some f ∧ PySem.W.keepIn K (.ref f) = true ∧ FnG P w K mg base k f (spD K fa d.ps (sem T con k x)))
    (hder : ∀ (cdv : Value) (A : Around) (outer : List Env) (s : Shared) (H : Hp) (vs : List V) (E : XK) (Wx : WX), Cond (cxOf (L2.CX P w) P w K mg base N qual (defScope st) f cdv A outer s H E) ⟨sem T con k, con⟩ ⟨fa, vs, H⟩ Wx k T →
      PassesOwn (model P w) (A.deeper (envOfC qual (defScope st) s.heap.objs.size f cdv)) (envOfC qual (defScope st) s.heap.objs.size f cdv) (cxOf (L2.CX P w) P w K mg base N qual (defScope st) f cdv A outer s H E).xe →
      PSs (cxOf (L2.CX P w) P w K mg base N qual (defScope st) f cdv A outer s H E) (defBody st) (tSs K ⟨sem T con k, con⟩ ⟨fa, vs, H⟩ Wx d.body)) : FnG P w K mg base (k + 1) f (spD K fa d.ps (sem T con (k + 1) y)) := by
  refine FnG.mk' F S b (fun vs H Q E h => h.1.trans hp) fun cdv A outer s H vs Q E hg hr hsp => ?_
  obtain ⟨hl, L, ags, Qp, Ep, ar, dis, tr, inj, hs, hQ, hE⟩ := hsp
  obtain ⟨d', e, hs⟩ := optP_some hs
  rw [hT] at e; cases e
  obtain ⟨hlen, hev⟩ := hs
  have C : Cond (cxOf (L2.CX P w) P w K mg base N qual (defScope st) f cdv A outer s H E) ⟨sem T con k, con⟩ ⟨fa, vs, H⟩ (fun cls dd _ H' => E cls dd H') k T :=
    ⟨hg, hr, takes_of rfl rfl rfl rfl, fun x d h => ⟨by
      obtain ⟨f, h1, h2, h3, h4⟩ := kn x d h
      exact ⟨f, h1, h2, h3, h4⟩, sem_len h⟩, hft⟩
  refine ⟨tSs K ⟨sem T con k, con⟩ ⟨fa, vs, H⟩ (fun cls dd _ H' => E cls dd H') d.body, hder cdv A outer s H vs E _ C (passes_of (X := cxOf (L2.CX P w) P w K mg base N qual (defScope st) f cdv A outer s H E) rfl), L, startW d.n ags, dEnds ags Qp Ep, ?_, ?_, hev, ?_⟩
  · rw [hn]
    exact start_SR (by rw [hlen, hp]; exact hle) ar dis tr inj
  · intro ee w' σ' H' c dd hx S' n' xr
    have hx : shpB ags w'.a = true ∧ Ep ee w'.a := hx
    exact hE ee w'.a c dd L H' hx.2 (back_of S' hx.1 (fun _ z => z) (fun _ z => .inl z) S'.tr fun _ z => .inl z) xr
  · refine ⟨fun w' σ' H' hx S' n' => ?_, fun v w' x M σ' H' hx S' n' up nw r f => ?_, fun _ _ _ z => False.elim z, fun _ _ _ z => False.elim z⟩
    · have hx : shpB ags w'.a = true ∧ Qp (.d .none) w'.a := hx
      exact hQ (.d .none) w'.a .non L H' hx.2 (back_of S' hx.1 (fun _ z => z) (fun _ z => .inl z) S'.tr fun _ z => .inl z) .non
    · obtain ⟨sh, hx⟩ := hx
      obtain ⟨rv, er, hx⟩ := optP_some hx
      have B : Back K fa L ags vs H w'.a M H' := back_of S' sh up nw S'.tr fun _ z => .inl z
      have hF : ∀ z, M z ∨ CAt ags vs z → FA ⟨fa, vs, H⟩ M w' σ' z := fun z hz => hz.imp id fun q => .inr ((cat_arg sh).mp q)
      cases v with
      | d y =>
        cases er
        exact hQ _ _ _ M H' hx B (DR.weak r hF)
      | n c =>
        cases er
        obtain ⟨b, rfl, hb, rc⟩ := r
        exact hQ _ _ _ M H' hx B ⟨b, rfl, hb, (nw b hb).elim (fun z => absurd z (f b rfl)) id, rc.weak hF⟩
      | f y =>
        cases er
        exact hQ _ _ _ M H' hx B r
      | z ns => cases er
      | x y => cases er
      | a j =>
        unfold rvOf at er
        simp only at er
        cases q : w'.a[j]? with
        | none => rw [q] at er; cases er
        | some oc =>
          rw [q] at er
          cases oc with
          | none => cases er
          | some c =>
            cases er
            exact hQ _ _ _ M H' hx B ⟨r, c, q⟩
      | s i =>
        have r : σ'[i]? = some (some x) := r
        unfold rvOf at er
        simp only at er
        cases q : w'.r[i]? with
        | none => rw [q] at er; cases er
        | some sl =>
          rw [q] at er
          cases sl with
          | o c =>
            cases er
            obtain ⟨b, e1, rc, h0⟩ := S'.slot i _ q
            rw [r] at e1; cases e1
            have hb : FA ⟨fa, vs, H⟩ M w' σ' b := .inr (.inl ⟨i, c, q, r⟩)
            have B' : Back K fa L ags vs H w'.a (withA M b) H' := back_of S' sh (fun z hz => .inl (up z hz)) (fun z hz => hz.elim (nw z) fun e => .inr (by rw [e]; exact h0)) (fun z hz => hz.elim (S'.tr z) fun e => by rw [e]; exact rc.some) fun z hz => hz.elim .inl fun e => by rw [e]; exact hb
            exact hQ _ _ _ (withA M b) H' hx B' ⟨b, rfl, .inr rfl, h0, rc.weak fun z hz => hz.elim (fun q => q.elim .inl fun e => by rw [e]; exact hb) fun q => .inr (.inr ((cat_arg sh).mp q))⟩
          | d y =>
            cases er
            obtain ⟨v', e1, d1⟩ := S'.slot i _ q
            rw [r] at e1; cases e1
            exact hQ _ _ _ M H' hx B (d1.weak hF)
          | _ => cases er
/-- all defs of the text keep their promise, k deep -/
def AllG (P : Program) (w : World) (K : PySem.W.Frag) (mg : Str → Option Value) (base : Heap) (fa : Str → Option Addr) (T : Str → Option Df) (con : Str → Option PyData) (k : Nat) : Prop :=
  ∀ (x : Str) (d : Df), T x = some d → ∃ f : Addr, mg x = some (.ref f) ∧ fa x = some f ∧ PySem.W.keepIn K (.ref f) = true ∧ FnG P w K mg base k f (spD K fa d.ps (sem T con k x))
theorem allG {fa : Str → Option Addr} {T : Str → Option Df} {con : Str → Option PyData} (h0 : ∀ (x : Str) (d : Df), T x = some d → ∃ f : Addr, mg x = some (.ref f) ∧ fa x = some f ∧ PySem.W.keepIn K (.ref f) = true)
    (hs : ∀ k, AllG P w K mg base fa T con k → AllG P w K mg base fa T con (k + 1)) : ∀ k, AllG P w K mg base fa T con k
  | 0 => fun x d h => by
    obtain ⟨f, h1, h2, h3⟩ := h0 x d h
    exact ⟨f, h1, h2, h3, ⟨fun A outer s H us vs Q E _ _ _ _ hsp => by
      obtain ⟨_, L, ags, Qp, Ep, _, _, _, _, hs, _⟩ := hsp
      exact False.elim hs⟩⟩
  | k + 1 => hs k (allG h0 hs k)
end
end Lb
set_option maxHeartbeats 1000000
/-! ## Lb16 -/
/-! Lb16: from what the text's law does to plain data to what the row states. -/
namespace Lb
open PySem PySem.Spec L2
open PyProof.Rows (envOfC)
open PyProof.Rows

/-- the law, called by nobody, its script handed in -/
theorem law_G {P : Program} {w : World} {K : PySem.W.Frag} {mg mb : Str → Option Value} {k : Nat} {fa a : Addr} {sp : Sp} {t : Shared} {us : List Value} {ns : List Int}
    (KX : K.In t.heap) (hns : t.heap.Ns mainGlobals mg) (hb : t.heap.Ns builtinsNs mb) (hbb : ∀ x : Str, x ≠ "__name__" → mb x = bootBuiltins x) (hlim : t.heap.NoLimit) (hg : t.gens = #[])
    (ha : t.heap.get? a = some { cls := .type "list", data := .seq us.toArray }) (hi : IntsAre us ns) (hl : ns.length ≤ sizeLine) (hr : Room k callerA)
    (F : ∀ base : Heap, K.In base → base.Ns mainGlobals mg → FnG P w K mg base k fa sp)
    (hsp : ∀ H : Hp, Only H → SqL K H a (ns.map V.int) → sp [.ref a] H (fun v _ => v = .bl true) fun _ _ _ => False) :
    codeAny (model P w) callerA (.call (.ref fa) ⟨[.ref a], []⟩) (fun r u => r = .ok (.ret (.bool true)) ∧ OldK t.heap u.heap ∧ u.os = t.os ∧ AllBare u.gens) t := by
  have rv := vals_ints hi
  have core : ∀ H : Hp, Only H → SqL K H a (ns.map V.int) → HOk P w H t.heap → (∀ b, H b ≠ none → b = a) → (H a ≠ none → K.lookup a = none) →
      codeAny (model P w) callerA (.call (.ref fa) ⟨[.ref a], []⟩) (fun r u => r = .ok (.ret (.bool true)) ∧ OldK t.heap u.heap ∧ u.os = t.os ∧ AllBare u.gens) t := by
    intro H hO hS hok hA hK
    have low : ∀ {b : Addr} {o : Obj}, t.heap.get? b = some o → H b = none → (hidT t.heap H).get? b = some o := fun e n => hidT_get e n
    have free : ∀ {b : Addr}, b ≠ a → H b = none := fun {b} ne => by
      cases q : H b with
      | none => rfl
      | some u => exact absurd (hA b (by rw [q]; exact fun z => by cases z)) ne
    have nsK : ∀ {b : Addr} {m : Str → Option Value}, t.heap.Ns b m → (hidT t.heap H).Ns b m := fun {b m} ⟨o, es, ep, e, d, r⟩ => by
      refine ⟨o, es, ep, low e (free fun z => ?_), d, r⟩
      subst z
      rw [ha] at e; cases e
      have d' : Data.seq us.toArray _ = Data.dict es ep := d
      cases d'
    have inK : K.In (hidT t.heap H) := fun b o e => low (KX b o e) (by
      cases q : H b with
      | none => rfl
      | some u =>
        have eb : b = a := hA b (by rw [q]; exact fun z => by cases z)
        rw [← eb] at hK
        rw [hK (by rw [q]; exact fun z => by cases z)] at e
        cases e)
    have md : Mod K mg (hidT t.heap H) := ⟨inK, nsK hns, ⟨mb, nsK hb, hbb⟩, let ⟨mc, h1, h2⟩ := hlim; ⟨mc, nsK h1, h2⟩⟩
    have ev : Env0 P w K mg (hidT t.heap H) callerA [] t H := ⟨rfl, md, fun b o e => of_hidT e, Nat.le_of_eq (hidT_size _ _), trivial, (fun b hb => (List.not_mem_nil (show b ∈ ([] : List Addr) from hb)).elim), hok, AllBare.of_eq hg⟩
    refine codeAny_mono ((F _ inK (nsK hns)).run callerA [] t H [.ref a] [.ref a] _ _ rfl hr ev (.cons rfl .nil) (hsp H hO hS)) fun r u h => ?_
    cases r with
    | error e =>
      obtain ⟨_, _, _, _, _, _, _, _, _, _, _, _, no⟩ := h
      exact False.elim no
    | ok fl =>
      cases fl with
      | ret x =>
        obtain ⟨v, H', os, bare, un, hok', rx, q⟩ := h
        have q' : v = .bl true := q
        subst q'
        obtain rfl : x = Value.bool true := rx
        refine ⟨rfl, OldK.of_keep fun b o e => ?_, os, bare⟩
        cases q : H b with
        | none => exact un.keep b o e q (fun z => List.not_mem_nil (show b ∈ ([] : List Addr) from z)) List.not_mem_nil
        | some y =>
          rcases hO b with z | ⟨ob, xs, z⟩
          · rw [q] at z; cases z
          · have z2 := un.frzs b ob _ z
            have e1 := (hok b _ z).1
            have e2 := (hok' b _ z2).1
            rw [e] at e1
            cases e1
            exact e2
      | _ => exact False.elim h
  cases hk : K.lookup a with
  | some o =>
    have e := KX a o hk
    rw [ha] at e
    cases e
    have hsz : us.toArray.size ≤ sizeLine := by
      rw [List.size_toArray, hi.length]
      exact hl
    exact core (fun _ => none) (fun _ => .inl rfl) (.inr ⟨_, us.toArray, _, hk, rfl, rfl, rfl, hsz, by simpa using rv⟩)
      (fun b u z => by
        have z' : (none : Option HO) = some u := z
        cases z')
      (fun b z => absurd rfl z) fun z => absurd rfl z
  | none =>
    have at_ : ∀ b : Addr, (b = a ∧ (if b = a then some (HO.frz { cls := .type "list", data := .seq us.toArray } (.lst (ns.map V.int))) else none) = some (HO.frz { cls := .type "list", data := .seq us.toArray } (.lst (ns.map V.int)))) ∨
        (b ≠ a ∧ (if b = a then some (HO.frz { cls := .type "list", data := .seq us.toArray } (.lst (ns.map V.int))) else none) = none) := fun b => by
      by_cases e : b = a
      · exact .inl ⟨e, if_pos e⟩
      · exact .inr ⟨e, if_neg e⟩
    refine core (fun b => if b = a then some (.frz { cls := .type "list", data := .seq us.toArray } (.lst (ns.map V.int))) else none) (fun b => ?_)
      (.inl (.inr ⟨{ cls := .type "list", data := .seq us.toArray }, if_pos rfl⟩)) (fun b u z => ?_) (fun b z => ?_) fun _ => hk
    · rcases at_ b with ⟨_, q⟩ | ⟨_, q⟩
      · exact .inr ⟨_, _, q⟩
      · exact .inl q
    · rcases at_ b with ⟨e, q⟩ | ⟨_, q⟩
      · have z' := q.symm.trans z
        cases z'
        subst e
        exact ⟨ha, by rw [List.length_map]; exact hl, us, _, rv, ha⟩
      · have z' := q.symm.trans z
        cases z'
    · rcases at_ b with ⟨e, _⟩ | ⟨_, q⟩
      · exact e
      · exact absurd q z
/-- the script stands: the promise of law, from what sem says of its ints -/
theorem sp_law {K : PySem.W.Frag} {fa : Str → Option Addr} {T : Str → Option Df} {con : Str → Option PyData} {k : Nat} {y : Str} {H : Hp} {a : Addr} {ns : List Int} (hl : ns.length ≤ sizeLine) (hO : Only H) (hS : SqL K H a (ns.map V.int))
    (h : sem T con k y [.z ns] (fun r _ => r = .d (.bool true)) (fun _ _ => False)) : spD K fa 1 (sem T con k y) [.ref a] H (fun v _ => v = .bl true) fun _ _ _ => False := by
  refine ⟨rfl, fun _ => False, [.z ns], _, _, ⟨⟨a, rfl, hl, ?_⟩, trivial⟩, fun b ⟨j, c, h1, _⟩ => ?_, fun _ z => z.elim, fun j j' b c c' h1 => ?_, h, fun r cs v L' H' e _ rr => ?_, fun _ _ _ _ _ _ z => False.elim z⟩
  · rcases hS with (q | q) | q
    · rcases hO a with z | ⟨_, _, z⟩
      · rw [q] at z; cases z
      · rw [q] at z; cases z
    · exact .inl q
    · exact .inr q
  · cases j with
    | zero => cases h1
    | succ j => simp at h1
  · cases j with
    | zero => cases h1
    | succ j => simp at h1
  · subst e
    cases rr
    rfl
/-- the case hc of the head -/
theorem walkG {l : PySem.W.OpenLaw} {n k : Nat} {q : Program} {loose : List Str} {XP : (Str → Option Value) → Heap → Prop} {YP : World → Heap → Prop} {d : DefRec} {K : Params → PySem.W.Frag} {T : Str → Option Df} {con : Str → Option PyData} {y : Str}
    (hn : l.most = some n) (hn2 : n ≤ sizeLine) (hdf : d.params.defaults = []) (hr : Room k callerA) (hY : ∀ (w : World) (h : Heap), YP w h → (K w.params).In h)
    (F : ∀ (w : World) (mg : Str → Option Value) (f : Addr) (h : Heap), (K w.params).In h → h.Ns mainGlobals mg → mg d.name = some (.ref f) →
      ∃ fa : Str → Option Addr, ∀ base : Heap, (K w.params).In base → base.Ns mainGlobals mg → FnG l.prog w (K w.params) mg base k f (spD (K w.params) fa 1 (sem T con k y)))
    (hsp : ∀ ns : List Int, ns.length ≤ n → sem T con k y [.z ns] (fun r _ => r = .d (.bool true)) (fun _ _ => False)) : PySem.W.WalkO q loose XP YP l.row.toRowW d [] (fun f vs => PySem.call f vs) := by
  refine Att.attach_call hn hdf fun w s0 t mg mb f o pm cd doc a us ns G Y ho hd hcd hmg hobj hints hlen hgn => ?_
  obtain ⟨fa, hF⟩ := F w mg f _ (hY w _ Y) G.T.g hmg
  exact law_G (hY w _ Y) G.T.g G.T.b G.T.builtins G.T.nolimit hgn hobj hints (Nat.le_trans hlen hn2) hr hF fun H hO hS => sp_law (Nat.le_trans hlen hn2) hO hS (hsp ns hlen)
end Lb
set_option maxHeartbeats 1000000
/-! ## Lb17 -/
/-! Lb17: exceptions: raise, try .. except .. as, isinstance of a caught one. -/
namespace Lb
open PySem PySem.Spec L2 PyProof.Rows

/-! words without a meaning: where nothing goes -/
section
variable {X : Cx} {Γ : Sg} {fp : Fp} {Wx : WX}
theorem r_stuck {e : Expr} : PE X e (tE X.K Γ fp Wx .stuck) := ⟨fun pins s σ H Q I ⟨L, w, ex, k, S, ec, h, ep⟩ => False.elim h⟩
theorem s_stuck {e : Stmt} : PS X e (tS X.K Γ fp Wx .stuck) := ⟨fun pins s σ H D I ⟨L, w, D', S, ec, h, es⟩ => False.elim h⟩
end
/-! ### the classes -/
def veT : List Value := [.type "ValueError", .type "Exception", .type "BaseException", .type "object"]
/-- what isinstance and except ask of a class -/
def xcOne (K : PySem.W.Frag) (C : Addr) : Bool :=
  (PySem.W.clsIn K C).isSome && (PySem.W.findIn K (.ref C) "__getattribute__" == some (some (.builtin "BaseException.__getattribute__"))) && (PySem.W.findIn K (.ref C) "__getattr__").isSome &&
  (PySem.W.subIn K (.ref C) (.type "BaseException") == some true) && (PySem.W.findIn K (.ref C) "__class__" == some (some (.builtin "object.__class__"))) &&
  (PySem.W.specialIn K (.builtin "object.__class__") "__get__" == some (some (.builtin "getset_descriptor.__get__"))) && (PySem.W.takesIn K (.builtin "object.__class__") == some true) &&
  (PySem.W.mroIn K C (.type "object") == some true) && (PySem.W.typeIn K (.ref C) == some (.type "type")) && PySem.W.keepIn K (.ref C)
def xcB (K : PySem.W.Frag) (l : List (Str × Addr)) : Bool := l.all fun p => xcOne K p.2 && (PySem.W.kitOne K (.ref p.2) (.type "ValueError") == some (subX p.1 "ValueError")) &&
  l.all fun q => (PySem.W.kitOne K (.ref p.2) (.ref q.2) == some (subX p.1 q.1)) && (PySem.W.exmOne K (.ref p.2) (.ref q.2) == some (subX p.1 q.1))
structure Xcs (K : PySem.W.Frag) (mg : Str → Option Value) (fa : Str → Option Addr) (l : List (Str × Addr)) : Prop where
  ok : xcB K l = true
  mg : ∀ p ∈ l, mg p.1 = some (.ref p.2)
  back : ∀ (c : Str) (C : Addr), c ∈ XCL → fa c = some C → (c, C) ∈ l
  fa : ∀ p ∈ l, fa p.1 = some p.2
section
variable {K : PySem.W.Frag} {mg : Str → Option Value} {fa : Str → Option Addr} {l : List (Str × Addr)}
theorem Xcs.one (x : Xcs K mg fa l) {p : Str × Addr} (h : p ∈ l) : xcOne K p.2 = true := by
  have := List.all_eq_true.mp x.ok p h
  rw [Bool.and_eq_true, Bool.and_eq_true] at this
  exact this.1.1
theorem Xcs.ve (x : Xcs K mg fa l) {p : Str × Addr} (h : p ∈ l) : PySem.W.kitOne K (.ref p.2) (.type "ValueError") = some (subX p.1 "ValueError") := by
  have := List.all_eq_true.mp x.ok p h
  rw [Bool.and_eq_true, Bool.and_eq_true] at this
  exact beq_iff_eq.mp this.1.2
theorem Xcs.kit (x : Xcs K mg fa l) {p q : Str × Addr} (h : p ∈ l) (h2 : q ∈ l) : PySem.W.kitOne K (.ref p.2) (.ref q.2) = some (subX p.1 q.1) := by
  have := List.all_eq_true.mp x.ok p h
  rw [Bool.and_eq_true, Bool.and_eq_true] at this
  have := List.all_eq_true.mp this.2 q h2
  rw [Bool.and_eq_true] at this
  exact beq_iff_eq.mp this.1
theorem Xcs.exm (x : Xcs K mg fa l) {p q : Str × Addr} (h : p ∈ l) (h2 : q ∈ l) : PySem.W.exmOne K (.ref p.2) (.ref q.2) = some (subX p.1 q.1) := by
  have := List.all_eq_true.mp x.ok p h
  rw [Bool.and_eq_true, Bool.and_eq_true] at this
  have := List.all_eq_true.mp this.2 q h2
  rw [Bool.and_eq_true] at this
  exact beq_iff_eq.mp this.2
theorem xc_parts {C : Addr} (h : xcOne K C = true) : (PySem.W.clsIn K C).isSome = true ∧ PySem.W.findIn K (.ref C) "__getattribute__" = some (some (.builtin "BaseException.__getattribute__")) ∧ (∃ gt, PySem.W.findIn K (.ref C) "__getattr__" = some gt) ∧
    PySem.W.subIn K (.ref C) (.type "BaseException") = some true ∧ PySem.W.findIn K (.ref C) "__class__" = some (some (.builtin "object.__class__")) ∧ PySem.W.specialIn K (.builtin "object.__class__") "__get__" = some (some (.builtin "getset_descriptor.__get__")) ∧
    PySem.W.takesIn K (.builtin "object.__class__") = some true ∧ PySem.W.mroIn K C (.type "object") = some true ∧ PySem.W.typeIn K (.ref C) = some (.type "type") ∧ PySem.W.keepIn K (.ref C) = true := by
  unfold xcOne at h
  simp only [Bool.and_eq_true, beq_iff_eq] at h
  obtain ⟨⟨⟨⟨⟨⟨⟨⟨⟨h1, h2⟩, h3⟩, h4⟩, h5⟩, h6⟩, h7⟩, h8⟩, h9⟩, h10⟩ := h
  exact ⟨h1, h2, Option.isSome_iff_exists.mp h3, h4, h5, h6, h7, h8, h9, h10⟩
end
/-! ### raise -/
section
variable {X : Cx} {Γ : Sg} {fp : Fp} {Wx : WX} {l : List (Str × Addr)}
theorem s_rais {x m : Str} {C : Addr} {j : Nat} {p p2 pos pos' : Pos} (hc : X.calm = true) (tk : Takes X Wx) (xs : Xcs X.K X.mg fp.fa l) (hl : (x, C) ∈ l) (hx : x ∈ XCL) (q : PySem.W.excIn X.K C veT "ValueError.__new__" = true) (hg : Gl X x)
    (hdb : (x == ("__debug__" : Str)) = false := by decide) : PS X (.Raise (some (.Call (.Name x p) [.Constant (.str m) j p2] [] pos)) none pos') (tS X.K Γ fp Wx (.rais x)) := by
  obtain ⟨_, _, _, h4, _, _, _, _, h9, h10⟩ := xc_parts (xs.one hl)
  refine PS.imp (ps_raise hc tk (pmk_own PySem.F.excBase_ValueError q (xs.mg _ hl) h10 (raises_own h4 h9) hg hdb)) fun D σ H ⟨L, w, D', S, ec, h, es⟩ => ?_
  exact ec ⟨x, .none⟩ w σ H _ _ h S NxS.refl ⟨C, xs.fa _ hl, rfl, hx, fun _ => rfl⟩
/-! ### isinstance of a caught exception -/
theorem call_isx : CallR X (.builtin "isinstance") (fun vs H Q => ∃ (a C : Addr) (c : V) (u : Value) (b : Bool), vs = [.ref a, c] ∧ ClsV c u ∧ H a = some (XO (.ref C) a) ∧ xcOne X.K C = true ∧ PySem.W.kitOne X.K (.ref C) u = some b ∧ Q (.bl b) H) := by
  intro pins s σ H vs us Q I r h
  obtain ⟨a, C, c, u, b, rfl, k, ha, hx, e, q⟩ := h
  obtain ⟨u1, u2, rfl, r1, r2⟩ := vals2 r
  have e2 := k.eq r2
  subst e2
  cases (show u1 = Value.ref a from r1)
  obtain ⟨h1, h2, ⟨gt, h3⟩, h4, h5, h6, h7, h8, _, _⟩ := xc_parts hx
  obtain ⟨⟨oe, vs, eo, ec, ed, ef⟩, _⟩ := (show ObjOk X.prog X.w H s.heap a (XO (.ref C) a) from I.hok a _ ha)
  have J : PySem.W.InstAt s.heap a oe C none := ⟨eo, ec, by unfold PySem.W.notCls; rw [ef], by rw [ed]; trivial⟩
  exact PySem.W.kia_one (PySem.W.kitx_exc (ox := oe) (od := none) h1 h2 h3 h4 h5 h6 h7 h8) I.kIn J e (fun z => nomatch z) fun tk => ⟨.bl b, H, I.tok tk, rfl, q⟩
theorem r_isx {x : Str} {C : Addr} {e : Expr} {se : SE} {p p2 pos : Pos} (xs : Xcs X.K X.mg fp.fa l) (hl : (x, C) ∈ l) (hg : Gl X "isinstance") (hm : X.mg "isinstance" = none) (hg2 : Gl X x) (ha : PE X e (tE X.K Γ fp Wx se)) (hdb : (x == ("__debug__" : Str)) = false := by decide)
    (hs : starEach (e :: [.Name x p2]) X.env = (false, eval e X.env) :: starEach [.Name x p2] X.env := by rfl) (hs2 : starEach (.Name x p2 :: []) X.env = (false, eval (.Name x p2) X.env) :: starEach [] X.env := by rfl) (hpl : (backTo pos (starEach [.Name x p2] X.env)).any (·.1) = false := by rfl)
    (hX : ∀ (e : Exn) (b : Bool), True := by intros; trivial) : PE X (.Call (.Name "isinstance" p) [e, .Name x p2] [] pos) (tE X.K Γ fp Wx (.isx se x)) :=
  PE.imp (pe_callB call_isx hg hm PyProof.Rows.boot_isinstance (pa_cons ha (pa_cons (pe_glob (v := .ref C) hg2 (xs.mg _ hl) rfl hdb) pa_nil hs2) hs) (by decide) (by decide) hs hpl) fun σ H Q ⟨L, w, ex, k, S, ec, h, ep⟩ => one S ec h fun v w1 y L1 H1 hk S1 n1 r1 _ => by
    cases v with
    | x e =>
      obtain ⟨b, C0, rfl, hf, ho⟩ := r1
      obtain ⟨hx, hk⟩ : e.cls ∈ XCL ∧ k (.d (.bool (subX e.cls x))) w1 := hk
      have hp := xs.back _ _ hx hf
      have k1 : xcOne X.K C0 = true := xs.one (p := (e.cls, C0)) hp
      have k2 : PySem.W.kitOne X.K (.ref C0) (.ref C) = some (subX e.cls x) := xs.kit (p := (e.cls, C0)) (q := (x, C)) hp hl
      have k3 : Q (.bl (subX e.cls x)) H1 := ep.fd hk S1 n1 (.bl _)
      generalize subX e.cls x = bb at k2 k3
      exact ⟨b, C0, .ref C, .ref C, bb, rfl, .own C, ho, k1, k2, k3⟩
    | _ => exact False.elim hk
theorem r_isxV {e : Expr} {se : SE} {p p2 pos : Pos} (xs : Xcs X.K X.mg fp.fa l) (hg : Gl X "isinstance") (hm : X.mg "isinstance" = none) (hg2 : Gl X "ValueError") (hm2 : X.mg "ValueError" = none) (ha : PE X e (tE X.K Γ fp Wx se))
    (hs : starEach (e :: [.Name "ValueError" p2]) X.env = (false, eval e X.env) :: starEach [.Name "ValueError" p2] X.env := by rfl) (hs2 : starEach (.Name "ValueError" p2 :: []) X.env = (false, eval (.Name "ValueError" p2) X.env) :: starEach [] X.env := by rfl) (hpl : (backTo pos (starEach [.Name "ValueError" p2] X.env)).any (·.1) = false := by rfl) :
    PE X (.Call (.Name "isinstance" p) [e, .Name "ValueError" p2] [] pos) (tE X.K Γ fp Wx (.isx se "ValueError")) :=
  PE.imp (pe_callB call_isx hg hm PyProof.Rows.boot_isinstance (pa_cons ha (pa_cons (pe_bltn (v := .ty "ValueError") hg2 hm2 PyProof.Rows.Boot.«ValueError» rfl (by decide) (by decide)) pa_nil hs2) hs) (by decide) (by decide) hs hpl) fun σ H Q ⟨L, w, ex, k, S, ec, h, ep⟩ => one S ec h fun v w1 y L1 H1 hk S1 n1 r1 _ => by
    cases v with
    | x e =>
      obtain ⟨b, C0, rfl, hf, ho⟩ := r1
      obtain ⟨hx, hk⟩ : e.cls ∈ XCL ∧ k (.d (.bool (subX e.cls "ValueError"))) w1 := hk
      have hp := xs.back _ _ hx hf
      have k1 : xcOne X.K C0 = true := xs.one (p := (e.cls, C0)) hp
      have k2 : PySem.W.kitOne X.K (.ref C0) (.type "ValueError") = some (subX e.cls "ValueError") := xs.ve (p := (e.cls, C0)) hp
      have k3 : Q (.bl (subX e.cls "ValueError")) H1 := ep.fd hk S1 n1 (.bl _)
      generalize subX e.cls "ValueError" = bb at k2 k3
      exact ⟨b, C0, .ty "ValueError", .type "ValueError", bb, rfl, .ty _, ho, k1, k2, k3⟩
    | _ => exact False.elim hk
end
/-! ### try: body, except x as n: suite; the caught one is kept in sight -/
section
variable {X : Cx} {pins : List (Addr × Obj)} {σ : L2.St} {H : Hp} {s : Shared}
/-- an exception that lies in the heap is told of -/
theorem Inv.track {a : Addr} {oe : Obj} {vs : Array Value} {C : Value} (I : Inv X pins σ H s) (ha : s.heap.get? a = some oe) (hc : oe.cls = C) (hn : oe.dict = none) (hd : oe.data = .fields vs) (na : H a = none) (nL : a ≠ X.env.locals) (n0 : X.s_0.heap.get? a = none)
    (np : ∀ p ∈ X.pn ++ pins, p.1 ≠ a) : Inv X pins σ (upd H a (XO C a)) s := by
  have old : ∀ {b : Addr} {u : HO}, H b = some u → upd H a (XO C a) b = some u := fun {b u} e => by rw [upd_ne (ne_of_none e na)]; exact e
  have frsh : ∀ {b : Addr} {o : Obj}, X.s_0.heap.get? b = some o → b ≠ a := fun {b o} e z => by rw [z, n0] at e; cases e
  refine ⟨I.ok, I.os, I.bare, ⟨I.base.keep, I.base.slot, fun b o e n hx => ?_, I.base.there, fun b xs e => old (I.base.tups b xs e), fun b o u e => old (I.base.frzs b o u e), fun b ps e => ?_⟩, I.loc, I.cell, ?_, fun x c e => ?_, fun p hp => ?_, ?_, I.len⟩
  · rw [upd_ne (frsh e)]
    exact I.base.free b o e n hx
  · obtain ⟨m, q⟩ := I.base.tbls b ps e
    exact ⟨m, old q⟩
  · rw [upd_ne (fun z => nL z.symm)]
    exact I.free
  · refine (upd_ne fun z => ?_).trans (I.freeC x c e)
    obtain ⟨v, q⟩ := I.cell x c e
    obtain ⟨o, e1, e2⟩ := id q
    rw [z, ha] at e1
    cases e1
    rw [hd] at e2
    cases e2
  · obtain ⟨h1, h2, h3⟩ := I.pin p hp
    exact ⟨h1, (upd_ne (np p hp)).trans h2, h3⟩
  · exact I.hok.laidN (fun _ _ z => z) na ⟨⟨oe, vs, ha, hc, hn, hd⟩, ⟨oe, ha⟩, fun _ _ ⟨o, v, q, r⟩ k => ⟨o, v, k o q, r⟩⟩
theorem Inv.toSuite {a : Addr} (I : Inv X pins σ H s) : Inv (X.suite a (X.pn ++ pins)) [] σ H s :=
  ⟨I.ok.suite _ _, I.os, I.bare, I.base, I.loc, I.cell, I.free, I.freeC, fun p hp => I.pin p (by rw [List.append_nil] at hp; exact hp), I.hok, I.len⟩
theorem Inv.ofSuite {a : Addr} (I : Inv (X.suite a (X.pn ++ pins)) [] σ H s) (ok : X.Ok) : Inv X pins σ H s :=
  ⟨ok, I.os, I.bare, I.base, I.loc, I.cell, I.free, I.freeC, fun p hp => I.pin p (List.mem_append_left _ hp), I.hok, I.len⟩
end
/-- what the clause wishes of the body's exceptions -/
def wTry (K : PySem.W.Frag) (c : Value) (i : Nat) (ts : Addr → Value → TS) (Wout : WX) (D : Ends) : WX := fun cls d σ H =>
  ∃ b, PySem.W.exmOne K cls c = some b ∧ (b = true → d = none ∧ ∀ a, H a = none → ts a cls ⟨fun σ' H' => D.nx (σ'.set i none) H', D.rt, fun σ' H' => D.bk (σ'.set i none) H', fun σ' H' => D.ct (σ'.set i none) H'⟩ (σ.set i (some (.ref a))) (upd H a (XO cls a))) ∧
    (b = false → Wout cls d σ H)
section
variable {X : Cx} {x n : Str} {c : Value} {i : Nat} {body suite : List Stmt} {b₀ : Stmt} {np pos pos' : Pos} {tb : WX → TS} {ts : Addr → Value → TS} {Wout : WX}
theorem ps_tryK (hs : X.stack = X.env :: X.outer) (hf : X.env.frame = some X.env.locals) (hex : X.ex = []) (hN : X.N.Nodup) (hi : X.N[i]? = some n) (hln : X.env.kindOf n = some .local) (hc : Names X x c) (tk : Takes X Wout)
    (hb : ∀ (W : WX) (pn : List (Addr × Obj)) (xe : Value → Shared → Prop), Takes (X.tr pn xe) W → PassesOwn (model X.prog X.w) X.A X.env xe → PSs (X.tr pn xe) body (tb W))
    (hsu : ∀ (a : Addr) (cls : Value) (pn : List (Addr × Obj)), PSs (X.suite a pn) (b₀ :: suite) (ts a cls)) :
    PS X (.Try body [.ExceptHandler (some (.Name x np)) (some n) (b₀ :: suite) pos'] [] [] pos) (fun D σ H => tb (wTry X.K c i ts Wout D) D σ H) := by
  refine ⟨fun pins s σ H D I h => wpAny_Try_except (wpAny_mono ((hb (wTry X.K c i ts Wout D) (X.pn ++ pins) _ (fun u s' xx => ?_) PassesOwn.looking).run [] s σ H D (I.toTry _) h) (fun f s1 hsp => ?_) (fun e s1 he => he))⟩
  · have ok := I.ok
    have hfr : X.A.frames = some (X.env :: X.outer) := by rw [ok.frames, hs]
    have hloc : Loc X.env.scope n := .inl hln
    obtain ⟨a, B, sI, pins', σ', H', cls, d, rfl, J', nb, up, sky, na, os, ag, b, hb1, hyes, hno⟩ := xx
    have J : Inv X pins σ' H' sI := J'.ofTry ok
    rw [hs] at sky
    show wpAny (model X.prog X.w) X.A (noteFrame (.ref a) X.env) _ _ _
    refine Sky.land Zc.steady hfr hf sky fun h3 fl3 up3 => ?_
    have J3 : Inv X pins σ' H' { s' with heap := h3 } := J.landed nb fl3.1 (up.trans up3) os ag
    obtain ⟨oe3, vs3, he3, hz3, hd3⟩ := fl3.there
    have nfr : a ∉ frs (X.env :: X.outer) := fun hm => by
      obtain ⟨_, o', e', hnf⟩ := fl3.2.2.1.mem hm
      rw [he3] at e'; cases e'
      exact hnf _ hd3
    have nfs : a ∉ frs X.stack := by rw [hs]; exact nfr
    have nL : a ≠ X.env.locals := fun z => nfr (List.mem_filterMap.mpr ⟨X.env, List.mem_cons_self, by rw [hf, z]⟩)
    have nF : a ∉ X.fs := fun hm => by
      obtain ⟨e, he, q⟩ := List.mem_filterMap.mp hm
      exact nfr (List.mem_filterMap.mpr ⟨e, List.mem_cons_of_mem _ he, q⟩)
    have nI : sI.heap.get? a = none := by
      cases q : sI.heap.get? a with
      | none => rfl
      | some o =>
        have z := nb a o q nfs
        rw [fl3.2.1] at z
        cases z
    have n0 : X.s_0.heap.get? a = none := by
      cases q : X.s_0.heap.get? a with
      | none => rfl
      | some o =>
        obtain ⟨o', z⟩ := J.base.there a o q (by rw [hex]; exact fun z => nomatch z)
        rw [nI] at z
        cases z
    have np' : ∀ p ∈ X.pn ++ pins, p.1 ≠ a := fun p hp z => by
      have := (J.pin p hp).1
      rw [z, nI] at this
      cases this
    have S3 := J3.suite he3 hd3 na nL nF
    refine wpAny_handleBy_cons (codeAny_handlers_test ?_) (by intro q; cases q)
    have LT : PySem.W.Looks (model X.prog X.w) h3 (typeOf (.ref a)) cls := fun A Q E s k q => wpAny_typeOf_ref (k _ _ he3) (by rw [hz3.1]; exact q)
    have LM := PySem.W.exm_one (M := model X.prog X.w) J3.kIn LT hb1
    have test : ∀ {Q : Value → Shared → Prop} {E : Value → Shared → Prop}, Q c { s' with heap := h3 } → wpAny (model X.prog X.w) (X.A.mark (some (.ref a))) (eval (.Name x np) X.env) Q E { s' with heap := h3 } := fun {Q E} q => by
      obtain ⟨hg, hdbg, hm | ⟨hm, hv, hnn⟩⟩ := hc
      · exact ld_glob (X := X.suite a ((a, oe3) :: (X.pn ++ pins))) S3 hg hm q hdbg
      · exact ld_blt (X := X.suite a ((a, oe3) :: (X.pn ++ pins))) S3 hg hm hv q hnn hdbg
    refine test (LM.here ?_)
    cases b with
    | true =>
      obtain ⟨hd0, hyes2⟩ := hyes rfl
      subst hd0
      refine codeAny_handlers_suite_as (HandSPX.lands_againZ fl3 fun h4 fl4 up4 => ?_)
      have J4 : Inv X pins σ' H' { s' with heap := h4 } := J.landed nb fl4.1 ((up.trans up3).trans up4) os ag
      obtain ⟨oe4, vs4, he4, hz4, hd4⟩ := fl4.there
      have J5 := Lb.Inv.toSuite (a := a) (Lb.Inv.track J4 he4 hz4.1 hz4.2 hd4 na nL n0 np')
      refine store_ok (X := X.suite a (X.pn ++ pins)) (v := .ref a) J5 hN hi hloc rfl (fun s5 S5 => ?_) (.inr hln)
      refine wpAny_mono ((hsu a cls (X.pn ++ pins)).run [] s5 _ _ _ S5 (hyes2 a na)) (fun f s6 hsp => ?_) (fun _ _ z => False.elim z)
      cases f <;> first
        | (obtain ⟨σ6, H6, S6, q6⟩ := hsp
           exact gone_ok (Lb.Inv.ofSuite S6 ok) hN hi hln fun s7 J7 => ⟨_, _, J7, q6⟩)
        | (obtain ⟨v6, σ6, H6, S6, r6, q6⟩ := hsp
           exact gone_ok (Lb.Inv.ofSuite S6 ok) hN hi hln fun s7 J7 => ⟨_, _, _, J7, r6, q6⟩)
    | false =>
      show wpAny _ X.A (handleBy (.ref a) X.env []) _ _ _
      refine wpAny_handleBy_nil ?_
      obtain ⟨k1, k2, k3, oe, vs, T, oT, ts', he, hz, hd, h1, hr⟩ := id fl3
      unfold PySem.passOn
      refine wpAny_bind (wpAny_field he hd h1 ?_)
      rw [if_neg (show ¬ ((Value.ref T == Value.none) = true) from by simp)]
      have fin : wpAny (model X.prog X.w) X.A (setFlight (.ref a) X.env.frame) (fun _ s4 => wpAny (model X.prog X.w) X.A (throw (.ref a) : Sem Flow) (SP X pins D) X.xe s4) X.xe { s' with heap := h3 } := by
        rw [hf]
        exact HandSPX.setFlight_upZ fl3 fun h4 hh4 up4 => wpAny_throw (tk _ _ ⟨a, B, sI, pins, σ', H', cls, d, rfl, J, nb, (up.trans up3).trans up4, .inr (.inr (by rw [hs]; exact hh4)), na, os, ag, hno rfl⟩)
      first
        | exact wpAny_bind (wpAny_pure (wpAny_bind fin))
        | exact wpAny_bind fin
  · have ok := I.ok
    cases f <;> first
      | (obtain ⟨σ', H', J', q⟩ := hsp
         exact wpAny_execs_nil ⟨σ', H', J'.ofTry ok, q⟩)
      | (obtain ⟨σ', H', J', q⟩ := hsp
         exact ⟨σ', H', J'.ofTry ok, q⟩)
      | (obtain ⟨v, σ', H', J', r, q⟩ := hsp
         exact ⟨v, σ', H', J'.ofTry ok, r, q⟩)
end
/-! ### the word for it -/
section
variable {X : Cx} {Γ : Sg} {fp : Fp} {Wx : WX} {l : List (Str × Addr)}
theorem s_try {x n : Str} {CB : Addr} {i : Nat} {body suite : List Stmt} {b₀ : Stmt} {np pos pos' : Pos} {sb sh : List SS} (hs : X.stack = X.env :: X.outer) (hf : X.env.frame = some X.env.locals) (hex : X.ex = []) (hN : X.N.Nodup) (hi : X.N[i]? = some n) (hln : X.env.kindOf n = some .local)
    (xs : Xcs X.K X.mg fp.fa l) (hl : (x, CB) ∈ l) (hg : Gl X x) (tk : Takes X Wx)
    (hb : ∀ (W : WX) (pn : List (Addr × Obj)) (xe : Value → Shared → Prop), Takes (X.tr pn xe) W → PassesOwn (model X.prog X.w) X.A X.env xe → PSs (X.tr pn xe) body (tSs X.K Γ fp W sb))
    (hsu : ∀ (a : Addr) (pn : List (Addr × Obj)), PSs (X.suite a pn) (b₀ :: suite) (tSs X.K Γ fp WN sh)) (hdb : (x == ("__debug__" : Str)) = false := by decide) :
    PS X (.Try body [.ExceptHandler (some (.Name x np)) (some n) (b₀ :: suite) pos'] [] [] pos) (tS X.K Γ fp Wx (.tryx sb x i sh)) := by
  refine PS.imp (ps_tryK (tb := fun W => tSs X.K Γ fp W sb) (ts := fun _ _ => tSs X.K Γ fp WN sh) (Wout := Wx) hs hf hex hN hi hln ⟨hg, hdb, .inl (xs.mg _ hl)⟩ tk hb fun a _ pn => hsu a pn) fun D σ H ⟨L, w, D', S, ec, h, es⟩ => ?_
  refine ⟨L, w, tryD x i (fun w1 D1 => evSs Γ sh w1 D1) D', S, ?_, h, es.nx, es.rt, es.bk, es.ct⟩
  intro e w' σ' H' cc dd hx S' n' xr
  obtain ⟨C, hfa, rfl, hX, harg⟩ := xr
  have hp := xs.back _ _ hX hfa
  refine ⟨subX e.cls x, xs.exm hp hl, fun hb1 => ?_, fun hb1 => ?_⟩
  · have hx : if subX e.cls x = true then e.arg = .none ∧ evSs Γ sh (w'.setR i (.x e)) (suiteD i D') else D'.ex e w' := hx
    rw [if_pos hb1] at hx
    refine ⟨harg hx.1, fun a na => ?_⟩
    have n1 : NxS fp w' σ' H' (w'.setR i (.x e)) (σ'.set i (some (.ref a))) (upd H' a (XO (.ref C) a)) := ((Nx.laid0 na : Nx fp σ' L w' H' L w' _).s).trans (NxS.store fun _ z => by cases z)
    have S1 : SR X.K fp L (w'.setR i (.x e)) (σ'.set i (some (.ref a))) (upd H' a (XO (.ref C) a)) := (S'.laid0 na).store (fun _ z => by cases z) ⟨a, C, rfl, hfa, upd_same⟩
    have off : ∀ {w2 : W} {σ2 : Stt} {H2 : Hp}, SR X.K fp L w2 σ2 H2 → SR X.K fp L (w2.setR i .no) (σ2.set i none) H2 := fun S2 => S2.store (fun _ z => by cases z) trivial
    have nx2 : ∀ {w2 : W} {σ2 : Stt} {H2 : Hp}, NxS fp (w'.setR i (.x e)) (σ'.set i (some (.ref a))) (upd H' a (XO (.ref C) a)) w2 σ2 H2 → NxS fp w σ H (w2.setR i .no) (σ2.set i none) H2 := fun n2 => ((n'.trans n1).trans n2).trans (NxS.store fun _ z => by cases z)
    refine ⟨L, w'.setR i (.x e), suiteD i D', S1, EC.no, hx.2, ?_⟩
    exact ⟨fun w2 σ2 H2 h2 S2 n2 => es.nx _ _ H2 h2 (off S2) (nx2 n2), fun v w2 y M σ2 H2 h2 S2 n2 up nw r f => es.rt v w2 y M σ2 H2 h2 S2 ((n'.trans n1).trans n2) up (fun b hb => (nw b hb).imp id fun z => by
        cases q : H b with
        | none => rfl
        | some o => exact absurd z ((n'.trans n1).ke b (by rw [q]; exact fun z => by cases z))) r f,
      fun w2 σ2 H2 h2 S2 n2 => es.bk _ _ H2 h2 (off S2) (nx2 n2), fun w2 σ2 H2 h2 S2 n2 => es.ct _ _ H2 h2 (off S2) (nx2 n2)⟩
  · have hx : if subX e.cls x = true then e.arg = .none ∧ evSs Γ sh (w'.setR i (.x e)) (suiteD i D') else D'.ex e w' := hx
    rw [if_neg (by rw [hb1]; exact Bool.false_ne_true)] at hx
    exact ec e w' σ' H' _ dd hx S' n' ⟨C, hfa, rfl, hX, harg⟩
end
theorem Cond.tr {X : Cx} {Γ : Sg} {fp : Fp} {Wx W' : WX} {k : Nat} {T : Str → Option Df} (C : Cond X Γ fp Wx k T) {pn : List (Addr × Obj)} {xe : Value → Shared → Prop} (t : Takes (X.tr pn xe) W') : Cond (X.tr pn xe) Γ fp W' k T :=
  ⟨C.gd, C.rm, t, fun x d h => ⟨(C.kn x d h).ex, (C.kn x d h).len⟩, C.ft⟩
end Lb
set_option maxHeartbeats 1000000
/-! ## Lb18 -/
/-! Lb18: xs[i] op= e; xs.count(x), xs.index(x). -/
namespace Lb
open PySem PySem.Spec L2 PyProof.Rows
section
variable {X : Cx}
def rGet0 (K : PySem.W.Frag) : V → V → Hp → VK → Prop := fun x y H Q => ∃ p xs i v, x = .ref p ∧ y = .int i ∧ 0 ≤ i ∧ SqL K H p xs ∧ atI xs i = some v ∧ Q v H
theorem get_list0 : PGet X (rGet0 X.K) := by
  intro pins s σ H o i ov iv Q I ro ri h
  obtain ⟨p, xs, k, z, rfl, rfl, h0, hq, he, q⟩ := h
  cases ro
  obtain ⟨t, rfl⟩ := ri
  obtain ⟨its, r, pl, hz⟩ := I.list hq
  obtain ⟨j, h1, h2, h3, h4, h5⟩ := atI_get he
  obtain ⟨w, ew, rw'⟩ := r.get h2
  have hl := r.length
  have hn := line63
  have hj : k.toNat = j := by
    rw [seqIndex_of h0 h5] at h1
    exact Option.some.inj h1
  exact wpAny_getItem_list pl.isList h0 (by omega) (by rw [hj]; simpa using ew) ⟨z, H, I, rw', q⟩
theorem r_fnK {Γ : Sg} {fp : Fp} {Wx : WX} {k n : Nat} {x : Str} {pos : Pos} (kn : Knows X Γ fp k x x n) (hg : Gl X x) (hd : (x == ("__debug__" : Str)) = false := by decide) : PE X (.Name x pos) (tE X.K Γ fp Wx (.fn x)) := by
  obtain ⟨⟨f, h1, h2, _, _⟩, _⟩ := kn
  exact r_fn hg h1 h2 hd
/-! ### count -/
def rCntF (K : PySem.W.Frag) : V → List V → Hp → VK → Prop := fun x xs H Q => ∃ (a : Addr) (ys : List V) (y : V), x = V.ref a ∧ xs = [y] ∧ SqL K H a ys ∧ flatV y = true ∧ ys.all flatV = true ∧ Q (.int (ys.countP fun z => eqV z y : Nat)) H
theorem countU {y : V} {uy : Value} (ry : RelV y uy) : ∀ {ys : List V} {us : List Value}, Vals ys us → ys.all flatV = true → us.countP (eqU y) = ys.countP fun z => eqV z y
  | _, _, .nil, _ => rfl
  | z :: ys, u :: us, .cons r t, f => by
    rw [List.all_cons, Bool.and_eq_true] at f
    rw [List.countP_cons, List.countP_cons, countU ry t f.2, eqU_of r f.1]
theorem mt_countF : MtR X "list.count" (rCntF X.K) := by
  intro pins s σ H x xs v us Q I rx rxs h
  obtain ⟨a, ys, y, rfl, rfl, hs, fy, fys, q⟩ := h
  cases rx
  cases rxs with
  | cons ry rt =>
    rename_i uy ut
    cases rt
    obtain ⟨its, rv, ⟨⟨cls, dd, data, sl⟩, n, ho, hc, hdn, hd⟩, hlen⟩ := I.list hs
    simp only at hc hd
    subst hc hd
    refine call_meets PySem.F.slot_list_count ⟨_, ho, rfl⟩ PySem.F.entry_list_count (PySem.F.args_list_count_2 _ _)
      (SeqAt.list_countAt a its.toArray n dd sl uy (eqU y)) ⟨ho, fun u' hu' => mem_eqAt ry fy rv fys u' (by simpa using hu'), ?_⟩
    refine ⟨.int ((ys.countP fun z => eqV z y : Nat) : Int), H, I.tok _, ⟨s.toks, ?_⟩, q⟩
    show Value.int ((its.toArray.toList.countP (eqU y) : Nat) : Int) s.toks = _
    rw [countU ry rv fys]
end
section
variable {K : PySem.W.Frag} {H : Hp} {F : Addr → Prop}
theorem count_rel {y : V} {d : D} (ry : DR K H F y d) (fd : flatD d = true) : ∀ {ys : List V} {es : List D}, DRs K H F ys es → es.all flatD = true → (ys.countP fun z => eqV z y) = es.countP (eqFlat d)
  | _, _, .nil, _ => rfl
  | _, _, .cons r t, f => by
    rw [List.all_cons, Bool.and_eq_true] at f
    rw [List.countP_cons, List.countP_cons, count_rel ry fd t f.2, DR.eqFlat ry r fd f.1]
theorem TR.dr {v : V} {d : D} (t : TR K H F v d) (f : flatD d = true) : DR K H F v d := by
  cases t with
  | d r => exact r
  | @c b c r => cases c <;> cases f
end
section
variable {X : Cx} {Γ : Sg} {fp : Fp} {Wx : WX}
theorem cntP_some {p x : D} {k : Int → Prop} (h : cntP p x k) : ∃ xs, p = .list xs ∧ (flatD x = true ∧ xs.all flatD = true) ∧ k ((xs.countP (eqFlat x) : Nat) : Int) := by
  cases p <;> first | exact False.elim h | exact ⟨_, rfl, h⟩
theorem idxP_some {p x : D} {k : Int → Prop} (h : idxP p x k) : ∃ xs j, p = .list xs ∧ (flatD x = true ∧ xs.all flatD = true) ∧ xs.findIdx? (eqFlat x) = some j ∧ k (j : Nat) := by
  cases p with
  | list xs =>
    obtain ⟨h1, h2⟩ := h
    obtain ⟨j, e, h3⟩ := optP_some h2
    exact ⟨xs, j, rfl, h1, e, h3⟩
  | _ => exact False.elim h
theorem r_cnt {o e : Expr} {so se : SE} {apos cpos : Pos} (ho : PE X o (tE X.K Γ fp Wx so)) (he : PE X e (tE X.K Γ fp Wx se))
    (hbase : attributeBase o "count" X.env (eval o X.env) = eval o X.env := by rfl)
    (hfew : ((backTo cpos (starEach [e] X.env)).all (fun x => !x.1) && (backToKw cpos (keywordEach [] X.env)).all (fun x => x.1.isSome)
      && decide ([e].length + ([] : List Keyword).length + (if ([] : List Keyword).isEmpty then 0 else 1) < 30)) = true := by rfl)
    (hline : (apos.endLine == cpos.line) = true := by rfl) (hs : starEach [e] X.env = (false, eval e X.env) :: starEach [] X.env := by rfl) (hplain : (backTo cpos (starEach [] X.env)).any (·.1) = false := by rfl) :
    PE X (.Call (.Attribute o "count" apos) [e] [] cpos) (tE X.K Γ fp Wx (.cnt so se)) :=
  PE.imp (pe_bm PySem.F.plainAttrs_list PySem.F.slot_list_count PySem.F.type_list_count mt_countF ho (pa_cons he pa_nil hs) hbase hfew hline hs hplain) fun σ H Q ⟨L, w, ex, k, S, ec, h, ep⟩ => one S ec h fun v w1 x L1 H1 hk S1 n1 r1 _ => by
    obtain ⟨xs0, e0, hk⟩ := lstP_some hk
    refine ⟨ty_list (VR.rd S1 r1 e0), one S1 (ec.nx n1) hk fun u w2 y L2 H2 hk2 S2 n2 r2 _ => ?_⟩
    obtain ⟨p, e1, hk2⟩ := rdP_some hk2
    obtain ⟨q, e2, hk2⟩ := rdP_some hk2
    obtain ⟨xs, rfl, ⟨f1, f2⟩, hk3⟩ := cntP_some hk2
    obtain ⟨b, vs, rfl, hb, r⟩ := (VR.rd S2 (r1.next S1 n2) e1).lst
    have ry := (VR.rd S2 r2 e2).dr f1
    refine ⟨b, vs, y, rfl, rfl, SqL.of hb, ry.flat f1, r.flat f2, ?_⟩
    rw [count_rel ry f1 r f2]
    exact ep.fd hk3 S2 (n1.trans n2) (.int _)
theorem r_idx {o e : Expr} {so se : SE} {apos cpos : Pos} (ho : PE X o (tE X.K Γ fp Wx so)) (he : PE X e (tE X.K Γ fp Wx se))
    (hbase : attributeBase o "index" X.env (eval o X.env) = eval o X.env := by rfl)
    (hfew : ((backTo cpos (starEach [e] X.env)).all (fun x => !x.1) && (backToKw cpos (keywordEach [] X.env)).all (fun x => x.1.isSome)
      && decide ([e].length + ([] : List Keyword).length + (if ([] : List Keyword).isEmpty then 0 else 1) < 30)) = true := by rfl)
    (hline : (apos.endLine == cpos.line) = true := by rfl) (hs : starEach [e] X.env = (false, eval e X.env) :: starEach [] X.env := by rfl) (hplain : (backTo cpos (starEach [] X.env)).any (·.1) = false := by rfl) :
    PE X (.Call (.Attribute o "index" apos) [e] [] cpos) (tE X.K Γ fp Wx (.idx so se)) :=
  PE.imp (pe_bm PySem.F.plainAttrs_list PySem.F.slot_list_index PySem.F.type_list_index mt_index ho (pa_cons he pa_nil hs) hbase hfew hline hs hplain) fun σ H Q ⟨L, w, ex, k, S, ec, h, ep⟩ => one S ec h fun v w1 x L1 H1 hk S1 n1 r1 _ => by
    obtain ⟨xs0, e0, hk⟩ := lstP_some hk
    refine ⟨ty_list (VR.rd S1 r1 e0), one S1 (ec.nx n1) hk fun u w2 y L2 H2 hk2 S2 n2 r2 _ => ?_⟩
    obtain ⟨p, e1, hk2⟩ := rdP_some hk2
    obtain ⟨q, e2, hk2⟩ := rdP_some hk2
    obtain ⟨xs, j, rfl, ⟨f1, f2⟩, hj, hk3⟩ := idxP_some hk2
    obtain ⟨b, vs, rfl, hb, r⟩ := (VR.rd S2 (r1.next S1 n2) e1).lst
    have ry := (VR.rd S2 r2 e2).dr f1
    obtain ⟨hlt, he1, hno⟩ := List.findIdx?_eq_some_iff_getElem.mp hj
    obtain ⟨z, hz, rz⟩ := r.get (i := j) (List.getElem?_eq_getElem hlt)
    refine ⟨b, vs, y, j, z, rfl, rfl, SqL.of hb, ry.flat f1, r.flat f2, hz, ?_, fun m z' hm hz' => ?_, ep.fd hk3 S2 (n1.trans n2) (.int _)⟩
    · rw [DR.eqFlat ry rz f1 (List.all_eq_true.mp f2 _ (List.getElem_mem hlt))]
      exact he1
    · obtain ⟨d', hd', rd'⟩ := r.get' hz'
      obtain ⟨hl2, e3⟩ := List.getElem?_eq_some_iff.mp hd'
      subst e3
      rw [DR.eqFlat ry rd' f1 (List.all_eq_true.mp f2 _ (List.getElem_mem hl2))]
      simpa using hno m hm
theorem s_augIx (op : Bop) {o i e : Expr} {so si se : SE} {tpos pos : Pos} (ho : PE X o (tE X.K Γ fp Wx so)) (hi : PE X i (tE X.K Γ fp Wx si)) (he : PE X e (tE X.K Γ fp Wx se))
    (ha : ∀ ov iv new, augStore i ov iv new = (do holding [new, ov, iv] (setItem ov iv new); release [new, ov, iv] []; pure .next) := by intros; rfl) :
    PS X (.AugAssign (.Subscript o i tpos) (aopOf op) e pos) (tS X.K Γ fp Wx (.augIx so si op se)) :=
  PS.imp (ps_augS ho hi get_list0 he (ip_aop op) set_list ha) fun D σ H ⟨L, w, D', S, ec, h, es⟩ => one S ec h fun v w1 x L1 H1 hk S1 n1 r1 f1 => one S1 (ec.nx n1) hk fun u w2 y L2 H2 hk2 S2 n2 r2 _ => by
    obtain ⟨q, e1, hk2⟩ := rdP_some hk2
    obtain ⟨n, rfl, h0, hk2⟩ := intP_some hk2
    have ey := (VR.rd S2 r2 e1).int
    subst ey
    obtain ⟨c, hgc, hk3⟩ := getCP_some hk2
    obtain ⟨b, rfl, rc, hb, fin⟩ := S2.put (r1.next S1 n2) hgc
    cases c with
    | m kvs => exact False.elim hk3
    | l xs =>
      have hk3 : ixD xs n fun z => evE Γ se w2 D'.ex fun v2 w3 => rdP w3 v2 fun u => augP op z u fun r => putIxP w3 v (.int n) r D'.nx := hk3
      cases rc with
      | l hH r =>
        rename_i vs
        unfold ixD at hk3
        split at hk3
        · rename_i z hz
          obtain ⟨j, hj1, hj2⟩ : ∃ j, ixN xs.length n = some j ∧ xs[j]? = some z := by
            unfold atI at hz
            cases q : ixN xs.length n with
            | none => rw [q] at hz; cases hz
            | some j => rw [q] at hz; exact ⟨j, rfl, hz⟩
          obtain ⟨vz, hvz, rz⟩ := r.get hj2
          refine ⟨b, vs, n, vz, rfl, rfl, h0, SqL.of hH, by unfold atI; rw [r.length, hj1]; exact hvz, one S2 ((ec.nx n1).nx n2) hk3 fun v3 w3 y3 L3 H3 hk4 S3 n3 r3 _ => ?_⟩
          obtain ⟨p3, e3, hk4⟩ := rdP_some hk4
          have t3 := VR.rd S3 r3 e3
          have rz3 : DR X.K H3 (FA fp L3 w3 σ) vz z := VR.next (v := .d z) S2 n3 rz
          have fin3 : ∀ m : Int, putIxP w3 v (.int n) (.int m) D'.nx → ∃ p xs k j, V.ref b = .ref p ∧ V.int n = .int k ∧ H3 p = some (.lst xs) ∧ ixN xs.length k = some j ∧ D.nx σ (upd H3 p (.lst (xs.set j (.int m)))) := fun m hp => by
            obtain ⟨c2, hgc2, hp⟩ := getCP_some hp
            obtain ⟨b2, eb, rc2, hb2, fin2⟩ := S3.put ((r1.next S1 n2).next S2 n3) hgc2
            cases eb
            cases c2 with
            | m kvs => exact False.elim hp
            | l ys =>
              cases rc2 with
              | l hH2 r2' =>
                simp only at hp
                split at hp
                · rename_i j2 hj2'
                  refine ⟨b, _, n, j2, rfl, rfl, hH2, by rw [r2'.length]; exact hj2', ?_⟩
                  have dn : CR X.K (upd H3 b (.lst _)) (FA fp L3 w3 σ) b (.l (ys.set j2 (.int m))) := .l upd_same (putStep (.l hH2 r2') (.inr hb2) (r2'.set j2 (.int m)))
                  obtain ⟨S5, n5, _⟩ := fin2 _ _ dn
                  have nn := ((n1.trans n2).trans n3).trans n5
                  exact es.nx _ σ _ hp (S5.weak nn.up) nn.s
                · exact False.elim hp
          cases z <;> cases p3 <;> first
            | exact False.elim hk4
            | (have a1 := (TR.d rz3).int
               have a2 := t3.int
               subst a1 a2
               refine ⟨_, _, rfl, rfl, ?_⟩
               cases op <;> first
                 | exact False.elim hk4
                 | exact fin3 _ hk4)
        · exact False.elim hk3
end
end Lb
set_option maxHeartbeats 1000000
/-! ## Lb19 -/
/-! Lb19: sum(lists, []) : one list behind the other. -/
namespace Lb
open PySem PySem.Spec L2
section
variable {prog : Program} {w : World} {A : Around} {R : Result → Shared → Prop} {I : Addr} {fp wr : List Addr} {n : Nat} {P : Nat → Value → Prop} {St : Nat → Heap → Prop}
theorem sumL_loop (W : Walks prog w A.in1 I fp wr n P St) (G : Heap) (L : Nat → List Value) (T0 : Addr) (hval : ∀ i v, i < n → P i v → ∃ b m, v = .ref b ∧ IsL G b (L i).toArray m) (S : Addr) (hSf : ∀ b ∈ fp, b < S) (hSG : G.objs.size ≤ S) (hw : ∀ b ∈ wr, G.objs.size ≤ b) :
    ∀ (k i : Nat) (s : Shared) (T : Addr) (acc : List Value) (c m : Nat), n - i = k → i ≤ n → St i s.heap → (∀ b o, G.get? b = some o → s.heap.get? b = some o) → s.heap.get? S = some { cls := .type "list", dict := none, data := .seq #[.ref T] c, slots := #[] } →
    IsL s.heap T acc.toArray m → T ≠ S → T ∉ wr → (∀ j, acc.length + (((List.range' i j).map L).flatten).length ≤ sizeLine ∨ n < i + j) → (i = 0 → T = T0) → (0 < i → G.objs.size ≤ T) →
    (∀ h' tk T' m', (∀ b o, G.get? b = some o → h'.get? b = some o) → IsL h' T' (acc ++ ((List.range' i (n - i)).map L).flatten).toArray m' → (n = 0 → T' = T0) → (0 < n → G.objs.size ≤ T') → R (.ok (.ret (.ref T'))) { s with heap := h', toks := tk }) →
    codeAny (model prog w) A (.builtin "sum.loop" ⟨[.ref I, .ref S, rawInt 2, rawInt 0], []⟩) R s := by
  have hSw : S ∉ wr := fun h => Nat.lt_irrefl _ (hSf _ (W.sub _ h))
  have hSfp : S ∉ fp := fun h => Nat.lt_irrefl _ (hSf _ h)
  have keep : ∀ {h h' : Heap}, (∀ b o, G.get? b = some o → h.get? b = some o) → (∀ b o, b ∉ wr → h.get? b = some o → h'.get? b = some o) → ∀ b o, G.get? b = some o → h'.get? b = some o := fun h1 h2 b o e =>
    h2 b o (fun hb => absurd (Heap.lt_size e) (Nat.not_lt.mpr (hw b hb))) (h1 b o e)
  intro k
  induction k with
  | zero =>
    intro i s T acc c m hk hi hst hG hS hT hTS hTw hz h0 h1 hR
    have hin : i = n := by omega
    subst hin
    refine codeAny_builtin F.entry_sum_loop ?_
    rw [Around.under_plainId F.plain_sum_loop _]
    show wpAny _ A.in1 (seqItems? (.ref S) >>= _) _ _ s
    refine wpAny_bind (wpAny_seqItems hS rfl ?_)
    show wpAny _ A.in1 (tryCatch (pyNext (.ref I)) _ >>= _) _ _ s
    refine wpAny_bind (wpAny_tryCatch (W.done s _ _ hst fun h' tk hk' => ?_))
    refine wpAny_pure (hR h' tk T m (keep hG hk') ?_ (fun e => h0 e) (fun e => h1 e))
    rw [Nat.sub_self]
    show IsL h' T (acc ++ []).toArray m
    rw [List.append_nil]
    exact hk' T _ hTw hT
  | succ k ih =>
    intro i s T acc c m hk hi hst hG hS hT hTS hTw hz h0 h1 hR
    have hlt : i < n := by omega
    refine codeAny_builtin F.entry_sum_loop ?_
    rw [Around.under_plainId F.plain_sum_loop _]
    show wpAny _ A.in1 (seqItems? (.ref S) >>= _) _ _ s
    refine wpAny_bind (wpAny_seqItems hS rfl ?_)
    show wpAny _ A.in1 (tryCatch (pyNext (.ref I)) _ >>= _) _ _ s
    refine wpAny_bind (wpAny_tryCatch (W.item i s _ _ hlt hst fun v h' tk hP hst' hk' => ?_))
    obtain ⟨b, m2, rfl, hb⟩ := hval i v hlt hP
    have hG' := keep hG hk'
    have hS' := hk' S _ hSw hS
    have hT' := hk' T _ hTw hT
    have hb' := hG' b _ hb
    have hsz : acc.toArray.size + (L i).toArray.size ≤ sizeLine := by
      rcases hz 1 with hz | hz
      · simpa using hz
      · omega
    show wpAny _ A.in1 ((holding [Value.ref b] (binaryOp .Add (.ref T) (.ref b))).attempt >>= _) _ _ _
    refine wpAny_bind (wpAny_attempt (wpAny_holding (PySem.P.add_list hT' hb' ?_ hsz)))
    show wpAny _ A.in1 (updateSeq S (fun _ => #[.ref h'.objs.size]) >>= _) _ _ _
    refine wpAny_bind ?_
    have hS1 := Heap.get?_push_of_some ({ cls := .type "list", data := .seq (acc.toArray ++ (L i).toArray) } : Obj) hS'
    refine wpAny_updateSeq hS1 rfl ?_
    have hS2 := Heap.get?_update_self (Obj.mapSeq fun _ => #[Value.ref h'.objs.size]) hS1 rfl
    refine wpAny_bind (wpAny_letGo ?_)
    refine wpAny_bind ?_
    have ltS : S < h'.objs.size := Heap.lt_size hS'
    have hne : h'.objs.size ≠ S := (Nat.ne_of_lt ltS).symm
    have up : ∀ {b : Addr} {o : Obj}, b ≠ S → (h'.push { cls := .type "list", data := .seq (acc.toArray ++ (L i).toArray) }).get? b = some o →
        (((h'.push { cls := .type "list", data := .seq (acc.toArray ++ (L i).toArray) }).update S (Obj.mapSeq fun _ => #[Value.ref h'.objs.size])).update S (Obj.mapSeq fun _ => #[Value.ref h'.objs.size])).get? b = some o := fun hb e =>
      (Heap.get?_update_other _ _ (Ne.symm hb)).trans ((Heap.get?_update_other _ _ (Ne.symm hb)).trans e)
    refine wpAny_updateSeq hS2 rfl (wpAny_pure ⟨plainId_quiet F.plain_sum_loop _, ih (i + 1) _ h'.objs.size (acc ++ L i) _ 0 (by omega) hlt (W.frame _ _ _ hst' fun b hb o e => ?_) (fun b o e => ?_) (Heap.get?_update_self _ hS2 rfl) ?_ hne (fun hm => ?_) (fun j => ?_) (fun e => absurd e (Nat.succ_ne_zero i)) (fun _ => Nat.le_trans hSG (Nat.le_of_lt ltS)) fun h'' tk'' T' m' hk'' hT'' e0 e1 => ?_⟩)
    · exact up (fun e => hSfp (e ▸ hb)) (Heap.get?_push_of_some _ e)
    · exact up (fun e' => absurd (Heap.lt_size e) (Nat.not_lt.mpr (e' ▸ hSG))) (Heap.get?_push_of_some _ (hG' b o e))
    · refine up hne ?_
      have := Heap.get?_push_size h' (o := { cls := .type "list", data := .seq (acc.toArray ++ (L i).toArray) }) rfl
      simpa using this
    · exact Nat.lt_asymm ltS (hSf _ (W.sub _ hm))
    · rcases hz (j + 1) with hz | hz
      · left
        rw [List.range'_succ, List.map_cons, List.flatten_cons, List.length_append] at hz
        rw [List.length_append]
        omega
      · right
        omega
    · refine hR h'' tk'' T' m' hk'' ?_ e0 e1
      rw [show n - i = (n - (i + 1)) + 1 by omega, List.range'_succ, List.map_cons, List.flatten_cons, ← List.append_assoc]
      exact hT''
end
section
variable {prog : Program} {w : World} {A : Around} {E : Value → Shared → Prop} {s : Shared}
theorem args_sum2 (a b : Value) : argsOk "sum" ⟨[a, b], []⟩ := by unfold argsOk; kernel_rfl
theorem sub_list_str' : isSubtype (.type "list") (.type "str") = pure false := by rw [isSubtype_type]; kernel_rfl
theorem sub_list_bytes' : isSubtype (.type "list") (.type "bytes") = pure false := by rw [isSubtype_type]; kernel_rfl
theorem sub_list_bytearray' : isSubtype (.type "list") (.type "bytearray") = pure false := by rw [isSubtype_type]; kernel_rfl
theorem call_sumL {l T0 : Addr} {its : Array Value} {m : Nat} {L : Nat → List Value} {Q : Value → Shared → Prop} (hh : A.handled = none) (hl : s.heap.IsList l its) (hT : IsL s.heap T0 #[] m)
    (hi : ∀ (i : Nat) (v : Value), its[i]? = some v → ∃ b n, v = .ref b ∧ IsL s.heap b (L i).toArray n) (hz : ∀ j, j ≤ its.size → (((List.range' 0 j).map L).flatten).length ≤ sizeLine)
    (hR : ∀ h' tk T' m', (∀ b o, s.heap.get? b = some o → h'.get? b = some o) → IsL h' T' ((List.range' 0 its.size).map L).flatten.toArray m' → (its.size = 0 → T' = T0) → (0 < its.size → s.heap.objs.size ≤ T') → Q (.ref T') { s with heap := h', toks := tk }) :
    wpAny (model prog w) A (call (.builtin "sum") [.ref l, .ref T0]) Q E s := by
  refine call_function_tree F.kind_sum F.plain_sum F.entry_sum (args_sum2 _ _) ?_
  unfold Builtin.«sum»
  simp only [List.length_cons, List.length_nil]
  rw [if_neg (by decide)]
  refine wpAny_bind (wpAny_of_eq (show Builtin.Builtins.bindParams "sum" ["start"] 0 ⟨[.ref T0], []⟩ = pure [some (.ref T0)] from rfl) ?_)
  have hlt : l < s.heap.objs.size := by obtain ⟨_, e, _⟩ := hl; exact Heap.lt_size e
  refine wpAny_bind (wpAny_pyIter_list hl ?_)
  have hT1 : IsL (s.heap.push { cls := .type "list_iterator", data := .fields #[.ref l, .int 0 0] }) T0 #[] m := Heap.get?_push_of_some _ hT
  have ty : Shared.TypeIs { s with heap := s.heap.push { cls := .type "list_iterator", data := .fields #[.ref l, .int 0 0] } } (.ref T0) "list" := Heap.IsList.typeIs ⟨_, hT1, rfl, _, rfl⟩
  refine wpAny_bind (wpAny_pure ?_)
  simp only [List.forIn_cons, List.forIn_nil]
  refine wpAny_bind (wpAny_bind (wpAny_bind (wpAny_isInstance (T := "list") (b := false) ty sub_list_str' ?_)))
  simp only [Bool.false_eq_true, if_false]
  refine wpAny_pure (wpAny_bind (wpAny_bind (wpAny_isInstance (T := "list") (b := false) ty sub_list_bytes' ?_)))
  simp only [Bool.false_eq_true, if_false]
  refine wpAny_pure (wpAny_bind (wpAny_bind (wpAny_isInstance (T := "list") (b := false) ty sub_list_bytearray' ?_)))
  simp only [Bool.false_eq_true, if_false]
  refine wpAny_pure (wpAny_pure ?_)
  refine wpAny_bind (wpAny_newObj_type ?_)
  have ltT : T0 < s.heap.objs.size := Heap.lt_size hT
  refine wpAny_pure ⟨plainId_quiet F.plain_sum_loop _, sumL_loop (n := its.size) (Walks.list (A := A.in1) hh s.heap.objs.size l (Nat.ne_of_lt hlt) its) s.heap L T0 (fun i v _ hv => hi i v hv) (s.heap.push { cls := .type "list_iterator", data := .fields #[.ref l, .int 0 0] }).objs.size (fun b hb => ?_) ?_ (fun b hb => ?_) its.size 0 _ T0 [] _ m rfl (Nat.zero_le _) ?_ (fun b o e => Heap.get?_push_of_some _ (Heap.get?_push_of_some _ e)) (Heap.get?_push_size _ rfl) (Heap.get?_push_of_some _ hT1) ?_ ?_ (fun j => ?_) (fun _ => rfl) (fun e => absurd e (Nat.lt_irrefl _)) fun h' tk T' m' hk hT' e0 e1 => ?_⟩
  · rw [Heap.size_push]
    rcases List.mem_cons.mp hb with rfl | hb
    · exact Nat.lt_succ_self _
    · rw [List.mem_singleton.mp hb]
      exact Nat.lt_succ_of_lt hlt
  · rw [Heap.size_push]
    exact Nat.le_succ _
  · rw [List.mem_singleton.mp hb]
    exact Nat.le_refl _
  · exact ⟨⟨_, Heap.get?_push_of_some _ (Heap.get?_push_size _ rfl), rfl, rfl⟩, (hl.push _).push _⟩
  · rw [Heap.size_push]
    exact Nat.ne_of_lt (Nat.lt_succ_of_lt ltT)
  · intro hm
    exact absurd (List.mem_singleton.mp hm) (Nat.ne_of_lt ltT)
  · by_cases q : j ≤ its.size
    · left
      rw [List.length_nil, Nat.zero_add]
      exact hz j q
    · right
      omega
  · rw [List.nil_append, Nat.sub_zero] at hT'
    exact hR h' tk T' m' hk hT' e0 e1
end
/-! ### the rule -/
def Its (H : Hp) : List Addr → List (List V) → Prop
  | [], [] => True
  | a :: as, Z :: Zs => H a = some (.lst Z) ∧ Its H as Zs
  | _, _ => False
def rSumL : List V → Hp → VK → Prop := fun vs H Q => ∃ (a b : Addr) (as : List Addr) (Zs : List (List V)), vs = [.ref a, .ref b] ∧ H a = some (.lst (as.map V.ref)) ∧ H b = some (.lst []) ∧ Its H as Zs ∧ Zs.flatten.length ≤ sizeLine ∧
  (as = [] → Q (.ref b) H) ∧ (as ≠ [] → ∀ p, H p = none → Q (.ref p) (upd H p (.lst Zs.flatten)))
/-- what a list's object holds -/
def Lof (h : Heap) (a : Addr) : List Value := match h.get? a with
  | some o => (match o.data with
    | .seq xs _ => xs.toList
    | _ => [])
  | none => []
theorem Vals.refs : ∀ {as : List Addr} {its : List Value}, Vals (as.map V.ref) its → its = as.map Value.ref
  | [], _, .nil => rfl
  | a :: as, _, .cons r t => by
    cases r
    rw [Vals.refs t]
    rfl
theorem Vals.cat {xs : List V} {us : List Value} : ∀ {ys : List V} {vs : List Value}, Vals ys vs → Vals xs us → Vals (ys ++ xs) (vs ++ us)
  | _, _, .nil, h => h
  | _, _, .cons r t, h => .cons r (Vals.cat t h)
theorem its_end {X : Cx} {pins : List (Addr × Obj)} {σ : L2.St} {H : Hp} {s : Shared} (I : Inv X pins σ H s) : ∀ {as : List Addr} {Zs : List (List V)}, Its H as Zs → Vals Zs.flatten (as.map (Lof s.heap)).flatten ∧ ∀ a ∈ as, ∃ n, IsL s.heap a (Lof s.heap a).toArray n
  | [], [], _ => ⟨.nil, fun _ h => nomatch h⟩
  | a :: as, Z :: Zs, ⟨h, t⟩ => by
    obtain ⟨i1, i2⟩ := its_end I t
    obtain ⟨z, its, n, r, hl, e⟩ := I.lstM h
    have el : Lof s.heap a = its := by
      unfold Lof
      rw [e]
    refine ⟨?_, fun b hb => ?_⟩
    · rw [List.flatten_cons, List.map_cons, List.flatten_cons, el]
      exact Vals.cat r i1
    · rcases List.mem_cons.mp hb with rfl | hb
      · exact ⟨n, by rw [el]; exact e⟩
      · exact i2 b hb
theorem cr_sumL {X : Cx} (hc : X.calm = true) : CallR X (.builtin "sum") rSumL := by
  intro pins s σ H vs us Q I r h
  obtain ⟨a, b, as, Zs, rfl, ha, hb, hi, hz, q0, q1⟩ := h
  have eu : us = [.ref a, .ref b] := Vals.refs (as := [a, b]) r
  subst eu
  obtain ⟨i1, i2⟩ := its_end I hi
  obtain ⟨za, its, na, ra, hla, ea⟩ := I.lstM ha
  have := Vals.refs ra
  subst this
  obtain ⟨zb, itb, nb, rb, hlb, eb⟩ := I.lstM hb
  cases rb
  have hL : ∀ j, j ≤ as.length → (List.range' 0 j).map (fun i => Lof s.heap (as[i]?.getD 0)) = (as.take j).map (Lof s.heap) := fun j hj => by
    apply List.ext_getElem?
    intro i
    by_cases q : i < j
    · have hlt : i < as.length := by omega
      simp [List.getElem?_map, List.getElem?_range', List.getElem?_take, q, hlt]
    · simp [List.getElem?_map, List.getElem?_take, q]
  have hlen := i1.length
  refine call_sumL (L := fun i => Lof s.heap (as[i]?.getD 0)) (I.ok.hd hc) ⟨_, ea, rfl, _, rfl⟩ eb (fun i v hv => ?_) (fun j hj => ?_) fun h' tk T' m' hk hT e0 e1 => ?_
  · have hv : (as.map Value.ref)[i]? = some v := by simpa using hv
    rw [List.getElem?_map] at hv
    cases q : as[i]? with
    | none => rw [q] at hv; cases hv
    | some c =>
      rw [q] at hv
      cases hv
      obtain ⟨n, e⟩ := i2 c (List.mem_of_getElem? q)
      exact ⟨c, n, rfl, by simpa [q] using e⟩
  · have hj : j ≤ as.length := by simpa using hj
    rw [hL j hj]
    have e : (as.map (Lof s.heap)).flatten = ((as.take j).map (Lof s.heap)).flatten ++ ((as.drop j).map (Lof s.heap)).flatten := by
      rw [← List.flatten_append, ← List.map_append, List.take_append_drop]
    rw [e, List.length_append] at hlen
    omega
  · have sz : (as.map Value.ref).toArray.size = as.length := by simp
    rw [sz, hL _ (Nat.le_refl _), List.take_length] at hT
    rw [sz] at e0 e1
    cases as with
    | nil => 
      rw [e0 rfl]
      exact ⟨.ref b, H, I.kept hk, rfl, q0 rfl⟩
    | cons c cs =>
      have hp : s.heap.objs.size ≤ T' := e1 (Nat.zero_lt_succ _)
      exact ⟨.ref T', _, I.laid (t' := tk) hk hp (show ObjOk X.prog X.w _ h' _ (.lst Zs.flatten) from ⟨hz, _, m', i1, hT⟩), rfl, q1 (fun e => by cases e) T' (I.hok.fresh hp)⟩
section
variable {X : Cx} {Γ : Sg} {fp : Fp} {Wx : WX}
/-! ### repr -/
def rRepr (K : PySem.W.Frag) : List V → Hp → VK → Prop := fun vs H Q => ∃ (a : Addr) (d : D), vs = [.ref a] ∧ Dp K H (.ref a) d ∧ d.canLay0 = true ∧ d.depth ≤ 60 ∧ d.showable = true ∧ d.shown.length ≤ sizeLine ∧ Q (.str d.shown) H
theorem cr_repr (gd : X.A.guards = some []) (hu : X.A.units + 64 < cLine) : CallR X (.builtin "repr") (rRepr X.K) := by
  intro pins s σ H vs us Q I r h
  obtain ⟨a, d, rfl, hd, c1, c2, c3, c4, q⟩ := h
  rw [Vals.ref1 r]
  obtain ⟨as, r1⟩ := Dp.reads I d (.ref a) (.ref a) hd rfl
  exact repr_of_reads' r1 c3 (PyData.noDict_hsm (PyData.hasDict_of_canLay d c1)) gd (by omega) (fun _ _ e => e) (fun h' u tk hk => ⟨.str _, H, I.kept hk, ⟨u, rfl⟩, q⟩) c4
theorem r_repr (gd : X.A.guards = some []) (hu : X.A.units + 64 < cLine) {e : Expr} {es : List Expr} {ses : SEs} {p pos : Pos} (hg : Gl X "repr") (hm : X.mg "repr" = none) (ha : PA X (e :: es) (tA X.K Γ fp Wx ses)) (he : starEach (e :: es) X.env = (false, eval e X.env) :: starEach es X.env := by rfl) (hpl : (backTo pos (starEach es X.env)).any (·.1) = false := by rfl) :
    PE X (.Call (.Name "repr" p) (e :: es) [] pos) (tE X.K Γ fp Wx (.bi .reprOf ses)) :=
  PE.imp (pe_callB (cr_repr gd hu) hg hm (by decide +kernel) ha (by decide) (by decide) he hpl) (bi_core fun H F xs ds kk Q t hk f1 f2 f3 => by
    obtain ⟨d, e0, hk⟩ := one1_some hk
    subst e0
    obtain ⟨x, e0, u⟩ := t.one
    subst e0
    obtain ⟨⟨h0, h1, h2, h3, h4⟩, hk⟩ := hk
    cases d <;> first
      | exact absurd (show false = true from h0) Bool.false_ne_true
      | (obtain ⟨b, vs, rfl, hs, r⟩ := u.lst
         exact ⟨b, _, rfl, u.dp h1, h1, h2, h3, h4, f1 _ _ hk (.str _ h4)⟩))
/-! ### None in a list of lists -/
def nlV : V → Bool
  | .non => true | .ref _ => true
  | _ => false
def nnV : V → Bool
  | .non => true
  | _ => false
def rNoneIn : V → Hp → VK → Prop := fun y H Q => ∃ (p : Addr) (xs : List V), y = .ref p ∧ H p = some (.lst xs) ∧ (∀ x ∈ xs, x = .non ∨ ∃ b zs, x = .ref b ∧ H b = some (.lst zs)) ∧ Q (.bl (xs.any nnV)) H
def nnU : Value → Bool
  | .none => true
  | _ => false
theorem nnU_all : ∀ {xs : List V} {us : List Value}, Vals xs us → (∀ x ∈ xs, nlV x = true) → us.any nnU = xs.any nnV
  | _, _, .nil, _ => rfl
  | x :: xs, u :: us, .cons r t, h => by
    rw [List.any_cons, List.any_cons, nnU_all t fun y hy => h y (List.mem_cons_of_mem _ hy)]
    have hx := h x List.mem_cons_self
    cases x <;> first
      | exact absurd (show false = true from hx) Bool.false_ne_true
      | (cases r; rfl)
theorem op_noneIn (hu : X.A.units + 64 < cLine) : OpR X (compareOp .In) (fun x y H Q => x = .non ∧ rNoneIn y H Q) := by
  intro pins s σ H x y v u Q I rx ry h
  obtain ⟨rfl, p, xs, rfl, hp, ha, q⟩ := h
  cases rx
  cases ry
  obtain ⟨its, r, pl, hz⟩ := I.list (SqL.of hp)
  have hnl : ∀ x ∈ xs, nlV x = true := fun x hx => by
    rcases ha x hx with rfl | ⟨b, zs, rfl, _⟩ <;> rfl
  have at_ : ∀ {xs : List V} {us : List Value}, Vals xs us → (∀ x ∈ xs, x = .non ∨ ∃ b zs, x = .ref b ∧ H b = some (.lst zs)) → ∀ w ∈ us, SeqAt.EqAt X.A.in1 s w .none (nnU w) := by
    intro xs us r
    induction r with
    | nil => intro _ w hw; cases hw
    | @cons x u xs us rx t ih =>
      intro h w hw
      rcases List.mem_cons.mp hw with rfl | hw
      · rcases h x List.mem_cons_self with rfl | ⟨b, zs, rfl, hb⟩
        · cases rx
          exact SeqAt.EqAt.same _
        · cases rx
          obtain ⟨its2, r2, pl2, _⟩ := I.list (SqL.of hb)
          exact SeqAt.EqAt.list_none pl2.isList (by show X.A.units + 1 < cLine; omega)
      · exact ih (fun y hy => h y (List.mem_cons_of_mem _ hy)) w hw
  refine SeqAt.in_listAt nnU pl.isList (fun w hw => at_ r ha w (by simpa using hw)) ⟨.bl _, H, I, rfl, ?_⟩
  rw [show its.toArray.any nnU = its.any nnU by simp, nnU_all r hnl]
  exact q
theorem noneInP_some {p : D} {k : Bool → Prop} (h : noneInP p k) : ∃ ys, p = .list ys ∧ ys.all nlD = true ∧ k (ys.any nnD) := by
  unfold noneInP at h
  split at h
  · exact ⟨_, rfl, h.1, h.2⟩
  · exact False.elim h
theorem DRs.nl {K : PySem.W.Frag} {H : Hp} {F : Addr → Prop} : ∀ {vs : List V} {ds : List D}, DRs K H F vs ds → ds.all nlD = true → (∀ x ∈ vs, x = .non ∨ ∃ b zs, x = .ref b ∧ H b = some (.lst zs)) ∧ vs.any nnV = ds.any nnD
  | _, _, .nil, _ => ⟨fun _ h => (nomatch h), rfl⟩
  | x :: vs, d :: ds, .cons r t, h => by
    rw [List.all_cons, Bool.and_eq_true] at h
    obtain ⟨i1, i2⟩ := DRs.nl t h.2
    have h1 := h.1
    have hx : (x = .non ∨ ∃ b zs, x = .ref b ∧ H b = some (.lst zs)) ∧ nnV x = nnD d := by
      cases r <;> first
        | exact absurd (show false = true from h1) Bool.false_ne_true
        | exact ⟨.inl rfl, rfl⟩
        | exact ⟨.inr ⟨_, _, rfl, ‹_›⟩, rfl⟩
    refine ⟨fun y hy => ?_, by rw [List.any_cons, List.any_cons, i2, hx.2]⟩
    rcases List.mem_cons.mp hy with rfl | hy
    · exact hx.1
    · exact i1 y hy
theorem r_noneIn (hu : X.A.units + 64 < cLine) {b : Expr} {sb : SE} {j : Nat} {pos pos2 : Pos} (hb : PE X b (tE X.K Γ fp Wx sb)) (hm : behindInMarks .In b = false := by rfl) :
    PE X (.Compare (.Constant .none j pos) [.In] [b] pos2) (tE X.K Γ fp Wx (.noneIn sb)) :=
  PE.imp (pe_cmpR (op_noneIn hu) pe_non hb hm) fun σ H Q ⟨L, w, ex, k, S, ec, h, ep⟩ => one S ec h fun u w2 y L2 H2 hk S2 n r2 _ => by
    obtain ⟨p, e, hk⟩ := rdP_some hk
    obtain ⟨ys, rfl, h1, hk⟩ := noneInP_some hk
    obtain ⟨a, vs, rfl, ha, r⟩ := (VR.rd S2 r2 e).lst
    obtain ⟨i1, i2⟩ := r.nl h1
    exact ⟨rfl, a, vs, rfl, ha, i1, by rw [i2]; exact ep.fd hk S2 n (.bl _)⟩
/-! ### sum(lists, []) -/
theorem sumLP_some {w : W} {vs : List Vl} {k : Vl → Prop} (h : sumLP w vs k) : ∃ x ys zs, vs = [x, .n (.l [])] ∧ rd w x = some (.list ys) ∧ lstsD ys = some zs ∧ zs.flatten.length ≤ sizeLine ∧ k (.n (.l zs.flatten)) := by
  unfold sumLP at h
  split at h
  · rename_i x
    obtain ⟨p, e, h⟩ := rdP_some h
    cases p <;> first
      | exact False.elim h
      | (obtain ⟨zs, e2, h1, h2⟩ := optP_some h
         exact ⟨x, _, zs, rfl, e, e2, h1, h2⟩)
  · exact False.elim h
theorem lstsD_some : ∀ {ds : List D} {ns : List (List D)}, lstsD ds = some ns → ds = ns.map .list
  | [], _, h => by cases h; rfl
  | d :: ds, ns, h => by
    unfold lstsD at h
    cases d <;> first
      | (simp only at h; cases h; done)
      | (rename_i i
         simp only at h
         cases q : lstsD ds with
         | none => rw [q] at h; cases h
         | some ms => rw [q] at h; cases h; rw [lstsD_some q]; rfl)
theorem DRs.cat {K : PySem.W.Frag} {H : Hp} {F : Addr → Prop} {xs : List V} {ds : List D} : ∀ {ys : List V} {es : List D}, DRs K H F ys es → DRs K H F xs ds → DRs K H F (ys ++ xs) (es ++ ds)
  | _, _, .nil, h => h
  | _, _, .cons r t, h => .cons r (DRs.cat t h)
theorem DRs.its {K : PySem.W.Frag} {H : Hp} {F : Addr → Prop} : ∀ {zs : List (List D)} {vs : List V}, DRs K H F vs (zs.map .list) → ∃ as Zs, vs = as.map V.ref ∧ Its H as Zs ∧ DRs K H F Zs.flatten zs.flatten ∧ (as = [] → zs = [])
  | [], _, .nil => ⟨[], [], rfl, trivial, .nil, fun _ => rfl⟩
  | z :: zs, _, .cons r t => by
    obtain ⟨as, Zs, rfl, i1, i2, _⟩ := DRs.its t
    cases r with
    | lst ha _ r => exact ⟨_ :: as, _ :: Zs, rfl, ⟨ha, i1⟩, DRs.cat r i2, fun e => by cases e⟩
theorem addN_up {L : Addr → Prop} {v : Vl} {x : V} {b : Addr} (h : L b) : addN L v x b := by
  unfold addN
  split
  · exact .inl h
  · exact h
theorem r_sumL (hc : X.calm = true) {e : Expr} {es : List Expr} {ses : SEs} {p pos : Pos} (hg : Gl X "sum") (hm : X.mg "sum" = none) (ha : PA X (e :: es) (tA X.K Γ fp Wx ses)) (he : starEach (e :: es) X.env = (false, eval e X.env) :: starEach es X.env := by rfl) (hpl : (backTo pos (starEach es X.env)).any (·.1) = false := by rfl) :
    PE X (.Call (.Name "sum" p) (e :: es) [] pos) (tE X.K Γ fp Wx (.sumL ses)) :=
  PE.imp (pe_callB (cr_sumL hc) hg hm (by decide +kernel) ha (by decide) (by decide) he hpl) fun σ H Q ⟨L, w, ex, k, S, ec, h, ep⟩ => ⟨L, w, ex, _, S, ec, h, fun vs w1 xs L1 H1 hk S1 n1 rs fs => by
    obtain ⟨v, ys, zs, rfl, e1, e2, hz, hk⟩ := sumLP_some hk
    match xs, rs, fs with
    | [x, y], ⟨r1, r2, _⟩, ⟨f1, f2, _⟩ =>
      obtain ⟨a, vs, rfl, hA, r⟩ := (VR.rd S1 r1 e1).lst
      have := lstsD_some e2
      subst this
      obtain ⟨as, Zs, rfl, i1, i2, i3⟩ := DRs.its r
      obtain ⟨b, rfl, lb, cb⟩ := r2
      have hb : H1 b = some (.lst []) := by
        cases cb with
        | l hH r0 => cases r0; exact hH
      refine ⟨a, b, as, Zs, rfl, hA, hb, i1, by rw [i2.length]; exact hz, fun e => ?_, fun _ p hp => ep.fl S hk S1 n1 i2 hp⟩
      have := i3 e
      subst this
      exact ep (.n (.l [])) w1 (.ref b) L1 H1 hk S1 n1 ⟨b, rfl, lb, cb⟩ (NF.anti (fun _ h => addN_up h) f2)⟩
end
end Lb
set_option maxHeartbeats 1000000
/-! ## Lv -/
/-! Lv: how words are reckoned, head first: what comes later is held back (h1, h2, ..: simp does not look inside) until its time has come. -/
namespace Lb
open PySem L2
abbrev QT := Rv → List (Option CV) → Prop
abbrev ET := Exn → List (Option CV) → Prop
class Tk {α : Sort _} (x : α) : Type where
instance instTk {α : Sort _} (x : α) : Tk x := {}
def h0 (p : Prop) [Tk p] : Prop := p
def h1 {α : Type} (f : α → Prop) [Tk f] : α → Prop := f
def h2 {α β : Type} (f : α → β → Prop) [Tk f] : α → β → Prop := f
def h3 {α β γ : Type} (f : α → β → γ → Prop) [Tk f] : α → β → γ → Prop := f
def h4 {α β γ δ : Type} (f : α → β → γ → δ → Prop) [Tk f] : α → β → γ → δ → Prop := f
theorem h0_eq (p : Prop) [Tk p] : h0 p = p := by unfold h0; rfl
theorem h1_eq {α : Type} (f : α → Prop) [Tk f] (x : α) : h1 f x = f x := by unfold h1; rfl
theorem h2_eq {α β : Type} (f : α → β → Prop) [Tk f] (x : α) (y : β) : h2 f x y = f x y := by unfold h2; rfl
theorem h3_eq {α β γ : Type} (f : α → β → γ → Prop) [Tk f] (x : α) (y : β) (z : γ) : h3 f x y z = f x y z := by unfold h3; rfl
/-! ### a value that must be reckoned first -/
def goR (r : List Sl) (a : List (Option CV)) (k : W → Prop) : Prop := k ⟨r, a⟩
def goX {α : Type} (x : α) (k : α → Prop) : Prop := k x
theorem goR_eq (r : List Sl) (a : List (Option CV)) (k : W → Prop) : goR r a k = k ⟨r, a⟩ := by unfold goR; rfl
theorem goX_eq {α : Type} (x : α) (k : α → Prop) : goX x k = k x := by unfold goX; rfl
/-- a branch: the test alone is looked at -/
def br (c : Prop) [Decidable c] (a b : Prop) : Prop := if c then a else b
theorem br_t {a b : Prop} [Tk a] : br True (h0 a) b = a := by unfold br h0; simp
theorem br_f {a b : Prop} [Tk b] : br False a (h0 b) = b := by unfold br h0; simp
theorem br_split {c : Prop} [Decidable c] {a b : Prop} [Tk a] [Tk b] (h1 : c → a) (h2 : ¬ c → b) : br c (h0 a) (h0 b) := by
  unfold br h0
  split
  · exact h1 ‹_›
  · exact h2 ‹_›
theorem br_pos {c : Prop} [Decidable c] {a b : Prop} [Tk a] [Tk b] (hc : c) (h1 : a) : br c (h0 a) (h0 b) := by
  unfold br h0
  rwa [if_pos hc]
theorem br_neg {c : Prop} [Decidable c] {a b : Prop} [Tk a] [Tk b] (hc : ¬ c) (h1 : b) : br c (h0 a) (h0 b) := by
  unfold br h0
  rwa [if_neg hc]
/-! ### slots -/
theorem g0 {α : Type} (a : α) (r : List α) : (a :: r)[0]? = some a := rfl
theorem gS {α : Type} (a : α) (r : List α) (n : Nat) : (a :: r)[n + 1]? = r[n]? := by simp
theorem s0 {α : Type} (a x : α) (r : List α) : (a :: r).set 0 x = x :: r := rfl
theorem sS {α : Type} (a x : α) (r : List α) (n : Nat) : (a :: r).set (n + 1) x = a :: r.set n x := rfl
/-- a name's value, by what its slot holds -/
def varS (o : Option Sl) (i : Nat) (k : Vl → Prop) : Prop := match o with
  | some (.d x) => k (.d x)
  | some (.o _) => k (.s i)
  | some (.a j) => k (.a j)
  | some (.f x) => k (.f x)
  | some (.z ns) => k (.z ns)
  | some (.x e) => k (.x e)
  | _ => False
section
variable (i : Nat) (k : Vl → Prop)
theorem varP_eq (r : List Sl) (a : List (Option CV)) : varP ⟨r, a⟩ i k = varS r[i]? i k := by unfold varP varS; rfl
theorem varS_d (x : D) : varS (some (.d x)) i k = k (.d x) := by unfold varS; rfl
theorem varS_o (c : CV) : varS (some (.o c)) i k = k (.s i) := by unfold varS; rfl
theorem varS_a (j : Nat) : varS (some (.a j)) i k = k (.a j) := by unfold varS; rfl
theorem varS_f (x : Str) : varS (some (.f x)) i k = k (.f x) := by unfold varS; rfl
theorem varS_x (e : Exn) : varS (some (.x e)) i k = k (.x e) := by unfold varS; rfl
theorem varS_z (ns : List Int) : varS (some (.z ns)) i k = k (.z ns) := by unfold varS; rfl
end
/-- what a slot's thing reads as -/
def rdS {α : Type} (o : Option α) (k : α → Prop) : Prop := match o with
  | some x => k x
  | none => False
theorem rdS_eq {α : Type} (x : α) (k : α → Prop) : rdS (some x) k = k x := by unfold rdS; rfl
theorem optP_eq {α : Type} (o : Option α) (k : α → Prop) : optP o k = rdS o k := by unfold rdS optP; rfl
section
variable (k : D → Prop)
theorem rdP_d (w : W) (x : D) : rdP w (.d x) k = k x := by unfold rdP rd; rfl
theorem rdP_n (w : W) (c : CV) : rdP w (.n c) k = goX c.dat k := by unfold rdP rd goX; rfl
theorem rdP_s (r : List Sl) (a : List (Option CV)) (i : Nat) : rdP ⟨r, a⟩ (.s i) k = rdS (slotDat r[i]?) k := by unfold rdP rd rdS; dsimp only; all_goals (generalize slotDat r[i]? = o; cases o <;> rfl)
theorem rdP_a (r : List Sl) (a : List (Option CV)) (i : Nat) : rdP ⟨r, a⟩ (.a i) k = rdS (argDat a[i]?) k := by unfold rdP rd rdS; dsimp only; all_goals (generalize argDat a[i]? = o; cases o <;> rfl)
end
theorem dat_l (xs : List D) : (CV.l xs).dat = .list xs := by unfold CV.dat; rfl
theorem dat_m (xs : List (D × D)) : (CV.m xs).dat = .dict xs := by unfold CV.dat; rfl
theorem slotDat_d (x : D) : slotDat (some (.d x)) = some x := by unfold slotDat; rfl
theorem slotDat_o (c : CV) : slotDat (some (.o c)) = some c.dat := by unfold slotDat; rfl
theorem argDat_c (c : CV) : argDat (some (some c)) = some c.dat := by unfold argDat; rfl
/-! ### expressions -/
def bindW (w : W) (i : Nat) (x : Sl) (k : W → Prop) : Prop := k (w.setR i x)
def wipP (w : W) (q : List Nat) (k : W → Prop) : Prop := k (wipeW w q)
def restP (w0 w : W) (q : List Nat) (k : W → Prop) : Prop := k (restore w0 w q)
section
variable {Γ : Sg} {w : W} {ex : KX} {k : KV'}
theorem x_v (i : Nat) : evE Γ (.v i) w ex k = varP w i (h1 (fun v => k v w)) := by rw [evE]; rfl
theorem x_k (c : D) : evE Γ (.k c) w ex k = k (.d c) w := by rw [evE]
theorem x_g (x : Str) : evE Γ (.g x) w ex k = rdS (Γ.con x) (h1 (fun c => k (.d c) w)) := by rw [evE]; rfl
theorem x_fn (x : Str) : evE Γ (.fn x) w ex k = k (.f x) w := by rw [evE]
theorem x_bin (o : Bop) (a b : SE) : evE Γ (.bin o a b) w ex k = evE Γ a w ex (h2 (fun x w1 => evE Γ b w1 ex (h2 (fun y w2 => rdP w2 x (h1 (fun p => rdP w2 y (h1 (fun q => binP o p q (h1 (fun v => k v w2)))))))))) := by rw [evE]; rfl
theorem x_neg (a : SE) : evE Γ (.neg a) w ex k = evE Γ a w ex (h2 (fun x w1 => rdP w1 x (h1 (fun p => intP p (h1 (fun i => goX (-i) (h1 (fun i => k (.d (.int i)) w1)))))))) := by
  rw [evE]; unfold h2; congr
theorem x_cmp (o : Cop) (a b : SE) : evE Γ (.cmp o a b) w ex k = evE Γ a w ex (h2 (fun x w1 => evE Γ b w1 ex (h2 (fun y w2 => rdP w2 x (h1 (fun p => rdP w2 y (h1 (fun q => cmpP o p q (h1 (fun v => k (.d (.bool v)) w2)))))))))) := by rw [evE]; rfl
theorem x_chain (o p : Cop) (a b c : SE) : evE Γ (.chain o p a b c) w ex k = evE Γ a w ex (h2 (fun x w1 => evE Γ b w1 ex (h2 (fun y w2 => rdP w2 x (h1 (fun x' => rdP w2 y (h1 (fun y' => cmpP o x' y' (h1 (fun r =>
      br (r = true) (h0 (evE Γ c w2 ex (h2 (fun z w3 => rdP w3 y (h1 (fun y'' => rdP w3 z (h1 (fun z' => cmpP p y'' z' (h1 (fun v => k (.d (.bool v)) w3)))))))))) (h0 (k (.d (.bool false)) w2)))))))))))) := by rw [evE]; rfl
theorem x_isN (neg : Bool) (a : SE) : evE Γ (.isN neg a) w ex k = evE Γ a w ex (h2 (fun x w1 => isNP w1 x (h1 (fun r => goX (neg != r) (h1 (fun r => k (.d (.bool r)) w1)))))) := by rw [evE]; rfl
theorem x_isB (neg c : Bool) (a : SE) : evE Γ (.isB neg c a) w ex k = evE Γ a w ex (h2 (fun x w1 => rdP w1 x (h1 (fun p => truP p (h1 (fun r => goX (neg != decide (r = c)) (h1 (fun r => k (.d (.bool r)) w1)))))))) := by rw [evE]; rfl
theorem x_and (a b : SE) : evE Γ (.and a b) w ex k = evE Γ a w ex (h2 (fun x w1 => rdP w1 x (h1 (fun p => truP p (h1 (fun r => br (r = true) (h0 (evE Γ b w1 ex k)) (h0 (k (.d (.bool false)) w1)))))))) := by rw [evE]; rfl
theorem x_or (a b : SE) : evE Γ (.or a b) w ex k = evE Γ a w ex (h2 (fun x w1 => rdP w1 x (h1 (fun p => truP p (h1 (fun r => br (r = true) (h0 (k (.d (.bool true)) w1)) (h0 (evE Γ b w1 ex k)))))))) := by rw [evE]; rfl
theorem x_not (a : SE) : evE Γ (.not a) w ex k = evE Γ a w ex (h2 (fun x w1 => rdP w1 x (h1 (fun p => truP p (h1 (fun r => goX (!r) (h1 (fun r => k (.d (.bool r)) w1)))))))) := by rw [evE]; rfl
theorem x_ife (t : ST) (a b : SE) : evE Γ (.ife t a b) w ex k = evT Γ t w ex (h2 (fun r w1 => br (r = true) (h0 (evE Γ a w1 ex k)) (h0 (evE Γ b w1 ex k)))) := by rw [evE]; rfl
theorem x_tup (es : SEs) : evE Γ (.tup es) w ex k = evD Γ es w ex (h2 (fun xs w1 => xs.length ≤ sizeLine ∧ k (.d (.tuple xs)) w1)) := by rw [evE]; rfl
theorem x_lst (es : SEs) : evE Γ (.lst es) w ex k = evD Γ es w ex (h2 (fun xs w1 => xs.length ≤ sizeLine ∧ k (.n (.l xs)) w1)) := by rw [evE]; rfl
theorem x_dic0 : evE Γ .dic0 w ex k = k (.n (.m [])) w := by rw [evE]
theorem x_dic1 (a b : SE) : evE Γ (.dic1 a b) w ex k = evE Γ a w ex (h2 (fun x w1 => evE Γ b w1 ex (h2 (fun y w2 => rdP w2 x (h1 (fun p => datP w2 y (h2 (fun q w3 => strP p (h1 (fun z => k (.n (.m [(.str z, q)])) w3)))))))))) := by
  rw [evE]; unfold h2; congr
theorem x_ix (a b : SE) : evE Γ (.ix a b) w ex k = evE Γ a w ex (h2 (fun x w1 => evE Γ b w1 ex (h2 (fun y w2 => rdP w2 y (h1 (fun q => rdP w2 x (h1 (fun p => ixP p q (h1 (fun v => k (.d v) w2)))))))))) := by rw [evE]; rfl
/-- the script's length, an item of it -/
def zS (o : Option Sl) (k : List Int → Prop) : Prop := match o with
  | some (.z ns) => k ns
  | _ => False
theorem zS_eq (ns : List Int) (k : List Int → Prop) : zS (some (.z ns)) k = k ns := by unfold zS; rfl
theorem x_zlen (r : List Sl) (a : List (Option CV)) (i : Nat) : evE Γ (.zlen i) ⟨r, a⟩ ex k = zS r[i]? (h1 (fun ns => k (.d (.int (ns.length : Nat))) ⟨r, a⟩)) := by
  rw [evE]; show _ = zS r[i]? _; unfold h1; show (match r[i]? with | some (.z ns) => _ | _ => False) = _; generalize r[i]? = o; (cases o with | none => rfl | some s => cases s <;> rfl)
theorem x_zix (r : List Sl) (a : List (Option CV)) (i : Nat) (b : SE) : evE Γ (.zix i b) ⟨r, a⟩ ex k = zS r[i]? (h1 (fun ns => evE Γ b ⟨r, a⟩ ex (h2 (fun y w1 => rdP w1 y (h1 (fun q => intP q (h1 (fun n => rdS (atI ns n) (h1 (fun m => k (.d (.int m)) w1)))))))))) := by
  rw [evE]; unfold h1 h2; show (match r[i]? with | some (.z ns) => _ | _ => False) = _; generalize r[i]? = o; (cases o with | none => rfl | some s => cases s <;> rfl)
theorem x_sl (a : SE) (lo hi : SO) : evE Γ (.sl a lo hi) w ex k = evE Γ a w ex (h2 (fun x w1 => evO Γ lo w1 ex (h2 (fun l w2 => evO Γ hi w2 ex (h2 (fun h w3 => rdP w3 x (h1 (fun p => slP p l h (h1 (fun v => k v w3)))))))))) := by rw [evE]; rfl
theorem x_rv (a : SE) : evE Γ (.rv a) w ex k = evE Γ a w ex (h2 (fun x w1 => rdP w1 x (h1 (fun p => rvP p (h1 (fun v => k v w1)))))) := by rw [evE]; rfl
theorem x_call (f : Str) (es : SEs) : evE Γ (.call f es) w ex k = evA Γ es w ex (h2 (fun vs w1 => callP Γ f vs w1 ex k)) := by rw [evE]; rfl
def fS (o : Option Sl) (k : Str → Prop) : Prop := match o with
  | some (.f x) => k x
  | _ => False
theorem fS_eq (x : Str) (k : Str → Prop) : fS (some (.f x)) k = k x := by unfold fS; rfl
theorem x_callv (r : List Sl) (a : List (Option CV)) (i : Nat) (es : SEs) : evE Γ (.callv i es) ⟨r, a⟩ ex k = fS r[i]? (h1 (fun x => XCL.contains x = false ∧ evA Γ es ⟨r, a⟩ ex (h2 (fun vs w1 => callP Γ x vs w1 ex k)))) := by
  rw [evE]; unfold h1 h2; show (match r[i]? with | some (.f x) => _ | _ => False) = _; generalize r[i]? = o; (cases o with | none => rfl | some s => cases s <;> rfl)
theorem x_isx (a : SE) (c : Str) : evE Γ (.isx a c) w ex k = evE Γ a w ex (h2 (fun v w1 => isxP v c (h1 (fun b => k (.d (.bool b)) w1)))) := by rw [evE]; rfl
theorem isxP_x (e : Exn) (c : Str) (kb : Bool → Prop) : isxP (.x e) c kb = (e.cls ∈ XCL ∧ kb (subX e.cls c)) := by unfold isxP; rfl
theorem x_cnt (o e : SE) : evE Γ (.cnt o e) w ex k = evE Γ o w ex (h2 (fun v w1 => lstP w1 v (h0 (evE Γ e w1 ex (h2 (fun u w2 => rdP w2 v (h1 (fun p => rdP w2 u (h1 (fun q => cntP p q (h1 (fun n => k (.d (.int n)) w2)))))))))))) := by rw [evE]; rfl
theorem x_idx (o e : SE) : evE Γ (.idx o e) w ex k = evE Γ o w ex (h2 (fun v w1 => lstP w1 v (h0 (evE Γ e w1 ex (h2 (fun u w2 => rdP w2 v (h1 (fun p => rdP w2 u (h1 (fun q => idxP p q (h1 (fun n => k (.d (.int n)) w2)))))))))))) := by rw [evE]; rfl
theorem cntP_l (xs : List D) (x : D) (kb : Int → Prop) : cntP (.list xs) x kb = ((flatD x = true ∧ xs.all flatD = true) ∧ goX ((xs.countP (eqFlat x) : Nat) : Int) kb) := by unfold cntP goX; rfl
theorem idxP_l (xs : List D) (x : D) (kb : Int → Prop) : idxP (.list xs) x kb = ((flatD x = true ∧ xs.all flatD = true) ∧ rdS (xs.findIdx? (eqFlat x)) (h1 (fun j => kb (j : Nat)))) := by unfold idxP h1; rfl
theorem x_bi (b : Bi) (es : SEs) : evE Γ (.bi b es) w ex k = evA Γ es w ex (h2 (fun vs w1 => rdsP w1 vs (h1 (fun xs => biP b xs (h1 (fun v => k v w1)))))) := by rw [evE]; rfl
theorem x_app (o e : SE) : evE Γ (.app o e) w ex k = evE Γ o w ex (h2 (fun x w1 => lstP w1 x (h0 (evE Γ e w1 ex (h2 (fun v w2 => datP w2 v (h2 (fun q w3 => appP w3 x q (h1 (fun w4 => k (.d .none) w4)))))))))) := by rw [evE]; rfl
theorem x_pop (o : SE) : evE Γ (.pop o) w ex k = evE Γ o w ex (h2 (fun x w1 => lstP w1 x (h0 (popP w1 x (h2 (fun y w2 => k (.d y) w2)))))) := by rw [evE]; rfl
theorem x_ext (o e : SE) : evE Γ (.ext o e) w ex k = evE Γ o w ex (h2 (fun x w1 => lstP w1 x (h0 (evE Γ e w1 ex (h2 (fun v w2 => rdP w2 v (h1 (fun q => extP w2 x q (h1 (fun w3 => k (.d .none) w3)))))))))) := by rw [evE]; rfl
theorem x_join (o e : SE) : evE Γ (.join o e) w ex k = evE Γ o w ex (h2 (fun x w1 => rdP w1 x (h1 (fun p => strP p (h1 (fun a => evE Γ e w1 ex (h2 (fun v w2 => rdP w2 v (h1 (fun q => rdS (itemsD q) (h1 (fun ys => rdS (strsD ys) (h1 (fun zs => mtJoin a zs (h1 (fun v => k v w2)))))))))))))))) := by rw [evE]; rfl
theorem x_sumL (es : SEs) : evE Γ (.sumL es) w ex k = evA Γ es w ex (h2 (fun vs w1 => sumLP w1 vs (h1 (fun v => k v w1)))) := by rw [evE]; rfl
theorem x_noneIn (a : SE) : evE Γ (.noneIn a) w ex k = evE Γ a w ex (h2 (fun x w1 => rdP w1 x (h1 (fun p => noneInP p (h1 (fun b => k (.d (.bool b)) w1)))))) := by rw [evE]; rfl
theorem noneInP_l (ys : List D) (kb : Bool → Prop) : noneInP (.list ys) kb = (ys.all nlD = true ∧ goX (ys.any nnD) kb) := by unfold noneInP goX; rfl
theorem x_upper (o : SE) : evE Γ (.upper o) w ex k = evE Γ o w ex (h2 (fun x w1 => rdP w1 x (h1 (fun p => strP p (h1 (fun a => a.length ≤ 5592405 ∧ k (.d (.str (Txt.upper a))) w1)))))) := by rw [evE]; rfl
theorem x_lc (own : List Nat) (e : SE) (tg : Tg) (it : SI) (c : SC) : evE Γ (.lc own e tg it c) w ex k = evI Γ it w ex (h3 (fun v ds w1 => ownOk w1 own ∧
      walkC (h1 (sameAs v ds)) (h3 (fun x w' ky => wipP w' own (h1 (fun w'' => tgP tg x w'' (h1 (fun w2 => evC Γ c w2 (fun _ _ => False) (h2 (fun r w3 =>
        br (r = true) (h0 (evE Γ e w3 (fun _ _ => False) (h2 (fun y w4 => datP w4 y (h2 (fun q w5 => restP w1 w5 own (h1 (fun w6 => ky (some q) w6)))))))) (h0 (restP w1 w3 own (h1 (fun w6 => ky none w6)))))))))))) ds [] w1 (h2 (fun acc w' => k (.n (.l acc)) w')))) := by rw [evE]; rfl
end
section
variable {Γ : Sg} {w : W} {ex : KX}
theorem y_e {k : Bool → W → Prop} (a : SE) : evT Γ (.e a) w ex k = evE Γ a w ex (h2 (fun x w1 => rdP w1 x (h1 (fun p => truP p (h1 (fun r => k r w1)))))) := by rw [evT]; rfl
theorem y_tr {k : Bool → W → Prop} (a : SE) : evT Γ (.tr a) w ex k = evE Γ a w ex (h2 (fun x w1 => rdP w1 x (h1 (fun p => truA p (h1 (fun r => k r w1)))))) := by rw [evT]; rfl
theorem y_not {k : Bool → W → Prop} (a : ST) : evT Γ (.not a) w ex k = evT Γ a w ex (h2 (fun r w1 => goX (!r) (h1 (fun r => k r w1)))) := by rw [evT]; rfl
theorem y_and {k : Bool → W → Prop} (a b : ST) : evT Γ (.and a b) w ex k = evT Γ a w ex (h2 (fun r w1 => br (r = true) (h0 (evT Γ b w1 ex k)) (h0 (k false w1)))) := by rw [evT]; rfl
theorem y_or {k : Bool → W → Prop} (a b : ST) : evT Γ (.or a b) w ex k = evT Γ a w ex (h2 (fun r w1 => br (r = true) (h0 (k true w1)) (h0 (evT Γ b w1 ex k)))) := by rw [evT]; rfl
theorem a_nil' {k : List Vl → W → Prop} : evA Γ .nil w ex k = k [] w := by rw [evA]
theorem a_cons' {k : List Vl → W → Prop} (a : SE) (r : SEs) : evA Γ (.cons a r) w ex k = evE Γ a w ex (h2 (fun x w1 => evA Γ r w1 ex (h2 (fun xs w2 => k (x :: xs) w2)))) := by rw [evA]; rfl
theorem d_nil' {k : List D → W → Prop} : evD Γ .nil w ex k = k [] w := by rw [evD]
theorem d_cons' {k : List D → W → Prop} (a : SE) (r : SEs) : evD Γ (.cons a r) w ex k = evE Γ a w ex (h2 (fun x w1 => datP w1 x (h2 (fun p w2 => evD Γ r w2 ex (h2 (fun xs w3 => k (p :: xs) w3)))))) := by rw [evD]; rfl
theorem o_no' {k : Option Int → W → Prop} : evO Γ .no w ex k = k none w := by rw [evO]
theorem o_so' {k : Option Int → W → Prop} (a : SE) : evO Γ (.so a) w ex k = evE Γ a w ex (h2 (fun x w1 => rdP w1 x (h1 (fun p => intP p (h1 (fun i => k (some i) w1)))))) := by
  rw [evO]; unfold h2 h1; congr
theorem j_seq {k : Vl → List D → W → Prop} (a : SE) : evI Γ (.seq a) w ex k = evE Γ a w ex (h2 (fun x w1 => seqP w1 x k)) := by rw [evI]; rfl
theorem j_str {k : Vl → List D → W → Prop} (a : SE) : evI Γ (.str a) w ex k = evE Γ a w ex (h2 (fun x w1 => rdP w1 x (h1 (fun p => strP p (h1 (fun z => k (.d (.str z)) (signsD z) w1)))))) := by
  rw [evI]; unfold h2 h1; congr; funext x w1; congr; funext p; cases p <;> rfl
theorem j_rng1 {k : Vl → List D → W → Prop} (a : SE) : evI Γ (.rng1 a) w ex k = evE Γ a w ex (h2 (fun x w1 => rdP w1 x (h1 (fun p => intP p (h1 (fun n => (-(2 ^ 62) ≤ n ∧ n < 2 ^ 62) ∧ k (.d .none) (rng1D n) w1)))))) := by rw [evI]; rfl
theorem j_rng2 {k : Vl → List D → W → Prop} (a b : SE) : evI Γ (.rng2 a b) w ex k = evE Γ a w ex (h2 (fun x w1 => evE Γ b w1 ex (h2 (fun y w2 => rdP w2 x (h1 (fun p => rdP w2 y (h1 (fun q => intP p (h1 (fun i => intP q (h1 (fun j => (-(2 ^ 62) ≤ i ∧ i < 2 ^ 62 ∧ -(2 ^ 62) ≤ j ∧ j < 2 ^ 62) ∧ k (.d .none) (rng2D i j) w2)))))))))))) := by rw [evI]; rfl
theorem c_no' {k : Bool → W → Prop} : evC Γ .no w ex k = k true w := by rw [evC]
theorem c_so' {k : Bool → W → Prop} (t : ST) : evC Γ (.so t) w ex k = evT Γ t w ex k := by rw [evC]
end
/-! ### statements -/
section
variable {Γ : Sg} {w : W} {n : W → Prop} {rt : Vl → W → Prop} {bk ct : W → Prop} {ex : KX}
theorem q_nil : evSs Γ [] w ⟨n, rt, bk, ct, ex⟩ = n w := by rw [evSs]
theorem q_cons (s : SS) (r : List SS) : evSs Γ (s :: r) w ⟨n, rt, bk, ct, ex⟩ = evS Γ s w ⟨(h1 (fun w' => evSs Γ r w' ⟨n, rt, bk, ct, ex⟩)), rt, bk, ct, ex⟩ := by rw [evSs]; rfl
theorem z_asg (tg : Tg) (e : SE) : evS Γ (.asg tg e) w ⟨n, rt, bk, ct, ex⟩ = evE Γ e w ex (h2 (fun v w1 => tgV tg v w1 n)) := by rw [evS]; rfl
theorem z_par (i j : Nat) (a b : SE) : evS Γ (.par i j a b) w ⟨n, rt, bk, ct, ex⟩ = evE Γ a w ex (h2 (fun x w1 => valP w1 x (h2 (fun x' w2 => evE Γ b w2 ex (h2 (fun y w3 => valP w3 y (h2 (fun y' w4 => bindP w4 i x' (h1 (fun w5 => bindP w5 j y' n)))))))))) := by rw [evS]; rfl
theorem z_aug (i : Nat) (o : Bop) (e : SE) : evS Γ (.aug i o e) w ⟨n, rt, bk, ct, ex⟩ = varP w i (h1 (fun x => evE Γ e w ex (h2 (fun y w1 => rdP w1 x (h1 (fun p => rdP w1 y (h1 (fun q => augP o p q (h1 (fun z => bindP w1 i (.d z) n)))))))))) := by rw [evS]; rfl
theorem z_put (o i e : SE) : evS Γ (.put o i e) w ⟨n, rt, bk, ct, ex⟩ = evE Γ e w ex (h2 (fun v w1 => datP w1 v (h2 (fun x w2 => evE Γ o w2 ex (h2 (fun y w3 => evE Γ i w3 ex (h2 (fun z w4 => rdP w4 z (h1 (fun q => putIxP w4 y q x n)))))))))) := by rw [evS]; rfl
theorem z_ex (e : SE) : evS Γ (.ex e) w ⟨n, rt, bk, ct, ex⟩ = evE Γ e w ex (h2 (fun _ w1 => n w1)) := by rw [evS]; rfl
theorem z_ret (e : SE) : evS Γ (.ret e) w ⟨n, rt, bk, ct, ex⟩ = evE Γ e w ex rt := by rw [evS]
theorem z_retN : evS Γ .retN w ⟨n, rt, bk, ct, ex⟩ = rt (.d .none) w := by rw [evS]
theorem z_ite (c : ST) (a b : List SS) : evS Γ (.ite c a b) w ⟨n, rt, bk, ct, ex⟩ = evT Γ c w ex (h2 (fun r w1 => br (r = true) (h0 (evSs Γ a w1 ⟨n, rt, bk, ct, ex⟩)) (h0 (evSs Γ b w1 ⟨n, rt, bk, ct, ex⟩)))) := by rw [evS]; rfl
theorem z_for (tg : Tg) (it : SI) (b : List SS) : evS Γ (.for tg it b) w ⟨n, rt, bk, ct, ex⟩ = evI Γ it w ex (h3 (fun v ds w1 =>
      walk (h1 (sameAs v ds)) (h4 (fun x w' k b' => tgP tg x w' (h1 (fun w2 => evSs Γ b w2 ⟨k, rt, b', k, ex⟩)))) ds w1 n n)) := by rw [evS]; rfl
theorem z_whl (c : ST) (b : List SS) : evS Γ (.whl c b) w ⟨n, rt, bk, ct, ex⟩ = ∃ m, whileN (h2 (fun w' k => evT Γ c w' ex k)) (h2 (fun w' k => evSs Γ b w' ⟨k, rt, n, k, ex⟩)) n m w := by rw [evS]; rfl
theorem z_pass : evS Γ .pass w ⟨n, rt, bk, ct, ex⟩ = n w := by rw [evS]
theorem z_brk : evS Γ .brk w ⟨n, rt, bk, ct, ex⟩ = bk w := by rw [evS]
theorem z_cont : evS Γ .cont w ⟨n, rt, bk, ct, ex⟩ = ct w := by rw [evS]
theorem z_rais (x : Str) : evS Γ (.rais x) w ⟨n, rt, bk, ct, ex⟩ = ex ⟨x, .none⟩ w := by rw [evS]
theorem z_tryx (b h : List SS) (c : Str) (i : Nat) : evS Γ (.tryx b c i h) w ⟨n, rt, bk, ct, ex⟩ = evSs Γ b w ⟨n, rt, bk, ct, (h2 (fun e w1 => br (subX e.cls c = true) (h0 (e.arg = .none ∧ bindW w1 i (.x e) (h1 (fun w2 => evSs Γ h w2 ⟨(h1 (fun w3 => bindW w3 i .no n)), rt, (h1 (fun w3 => bindW w3 i .no bk)), (h1 (fun w3 => bindW w3 i .no ct)), fun _ _ => False⟩)))) (h0 (ex e w1))))⟩ := by
  rw [evS]; unfold tryD suiteD h0 h1 h2 br bindW; rfl
theorem z_augIx (o i e : SE) (op : Bop) : evS Γ (.augIx o i op e) w ⟨n, rt, bk, ct, ex⟩ = evE Γ o w ex (h2 (fun x w1 => evE Γ i w1 ex (h2 (fun y w2 => rdP w2 y (h1 (fun q => intP q (h1 (fun m => 0 ≤ m ∧ getCP w2 x (h1 (fun c => rdP w2 (.n c) (h1 (fun p => ixP p (.int m) (h1 (fun z => evE Γ e w2 ex (h2 (fun v w3 => rdP w3 v (h1 (fun u => augP op z u (h1 (fun r => putIxP w3 x (.int m) r n)))))))))))))))))))) := by rw [evS]; rfl
end
theorem h4_eq {α β γ δ : Type} (f : α → β → γ → δ → Prop) [Tk f] (x : α) (y : β) (z : γ) (u : δ) : h4 f x y z u = f x y z u := by unfold h4; rfl
theorem dEnds_mk (ags : List Ag) (Q : QT) (E : ET) : dEnds ags Q E = ⟨(h1 (fun w => shpB ags w.a = true ∧ Q (.d .none) w.a)), (h2 (fun v w => shpB ags w.a = true ∧ rdS (rvOf w v) (h1 (fun r => Q r w.a)))), fun _ => False, fun _ => False, (h2 (fun e w => shpB ags w.a = true ∧ E e w.a))⟩ := by unfold dEnds h1 h2; rfl
/-! ### reading, storing -/
section
variable (r : List Sl) (a : List (Option CV)) (k : W → Prop)
theorem bindP_d (i : Nat) (x : D) : bindP ⟨r, a⟩ i (.d x) k = goR (r.set i (.d x)) a k := by unfold bindP goR W.setR; rfl
theorem bindP_n (i : Nat) (c : CV) : bindP ⟨r, a⟩ i (.n c) k = goR (r.set i (.o c)) a k := by unfold bindP goR W.setR; rfl
theorem bindP_x (i : Nat) (e : Exn) : bindP ⟨r, a⟩ i (.x e) k = goR (r.set i (.x e)) a k := by unfold bindP goR W.setR; rfl
theorem bindP_f (i : Nat) (x : Str) : bindP ⟨r, a⟩ i (.f x) k = goR (r.set i (.f x)) a k := by unfold bindP goR W.setR; rfl
def bindA (o : Option (Option CV)) (k : Prop) : Prop := match o with
  | some (some _) => k
  | _ => False
theorem bindA_eq (c : CV) (p : Prop) [Tk p] : bindA (some (some c)) (h0 p) = p := by unfold bindA h0; rfl
theorem bindP_a (i j : Nat) : bindP ⟨r, a⟩ i (.a j) k = bindA a[j]? (h0 (goR (r.set i (.a j)) a k)) := by
  unfold bindP goR h0 bindA W.setR; dsimp only; all_goals (generalize a[j]? = o; (cases o with | none => rfl | some o => cases o <;> rfl))
def bindS (o : Option Sl) (i j : Nat) (r : List Sl) (a : List (Option CV)) (k : W → Prop) : Prop := match o with
  | some (.o c) => if i = j then k ⟨r, a⟩ else goR ((r.set j (.d c.dat)).set i (.d c.dat)) a k
  | some (.d x) => goR (r.set i (.d x)) a k
  | _ => False
theorem bindS_o (c : CV) (i j : Nat) : bindS (some (.o c)) i j r a k = if i = j then k ⟨r, a⟩ else goR ((r.set j (.d c.dat)).set i (.d c.dat)) a k := by unfold bindS; rfl
theorem bindS_d (x : D) (i j : Nat) : bindS (some (.d x)) i j r a k = goR (r.set i (.d x)) a k := by unfold bindS; rfl
theorem bindP_s (i j : Nat) : bindP ⟨r, a⟩ i (.s j) k = bindS r[j]? i j r a k := by
  unfold bindP bindS goR W.setR; dsimp only; all_goals (generalize r[j]? = o; (cases o with | none => rfl | some s => cases s <;> rfl))
theorem tgV_v (i : Nat) (v : Vl) (w : W) : tgV (.v i) v w k = bindP w i v k := by unfold tgV; rfl
theorem tgV_t (ts : Tgs) (v : Vl) (w : W) : tgV (.t ts) v w k = rdP w v (h1 (fun x => tgP (.t ts) x w k)) := by unfold tgV h1; rfl
theorem tgP_v (i : Nat) (x : D) : tgP (.v i) x ⟨r, a⟩ k = goR (r.set i (.d x)) a k := by unfold tgP goR W.setR; rfl
theorem tgP_t (ts : Tgs) (xs : List D) (w : W) : tgP (.t ts) (.tuple xs) w k = tgsP ts xs w k := by rw [tgP]
theorem tgsP_nil (w : W) : tgsP .nil [] w k = k w := by rw [tgsP]; simp
theorem tgsP_cons (t : Tg) (ts : Tgs) (x : D) (xs : List D) (w : W) : tgsP (.cons t ts) (x :: xs) w k = tgP t x w (h1 (fun w' => tgsP ts xs w' k)) := by rw [tgsP]; rfl
end
section
variable (r : List Sl) (a : List (Option CV)) (w : W) (k : D → W → Prop)
theorem datP_d (x : D) : datP w (.d x) k = k x w := by unfold datP; rfl
theorem datP_n (c : CV) : datP w (.n c) k = goX c.dat (h1 (fun x => k x w)) := by unfold datP goX h1; rfl
def datS (o : Option Sl) (i : Nat) (r : List Sl) (a : List (Option CV)) (k : D → W → Prop) : Prop := match o with
  | some (.o c) => goX c.dat (h1 (fun x => goR (r.set i (.d x)) a (h1 (fun w => k x w))))
  | some (.d x) => k x ⟨r, a⟩
  | _ => False
theorem datS_o (c : CV) (i : Nat) : datS (some (.o c)) i r a k = goX c.dat (h1 (fun x => goR (r.set i (.d x)) a (h1 (fun w => k x w)))) := by unfold datS; rfl
theorem datS_d (x : D) (i : Nat) : datS (some (.d x)) i r a k = k x ⟨r, a⟩ := by unfold datS; rfl
theorem datP_s (i : Nat) : datP ⟨r, a⟩ (.s i) k = datS r[i]? i r a k := by
  unfold datP datS goX goR h1 W.setR; dsimp only; all_goals (generalize r[i]? = o; (cases o with | none => rfl | some s => cases s <;> rfl))
variable (kv : Vl → W → Prop)
theorem valP_n (c : CV) : valP w (.n c) kv = kv (.n c) w := by unfold valP; rfl
theorem valP_d (x : D) : valP w (.d x) kv = kv (.d x) w := by unfold valP datP; rfl
theorem valP_s (i : Nat) : valP w (.s i) kv = datP w (.s i) (h2 (fun x w' => kv (.d x) w')) := by unfold valP h2; rfl
variable (ks : Vl → List D → W → Prop)
def seqA (o : Option (Option CV)) (i : Nat) (w : W) (k : Vl → List D → W → Prop) : Prop := match o with
  | some (some (.l ds)) => k (.a i) ds w
  | _ => False
theorem seqA_eq (ds : List D) (i : Nat) : seqA (some (some (.l ds))) i w ks = ks (.a i) ds w := by unfold seqA; rfl
theorem seqP_a (i : Nat) : seqP ⟨r, a⟩ (.a i) ks = seqA a[i]? i ⟨r, a⟩ ks := by
  unfold seqP seqA; dsimp only; all_goals (generalize a[i]? = o; (cases o with | none => rfl | some o => (cases o with | none => rfl | some c => cases c <;> rfl)))
def seqD (p : D) (w : W) (k : Vl → List D → W → Prop) : Prop := match p with
  | .list xs => k (.d p) xs w
  | .tuple xs => k (.d p) xs w
  | _ => False
theorem seqD_l (xs : List D) : seqD (.list xs) w ks = ks (.d (.list xs)) xs w := by unfold seqD; rfl
theorem seqD_t (xs : List D) : seqD (.tuple xs) w ks = ks (.d (.tuple xs)) xs w := by unfold seqD; rfl
theorem seqP_d (x : D) : seqP w (.d x) ks = seqD x w ks := by unfold seqP datP seqD; rfl
theorem seqP_n (c : CV) : seqP w (.n c) ks = goX c.dat (h1 (fun x => seqD x w ks)) := by unfold seqP datP seqD goX h1; rfl
theorem seqP_s (i : Nat) : seqP w (.s i) ks = datP w (.s i) (h2 (fun x w' => seqD x w' ks)) := by unfold seqP seqD h2; rfl
end
section
variable (r : List Sl) (a : List (Option CV)) (w : W) (k : Bool → Prop)
theorem isNP_none : isNP w (.d .none) k = k true := by unfold isNP; rfl
theorem isNP_bool (b : Bool) : isNP w (.d (.bool b)) k = k false := by unfold isNP; rfl
theorem isNP_int (b : Int) : isNP w (.d (.int b)) k = k false := by unfold isNP; rfl
theorem isNP_str (b : Str) : isNP w (.d (.str b)) k = k false := by unfold isNP; rfl
theorem isNP_list (b : List D) : isNP w (.d (.list b)) k = k false := by unfold isNP; rfl
theorem isNP_tuple (b : List D) : isNP w (.d (.tuple b)) k = k false := by unfold isNP; rfl
theorem isNP_dict (b : List (D × D)) : isNP w (.d (.dict b)) k = k false := by unfold isNP; rfl
theorem isNP_n (c : CV) : isNP w (.n c) k = k false := by unfold isNP; rfl
theorem isNP_x (e : Exn) : isNP w (.x e) k = k false := by unfold isNP; rfl
theorem isNP_f (c : Str) : isNP w (.f c) k = k false := by unfold isNP; rfl
def getS (o : Option Sl) (k : CV → Prop) : Prop := match o with
  | some (.o c) => k c
  | _ => False
def getA (o : Option (Option CV)) (k : CV → Prop) : Prop := match o with
  | some (some c) => k c
  | _ => False
variable (kc : CV → Prop)
theorem getS_eq (c : CV) : getS (some (.o c)) kc = kc c := by unfold getS; rfl
theorem getA_eq (c : CV) : getA (some (some c)) kc = kc c := by unfold getA; rfl
theorem getCP_s (i : Nat) : getCP ⟨r, a⟩ (.s i) kc = getS r[i]? kc := by
  unfold getCP getC getS; dsimp only; all_goals (generalize r[i]? = o; (cases o with | none => rfl | some s => cases s <;> rfl))
theorem getCP_a (i : Nat) : getCP ⟨r, a⟩ (.a i) kc = getA a[i]? kc := by
  unfold getCP getC getA; dsimp only; all_goals (generalize a[i]? = o; (cases o with | none => rfl | some o => cases o <;> rfl))
theorem isNP_s (i : Nat) : isNP ⟨r, a⟩ (.s i) k = getCP ⟨r, a⟩ (.s i) (h1 (fun _ => k false)) := by unfold isNP h1; rfl
theorem isNP_a (i : Nat) : isNP ⟨r, a⟩ (.a i) k = getCP ⟨r, a⟩ (.a i) (h1 (fun _ => k false)) := by unfold isNP h1; rfl
/-- put back -/
def putP (w : W) (v : Vl) (c : CV) (k : W → Prop) : Prop := k (w.putC v c)
variable (kw : W → Prop)
theorem putP_s (i : Nat) (c : CV) : putP ⟨r, a⟩ (.s i) c kw = goR (r.set i (.o c)) a kw := by unfold putP W.putC goR; rfl
theorem putP_a (i : Nat) (c : CV) : putP ⟨r, a⟩ (.a i) c kw = goR r (a.set i (some c)) kw := by unfold putP W.putC goR; rfl
def lisP (c : CV) (k : List D → Prop) : Prop := match c with
  | .l xs => k xs
  | _ => False
variable (kl : List D → Prop)
theorem lisP_eq (xs : List D) : lisP (.l xs) kl = kl xs := by unfold lisP; rfl
theorem appP_eq (v : Vl) (x : D) : appP w v x kw = getCP w v (h1 (fun c => lisP c (h1 (fun xs => xs.length < sizeLine ∧ goX (xs ++ [x]) (h1 (fun ys => putP w v (.l ys) kw)))))) := by
  unfold appP h1; congr
def lisD (x : D) (k : List D → Prop) : Prop := match x with
  | .list xs => k xs
  | _ => False
theorem lisD_eq (xs : List D) : lisD (.list xs) kl = kl xs := by unfold lisD; rfl
def itmD (x : D) (k : List D → Prop) : Prop := match x with
  | .list xs => k xs
  | .tuple xs => k xs
  | _ => False
theorem itmD_l (xs : List D) : itmD (.list xs) kl = kl xs := by unfold itmD; rfl
theorem itmD_t (xs : List D) : itmD (.tuple xs) kl = kl xs := by unfold itmD; rfl
theorem extP_eq (v : Vl) (x : D) : extP w v x kw = getCP w v (h1 (fun c => lisP c (h1 (fun xs => itmD x (h1 (fun zs => xs.length + zs.length ≤ sizeLine ∧ goX (xs ++ zs) (h1 (fun ys => putP w v (.l ys) kw)))))))) := by
  unfold extP h1; congr; funext c; cases c <;> cases x <;> rfl
end

section
variable (r : List Sl) (a : List (Option CV)) (w : W)
theorem popP_eq (v : Vl) (kd : D → W → Prop) : popP w v kd = getCP w v (h1 (fun c => lisP c (h1 (fun xs => rdS xs[xs.length - 1]? (h1 (fun y => goX xs.dropLast (h1 (fun ys => putP w v (.l ys) (h1 (fun w' => kd y w')))))))))) := by
  unfold popP h1; congr; funext c
  cases c with
  | m _ => rfl
  | l xs => dsimp only [lisP, rdS, goX, putP]; all_goals (generalize xs[xs.length - 1]? = o; cases o <;> rfl)
theorem putIxP_eq (v : Vl) (i x : D) (kw : W → Prop) : putIxP w v i x kw = getCP w v (h1 (fun c => lisP c (h1 (fun xs => intP i (h1 (fun n => rdS (ixN xs.length n) (h1 (fun j => goX (xs.set j x) (h1 (fun ys => putP w v (.l ys) kw)))))))))) := by
  unfold putIxP h1; congr; funext c
  cases c with
  | m _ => cases i <;> rfl
  | l xs => cases i with
    | int n => dsimp only [lisP, rdS, goX, putP, intP]; all_goals (generalize ixN xs.length n = o; cases o <;> rfl)
    | _ => rfl
theorem putP_n (c0 c : CV) (kw : W → Prop) : putP w (.n c0) c kw = kw w := by unfold putP W.putC; rfl
theorem putP_d (c0 : D) (c : CV) (kw : W → Prop) : putP w (.d c0) c kw = kw w := by unfold putP W.putC; rfl
/-! ### operators -/
variable (k : Vl → Prop)
theorem bin_add_i (i j : Int) : binP .add (.int i) (.int j) k = goX (PyData.int (i + j)) (h1 (fun x => k (.d x))) := by unfold binP goX h1; rfl
theorem bin_add_s (i j : Str) : binP .add (.str i) (.str j) k = (i.length + j.length ≤ sizeLine ∧ k (.d (.str (i ++ j)))) := by unfold binP; rfl
theorem bin_add_t (i j : List D) : binP .add (.tuple i) (.tuple j) k = (i.length + j.length ≤ sizeLine ∧ goX (i ++ j) (h1 (fun x => k (.d (.tuple x))))) := by unfold binP; rfl
theorem bin_add_l (i j : List D) : binP .add (.list i) (.list j) k = (i.length + j.length ≤ sizeLine ∧ goX (i ++ j) (h1 (fun x => k (.n (.l x))))) := by unfold binP; rfl
theorem bin_sub_i (i j : Int) : binP .sub (.int i) (.int j) k = goX (PyData.int (i - j)) (h1 (fun x => k (.d x))) := by unfold binP goX h1; rfl
theorem bin_mul_i (i j : Int) : binP .mul (.int i) (.int j) k = (CMul i j ∧ goX (PyData.int (i * j)) (h1 (fun x => k (.d x)))) := by unfold binP goX h1; rfl
theorem bin_mul_l (xs : List D) (j : Int) : binP .mul (.list xs) (.int j) k = ((-(2 ^ 63) ≤ j ∧ j < 2 ^ 63 ∧ xs.length * j.toNat ≤ sizeLine) ∧ k (.n (.l (List.replicate j.toNat xs).flatten))) := by unfold binP; rfl
theorem bin_mul_t (xs : List D) (j : Int) : binP .mul (.tuple xs) (.int j) k = ((xs ≠ [] ∧ 2 ≤ j ∧ j ≤ 1000 ∧ xs.length ≤ 1000) ∧ k (.d (.tuple (List.replicate j.toNat xs).flatten))) := by unfold binP; rfl
theorem bin_fdiv_i (i j : Int) : binP .fdiv (.int i) (.int j) k = (CDivN i j ∧ goX (PyData.int (i.fdiv j)) (h1 (fun x => k (.d x)))) := by unfold binP goX h1; rfl
theorem bin_mod_i (i j : Int) : binP .mod (.int i) (.int j) k = (j ≠ 0 ∧ goX (PyData.int (i.fmod j)) (h1 (fun x => k (.d x)))) := by unfold binP goX h1; rfl
theorem bin_pow_i (i j : Int) : binP .pow (.int i) (.int j) k = (CPow i j ∧ goX (PyData.int (i ^ j.toNat)) (h1 (fun x => k (.d x)))) := by unfold binP goX h1; rfl
theorem aug_add (i j : Int) (k : D → Prop) : augP .add (.int i) (.int j) k = goX (PyData.int (i + j)) (h1 (fun x => k x)) := by unfold augP goX h1; rfl
theorem aug_sub (i j : Int) (k : D → Prop) : augP .sub (.int i) (.int j) k = goX (PyData.int (i - j)) (h1 (fun x => k x)) := by unfold augP goX h1; rfl
variable (kb : Bool → Prop)
theorem cmp_lt (i j : Int) : cmpP .lt (.int i) (.int j) kb = goX (decide (i < j)) kb := by unfold cmpP goX; rfl
theorem cmp_le (i j : Int) : cmpP .le (.int i) (.int j) kb = goX (decide (i ≤ j)) kb := by unfold cmpP goX; rfl
theorem cmp_gt (i j : Int) : cmpP .gt (.int i) (.int j) kb = goX (decide (j < i)) kb := by unfold cmpP goX; rfl
theorem cmp_ge (i j : Int) : cmpP .ge (.int i) (.int j) kb = goX (decide (j ≤ i)) kb := by unfold cmpP goX; rfl
theorem cmp_lts (i j : Str) : cmpP .lt (.str i) (.str j) kb = goX (decide (i.cps.toList < j.cps.toList)) kb := by unfold cmpP goX; rfl
theorem cmp_eq (a b : D) : cmpP .eq a b kb = (EqOk a b ∧ goX (PyData.eqv a b) kb) := by unfold cmpP goX; cases a <;> rfl
theorem cmp_ne (a b : D) : cmpP .ne a b kb = (EqOk a b ∧ goX (!PyData.eqv a b) kb) := by unfold cmpP goX; cases a <;> rfl
theorem cmp_in (a b : D) : cmpP .inn a b kb = inP false a b kb := by unfold cmpP; cases a <;> rfl
theorem cmp_notin (a b : D) : cmpP .notin a b kb = inP true a b kb := by unfold cmpP; cases a <;> rfl
theorem in_t (n : Bool) (x : D) (ys : List D) : inP n x (.tuple ys) kb = ((flatD x = true ∧ ys.all flatD = true) ∧ goX (bif n then !ys.any (eqFlat x) else ys.any (eqFlat x)) kb) := by unfold inP goX; cases x <;> rfl
theorem in_l (n : Bool) (x : D) (ys : List D) : inP n x (.list ys) kb = ((flatD x = true ∧ ys.all flatD = true) ∧ goX (bif n then !ys.any (eqFlat x) else ys.any (eqFlat x)) kb) := by unfold inP goX; cases x <;> rfl
theorem in_s (n : Bool) (c z : Str) : inP n (.str c) (.str z) kb = ((∃ n, c = ⟨#[n]⟩) ∧ goX (bif n then !decide ((c.cps[0]?.getD 0) ∈ z.cps.toList) else decide ((c.cps[0]?.getD 0) ∈ z.cps.toList)) kb) := by unfold inP goX; rfl
theorem in_s1 (n : Bool) (c : Nat) (z : Str) : inP n (.str ⟨#[c]⟩) (.str z) kb = goX (bif n then !decide (c ∈ z.cps.toList) else decide (c ∈ z.cps.toList)) kb := by
  rw [in_s]
  exact propext ⟨fun h => h.2, fun h => ⟨⟨c, rfl⟩, h⟩⟩
theorem fl_n : flatD .none = true := rfl
theorem fl_b (b : Bool) : flatD (.bool b) = true := rfl
theorem fl_i (b : Int) : flatD (.int b) = true := rfl
theorem fl_s (b : Str) : flatD (.str b) = true := rfl
theorem fl_t (b : List D) : flatD (.tuple b) = false := rfl
theorem fl_l (b : List D) : flatD (.list b) = false := rfl
theorem fl_d (b : List (D × D)) : flatD (.dict b) = false := rfl
/-! ### == of scalars -/
theorem eo_i (i j : Int) : EqOk (.int i) (.int j) = True := eq_true (.inl rfl)
theorem eo_s (i j : Str) : EqOk (.str i) (.str j) = True := eq_true (.inl rfl)
theorem eo_b (i j : Bool) : EqOk (.bool i) (.bool j) = True := eq_true (.inl rfl)
theorem eo_is (i : Int) (j : Str) : EqOk (.int i) (.str j) = True := eq_true (.inl rfl)
theorem eo_si (i : Int) (j : Str) : EqOk (.str j) (.int i) = True := eq_true (.inl rfl)
theorem ev_i (i j : Int) : PyData.eqv (.int i) (.int j) = decide (i = j) := by
  rw [PyData.eqv]
  by_cases e : i = j <;> simp [e]
theorem ev_s (i j : Str) : PyData.eqv (.str i) (.str j) = decide (i = j) := by
  rw [PyData.eqv]
  by_cases e : i = j <;> simp [e]
theorem ev_b (i j : Bool) : PyData.eqv (.bool i) (.bool j) = decide (i = j) := by
  rw [PyData.eqv]
  cases i <;> cases j <;> rfl
theorem ev_is (i : Int) (j : Str) : PyData.eqv (.int i) (.str j) = false := by rw [PyData.eqv]
theorem ev_si (i : Int) (j : Str) : PyData.eqv (.str j) (.int i) = false := by rw [PyData.eqv]
theorem eo_ln (xs : List D) : EqOk (.list xs) (.list []) = True := eq_true (.inr (.inr rfl))
theorem eo_tn (xs : List D) : EqOk (.tuple xs) (.tuple []) = True := eq_true (.inr (.inr rfl))
theorem eo_ll : EqOk (.list []) (.list []) = True := eq_true (.inr (.inr rfl))
theorem ev_ll (xs ys : List D) : PyData.eqv (.list xs) (.list ys) = PyData.eqvAll xs ys := by rw [PyData.eqv]
theorem ev_tt (xs ys : List D) : PyData.eqv (.tuple xs) (.tuple ys) = PyData.eqvAll xs ys := by rw [PyData.eqv]
theorem ea_n (xs : List D) : PyData.eqvAll xs [] = xs.isEmpty := by cases xs <;> (rw [PyData.eqvAll]; rfl)
theorem ea_nn : PyData.eqvAll [] [] = true := by rw [PyData.eqvAll]
theorem ea_nc (y : D) (ys : List D) : PyData.eqvAll [] (y :: ys) = false := by rw [PyData.eqvAll]
theorem ea_cn (y : D) (ys : List D) : PyData.eqvAll (y :: ys) [] = false := by rw [PyData.eqvAll]
theorem ea_cc (x y : D) (xs ys : List D) : PyData.eqvAll (x :: xs) (y :: ys) = (PyData.eqv x y && PyData.eqvAll xs ys) := by rw [PyData.eqvAll]
/-! ### indices, slices -/
variable (kd : D → Prop)
theorem ix_l (xs : List D) (i : Int) : ixP (.list xs) (.int i) kd = rdS (atI xs i) kd := by unfold ixP ixD rdS; dsimp only; all_goals (generalize atI xs i = o; cases o <;> rfl)
theorem ix_t (xs : List D) (i : Int) : ixP (.tuple xs) (.int i) kd = rdS (atI xs i) kd := by unfold ixP ixD rdS; dsimp only; all_goals (generalize atI xs i = o; cases o <;> rfl)
theorem ix_s (z : Str) (i : Int) : ixP (.str z) (.int i) kd = rdS (atI z.cps.toList i) (h1 (fun c => kd (.str ⟨#[c]⟩))) := by unfold ixP rdS h1; dsimp only; all_goals (generalize atI z.cps.toList i = o; cases o <;> rfl)
theorem atI_0 {α : Type} (x : α) (xs : List α) : atI (x :: xs) 0 = some x := by
  unfold atI ixN
  rw [if_pos (by decide), if_pos (by simp only [List.length_cons]; omega)]
  rfl
theorem atI_1 {α : Type} (x y : α) (xs : List α) : atI (x :: y :: xs) 1 = some y := by
  unfold atI ixN
  rw [if_pos (by decide), if_pos (by simp only [List.length_cons]; omega)]
  rfl
theorem atI_2 {α : Type} (x y z : α) (xs : List α) : atI (x :: y :: z :: xs) 2 = some z := by
  unfold atI ixN
  rw [if_pos (by decide), if_pos (by simp only [List.length_cons]; omega)]
  rfl
theorem atI_3 {α : Type} (x y z u : α) (xs : List α) : atI (x :: y :: z :: u :: xs) 3 = some u := by
  unfold atI ixN
  rw [if_pos (by decide), if_pos (by simp only [List.length_cons]; omega)]
  rfl
theorem ixN_0 (n : Nat) : ixN (n + 1) 0 = some 0 := by
  unfold ixN
  rw [if_pos (by decide), if_pos (by omega)]; rfl
theorem ixN_1 (n : Nat) : ixN (n + 2) 1 = some 1 := by
  unfold ixN
  rw [if_pos (by decide), if_pos (by omega)]; rfl
theorem ixN_2 (n : Nat) : ixN (n + 3) 2 = some 2 := by
  unfold ixN
  rw [if_pos (by decide), if_pos (by omega)]; rfl
theorem ixN_3 (n : Nat) : ixN (n + 4) 3 = some 3 := by
  unfold ixN
  rw [if_pos (by decide), if_pos (by omega)]; rfl
theorem sl_l (xs : List D) (lo hi : Option Int) : slP (.list xs) lo hi k = goX (cutD xs lo hi) (h1 (fun x => k (.n (.l x)))) := by unfold slP goX h1; rfl
theorem sl_t (xs : List D) (lo hi : Option Int) : slP (.tuple xs) lo hi k = goX (cutD xs lo hi) (h1 (fun x => k (.d (.tuple x)))) := by unfold slP goX h1; rfl
theorem sl_s (z : Str) (lo hi : Option Int) : slP (.str z) lo hi k = k (.d (.str (cutS z lo hi))) := by unfold slP; rfl
theorem rv_l (xs : List D) : rvP (.list xs) k = goX xs.reverse (h1 (fun x => k (.n (.l x)))) := by unfold rvP goX h1; rfl
theorem rv_t (xs : List D) : rvP (.tuple xs) k = goX xs.reverse (h1 (fun x => k (.d (.tuple x)))) := by unfold rvP goX h1; rfl
theorem rv_s (z : Str) : rvP (.str z) k = k (.d (.str ⟨z.cps.toList.reverse.toArray⟩)) := by unfold rvP; rfl
theorem intP_eq (i : Int) (ki : Int → Prop) : intP (.int i) ki = ki i := by unfold intP; rfl
theorem strP_eq (i : Str) (ki : Str → Prop) : strP (.str i) ki = ki i := by unfold strP; rfl
theorem tru_b (b : Bool) : truP (.bool b) kb = kb b := by unfold truP; rfl
theorem truA_b (b : Bool) : truA (.bool b) kb = kb b := by unfold truA; rfl
theorem truA_i (b : Int) : truA (.int b) kb = goX (b != 0) kb := by unfold truA goX; rfl
theorem truA_s (b : Str) : truA (.str b) kb = goX (b.length != 0) kb := by unfold truA goX; rfl
theorem truA_l (b : List D) : truA (.list b) kb = goX (!b.isEmpty) kb := by unfold truA goX; rfl
theorem truA_t (b : List D) : truA (.tuple b) kb = goX (!b.isEmpty) kb := by unfold truA goX; rfl
theorem truA_n : truA .none kb = kb false := by unfold truA; rfl
theorem lstP_eq (v : Vl) (p : Prop) [Tk p] : lstP w v (h0 p) = rdP w v (h1 (fun x => lisD x (h1 (fun _ => p)))) := by
  unfold lstP rdP lisD h0 h1
  generalize rd w v = o
  cases o with
  | none => rfl
  | some x => cases x <;> rfl
/-! ### built-in functions -/
theorem rds_nil (kx : List D → Prop) : rdsP w [] kx = kx [] := by unfold rdsP; rfl
theorem rds_cons (v : Vl) (vs : List Vl) (kx : List D → Prop) : rdsP w (v :: vs) kx = rdP w v (h1 (fun x => rdsP w vs (h1 (fun xs => kx (x :: xs))))) := by rw [rdsP]; rfl
theorem b_len_s (z : Str) : biP .len [.str z] k = goX (PyData.int (z.length : Nat)) (h1 (fun x => k (.d x))) := by unfold biP; rfl
theorem b_len_t (xs : List D) : biP .len [.tuple xs] k = goX (PyData.int (xs.length : Nat)) (h1 (fun x => k (.d x))) := by unfold biP; rfl
theorem b_len_l (xs : List D) : biP .len [.list xs] k = goX (PyData.int (xs.length : Nat)) (h1 (fun x => k (.d x))) := by unfold biP; rfl
theorem b_abs (i : Int) : biP .abs [.int i] k = goX (PyData.int (if i < 0 then -i else i)) (h1 (fun x => k (.d x))) := by unfold biP; rfl
theorem b_min2 (i j : Int) : biP .min2 [.int i, .int j] k = goX (PyData.int (if j < i then j else i)) (h1 (fun x => k (.d x))) := by unfold biP; rfl
theorem b_max2 (i j : Int) : biP .max2 [.int i, .int j] k = goX (PyData.int (if j > i then j else i)) (h1 (fun x => k (.d x))) := by unfold biP; rfl
theorem b_int_i (i : Int) : biP .intOf [.int i] k = k (.d (.int i)) := by unfold biP; rfl
theorem b_int_b (b : Bool) : biP .intOf [.bool b] k = goX (PyData.int (if b then 1 else 0)) (h1 (fun x => k (.d x))) := by unfold biP; rfl
theorem b_str (i : Int) : biP .strOf [.int i] k = ((i.natAbs.log2 < 1920 ∧ (toString i : Str).length ≤ sizeLine) ∧ k (.d (.str (toString i)))) := by unfold biP; rfl
theorem b_isi (t : Ty) (x : D) : biP (.isi t) [x] k = goX (isT t x) (h1 (fun b => k (.d (.bool b)))) := by unfold biP; rfl
theorem b_isiLT (x : D) : biP .isiLT [x] k = goX (isT .list x || isT .tuple x) (h1 (fun b => k (.d (.bool b)))) := by unfold biP; rfl
theorem b_tup_l (xs : List D) : biP .tupleOf [.list xs] k = k (.d (.tuple xs)) := by unfold biP; rfl
theorem b_tup_t (xs : List D) : biP .tupleOf [.tuple xs] k = k (.d (.tuple xs)) := by unfold biP; rfl
theorem b_lst_l (xs : List D) : biP .listOf [.list xs] k = k (.n (.l xs)) := by unfold biP; rfl
theorem b_lst_t (xs : List D) : biP .listOf [.tuple xs] k = k (.n (.l xs)) := by unfold biP; rfl
theorem b_repr (xs : List D) : biP .reprOf [.list xs] k = ((isT .list (.list xs) = true ∧ (PyData.list xs).canLay0 = true ∧ (PyData.list xs).depth ≤ 60 ∧ (PyData.list xs).showable = true ∧ (PyData.list xs).shown.length ≤ sizeLine) ∧ goX (PyData.list xs).shown (h1 (fun z => k (.d (.str z))))) := by unfold biP one1 goX h1; rfl
theorem sumLP_eq (v : Vl) : sumLP w [v, .n (.l [])] k = rdP w v (h1 (fun p => lisD p (h1 (fun ys => rdS (lstsD ys) (h1 (fun zs => zs.flatten.length ≤ sizeLine ∧ goX zs.flatten (h1 (fun z => k (.n (.l z)))))))))) := by
  unfold sumLP h1
  show rdP w v _ = rdP w v _
  congr 1
theorem b_sum (xs : List D) : biP .sumOf [.list xs] k = rdS (intsD xs) (h1 (fun ns => k (.d (.int ns.sum)))) := by unfold biP; rfl
end
/-! ### calls -/
section
variable (r : List Sl) (a : List (Option CV)) (w : W)
def backsP (w : W) (vs : List Vl) (cs : List (Option CV)) (k : W → Prop) : Prop := k (backs w vs cs)
variable (k : W → Prop)
theorem backs_nil (cs : List (Option CV)) : backsP w [] cs k = k w := by unfold backsP backs; rfl
theorem backs_s (v : Vl) (vs : List Vl) (c : CV) (cs : List (Option CV)) : backsP w (v :: vs) (some c :: cs) k = putP w v c (h1 (fun w' => backsP w' vs cs k)) := by unfold backsP; rw [backs]; rfl
theorem backs_n (v : Vl) (vs : List Vl) (cs : List (Option CV)) : backsP w (v :: vs) (none :: cs) k = backsP w vs cs k := by unfold backsP; rw [backs]
def agS (o : Option Sl) : Option Ag := match o with
  | some (.o c) => some (.c c)
  | some (.d x) => some (.d x)
  | _ => none
def agA (o : Option (Option CV)) : Option Ag := match o with
  | some (some c) => some (.c c)
  | _ => none
theorem ag_d (x : D) : agOf w (.d x) = some (.d x) := by unfold agOf; rfl
theorem ag_n (x : CV) : agOf w (.n x) = some (.c x) := by unfold agOf; rfl
theorem ag_f (x : Str) : agOf w (.f x) = some (.f x) := by unfold agOf; rfl
theorem ag_x (x : Exn) : agOf w (.x x) = some (.x x) := by unfold agOf; rfl
theorem ag_z (x : List Int) : agOf w (.z x) = some (.z x) := by unfold agOf; rfl
theorem ag_s (i : Nat) : agOf ⟨r, a⟩ (.s i) = agS r[i]? := by
  unfold agOf agS; dsimp only; all_goals (generalize r[i]? = o; cases o with | none => rfl | some s => cases s <;> rfl)
theorem ag_a (i : Nat) : agOf ⟨r, a⟩ (.a i) = agA a[i]? := by
  unfold agOf agA; dsimp only; all_goals (generalize a[i]? = o; cases o with | none => rfl | some s => cases s <;> rfl)
theorem agS_o (c : CV) : agS (some (.o c)) = some (.c c) := by unfold agS; rfl
theorem agS_d (c : D) : agS (some (.d c)) = some (.d c) := by unfold agS; rfl
theorem agA_c (c : CV) : agA (some (some c)) = some (.c c) := by unfold agA; rfl
def agsP (w : W) (vs : List Vl) (k : List Ag → Prop) : Prop := optP (agsOf w vs) k
theorem ags_nil (k : List Ag → Prop) : agsP w [] k = k [] := by unfold agsP agsOf optP; rfl
theorem ags_cons (v : Vl) (vs : List Vl) (k : List Ag → Prop) : agsP w (v :: vs) k = rdS (agOf w v) (h1 (fun x => agsP w vs (h1 (fun xs => k (x :: xs))))) := by
  unfold agsP optP rdS h1
  rw [agsOf]
  generalize agOf w v = o
  generalize agsOf w vs = o2
  cases o with
  | none => rfl
  | some x => cases o2 <;> rfl
def resA (o : Option Vl) (o2 : Option (Option CV)) : Option Vl := match o, o2 with
  | some (.n _), some (some c) => some (.n c)
  | some v, _ => some v
  | _, _ => none
theorem res_d (vs : List Vl) (cs : List (Option CV)) (x : D) : resOf vs cs (.d x) = some (.d x) := by unfold resOf; rfl
theorem res_n (vs : List Vl) (cs : List (Option CV)) (x : CV) : resOf vs cs (.n x) = some (.n x) := by unfold resOf; rfl
theorem res_f (vs : List Vl) (cs : List (Option CV)) (x : Str) : resOf vs cs (.f x) = some (.f x) := by unfold resOf; rfl
theorem res_a (vs : List Vl) (cs : List (Option CV)) (j : Nat) : resOf vs cs (.a j) = resA vs[j]? cs[j]? := by
  unfold resOf resA; dsimp only; all_goals (generalize vs[j]? = o; generalize cs[j]? = o2; cases o with | none => rfl | some v => (cases v <;> (cases o2 with | none => rfl | some c => cases c <;> rfl)))
theorem resA_n (c0 c : CV) : resA (some (.n c0)) (some (some c)) = some (.n c) := by unfold resA; rfl
theorem resA_s (i : Nat) (o : Option (Option CV)) : resA (some (.s i)) o = some (.s i) := by unfold resA; rfl
theorem resA_a (i : Nat) (o : Option (Option CV)) : resA (some (.a i)) o = some (.a i) := by unfold resA; rfl
theorem callP_eq (Γ : Sg) (f : Str) (vs : List Vl) (ex : Exn → W → Prop) (kv : Vl → W → Prop) : callP Γ f vs w ex kv = agsP w vs (h1 (fun ags => distinctB (shareds vs) = true ∧
    Γ.call f ags (h2 (fun r cs => rdS (resOf vs cs r) (h1 (fun v => backsP w vs cs (h1 (fun w' => kv v w')))))) (h2 (fun e cs => backsP w vs cs (h1 (fun w' => ex e w')))))) := by
  unfold callP agsP rdS optP backsP h1 h2; rfl
theorem sh_nil : shareds [] = [] := by unfold shareds; rfl
theorem sh_d (x : D) (r : List Vl) : shareds (.d x :: r) = shareds r := by rw [shareds]; all_goals (intro _ z; cases z)
theorem sh_n (x : CV) (r : List Vl) : shareds (.n x :: r) = shareds r := by rw [shareds]; all_goals (intro _ z; cases z)
theorem sh_f (x : Str) (r : List Vl) : shareds (.f x :: r) = shareds r := by rw [shareds]; all_goals (intro _ z; cases z)
theorem sh_x (x : Exn) (r : List Vl) : shareds (.x x :: r) = shareds r := by rw [shareds]; all_goals (intro _ z; cases z)
theorem sh_z (x : List Int) (r : List Vl) : shareds (.z x :: r) = shareds r := by rw [shareds]; all_goals (intro _ z; cases z)
theorem sh_s (i : Nat) (r : List Vl) : shareds (.s i :: r) = Sum.inl i :: shareds r := by rw [shareds]
theorem sh_a (i : Nat) (r : List Vl) : shareds (.a i :: r) = Sum.inr i :: shareds r := by rw [shareds]
theorem di_0 : distinctB [] = true := rfl
theorem di_1 (x : Nat ⊕ Nat) : distinctB [x] = true := rfl
theorem di_2 (i j : Nat) (h : (i == j) = false) : distinctB [.inl i, .inl j] = true := by
  have : i ≠ j := by simpa using h
  simp [distinctB, this]
theorem di_2a (i j : Nat) (h : (i == j) = false) : distinctB [.inr i, .inr j] = true := by
  have : i ≠ j := by simpa using h
  simp [distinctB, this]
theorem di_2b (i j : Nat) : distinctB [.inl i, .inr j] = true := by simp [distinctB]
theorem di_2c (i j : Nat) : distinctB [.inr i, .inl j] = true := by simp [distinctB]
/-! ### the def's end -/
def rvS (o : Option Sl) : Option Rv := match o with
  | some (.o c) => some (.n c)
  | some (.d x) => some (.d x)
  | _ => none
def rvA (o : Option (Option CV)) (j : Nat) : Option Rv := match o with
  | some (some _) => some (.a j)
  | _ => none
theorem rv_d (x : D) : rvOf w (.d x) = some (.d x) := by unfold rvOf; rfl
theorem rv_n (x : CV) : rvOf w (.n x) = some (.n x) := by unfold rvOf; rfl
theorem rv_f (x : Str) : rvOf w (.f x) = some (.f x) := by unfold rvOf; rfl
theorem rv_sl (i : Nat) : rvOf ⟨r, a⟩ (.s i) = rvS r[i]? := by
  unfold rvOf rvS; dsimp only; all_goals (generalize r[i]? = o; cases o with | none => rfl | some s => cases s <;> rfl)
theorem rv_a (i : Nat) : rvOf ⟨r, a⟩ (.a i) = rvA a[i]? i := by
  unfold rvOf rvA; dsimp only; all_goals (generalize a[i]? = o; cases o with | none => rfl | some s => cases s <;> rfl)
theorem rvS_o (c : CV) : rvS (some (.o c)) = some (.n c) := by unfold rvS; rfl
theorem rvS_d (c : D) : rvS (some (.d c)) = some (.d c) := by unfold rvS; rfl
theorem rvA_c (c : CV) (j : Nat) : rvA (some (some c)) j = some (.a j) := by unfold rvA; rfl
theorem shp_nil : (shpB [] [] = true) = True := eq_true rfl
theorem shp_cc (c c' : CV) (r : List Ag) (t : List (Option CV)) : shpB (.c c :: r) (some c' :: t) = shpB r t := by rw [shpB]
theorem shp_d (c : D) (r : List Ag) (t : List (Option CV)) : shpB (.d c :: r) (none :: t) = shpB r t := by rw [shpB]; all_goals (intro _ z; cases z)
theorem shp_f (c : Str) (r : List Ag) (t : List (Option CV)) : shpB (.f c :: r) (none :: t) = shpB r t := by rw [shpB]; all_goals (intro _ z; cases z)
theorem shp_x (c : Exn) (r : List Ag) (t : List (Option CV)) : shpB (.x c :: r) (none :: t) = shpB r t := by rw [shpB]; all_goals (intro _ z; cases z)
theorem shp_z (c : List Int) (r : List Ag) (t : List (Option CV)) : shpB (.z c :: r) (none :: t) = shpB r t := by rw [shpB]; all_goals (intro _ z; cases z)
/-! ### comprehensions -/
def ownS (o : Option Sl) : Prop := match o with
  | some .no => True
  | some (.d _) => True
  | _ => False
theorem ownS_no : ownS (some .no) = True := by unfold ownS; rfl
theorem ownS_d (x : D) : ownS (some (.d x)) = True := by unfold ownS; rfl
theorem own_nil : ownOk w [] = True := by unfold ownOk; rfl
theorem own_cons (i : Nat) (q : List Nat) : ownOk ⟨r, a⟩ (i :: q) = (ownS r[i]? ∧ ownOk ⟨r, a⟩ q) := by
  rw [ownOk]; unfold ownS; dsimp only; all_goals (generalize r[i]? = o; cases o with | none => rfl | some s => cases s <;> rfl)
theorem bindW_eq (i : Nat) (x : Sl) : bindW ⟨r, a⟩ i x k = goR (r.set i x) a k := by unfold bindW goR W.setR; rfl
theorem wip_nil : wipP w [] k = k w := by unfold wipP wipeW; rfl
theorem wip_cons (i : Nat) (q : List Nat) : wipP w (i :: q) k = wipP w q (h1 (fun w' => bindW w' i .no k)) := by unfold wipP bindW h1; rw [wipeW]
theorem rest_nil (w0 : W) : restP w0 w [] k = k w := by unfold restP restore; rfl
theorem rest_cons (r0 : List Sl) (a0 : List (Option CV)) (i : Nat) (q : List Nat) : restP ⟨r0, a0⟩ w (i :: q) k = restP ⟨r0, a0⟩ w q (h1 (fun w' => goX (r0[i]?.getD .no) (h1 (fun x => bindW w' i x k)))) := by unfold restP bindW h1 goX; rw [restore]
end
end Lb
set_option maxHeartbeats 4000000
/-! ## Cm1 -/
/-! Cm1: defs that many laws share, and what each of them does to plain data. -/
namespace Cm
open PySem L2 Lb
local macro_rules | `(tactic| walk_at "lb") => `(tactic| simp (config := {dsimp := false}) only [↓h1_eq, ↓h2_eq, ↓h3_eq, ↓h4_eq, goR_eq, goX_eq, br_t, br_f, g0, gS, s0, sS, ↓varP_eq, varS_d, varS_o, varS_a, varS_f, varS_z, rdS_eq, ↓optP_eq, ↓rdP_d, ↓rdP_n, ↓rdP_s, ↓rdP_a, dat_l, dat_m, slotDat_d, slotDat_o, argDat_c, ↓x_v, ↓x_k, ↓x_g, ↓x_fn, ↓x_bin, ↓x_neg, ↓x_cmp, ↓x_chain, ↓x_isN, ↓x_isB, ↓x_and, ↓x_or, ↓x_not, ↓x_ife, ↓x_tup, ↓x_lst, ↓x_dic0, ↓x_dic1, ↓x_ix, zS_eq, ↓x_zlen, ↓x_zix, ↓x_sl, ↓x_rv, ↓x_call, fS_eq, ↓x_callv, ↓x_bi, ↓x_app, ↓x_pop, ↓x_ext, ↓x_join, ↓x_upper, ↓x_lc, ↓y_e, ↓y_tr, ↓y_not, ↓y_and, ↓y_or, ↓a_nil', ↓a_cons', ↓d_nil', ↓d_cons', ↓o_no', ↓o_so', ↓j_seq, ↓j_str, ↓j_rng1, ↓j_rng2, ↓c_no', ↓c_so', ↓q_nil, ↓q_cons, ↓z_asg, ↓z_par, ↓z_aug, ↓z_put, ↓z_ex, ↓z_ret, ↓z_retN, ↓z_ite, ↓z_for, ↓z_whl, ↓z_pass, ↓z_brk, ↓z_cont, ↓z_rais, ↓dEnds_mk, ↓bindP_d, ↓bindP_n, ↓bindP_f, bindA_eq, ↓bindP_a, bindS_o, bindS_d, ↓bindP_s, ↓tgV_v, ↓tgV_t, ↓tgP_v, ↓tgP_t, ↓tgsP_nil, ↓tgsP_cons, ↓datP_d, ↓datP_n, datS_o, datS_d, ↓datP_s, ↓valP_n, ↓valP_d, ↓valP_s, seqA_eq, ↓seqP_a, ↓seqD_l, ↓seqD_t, ↓seqP_d, ↓seqP_n, ↓seqP_s, ↓isNP_none, ↓isNP_bool, ↓isNP_int, ↓isNP_str, ↓isNP_list, ↓isNP_tuple, ↓isNP_dict, ↓isNP_n, ↓isNP_f, getS_eq, getA_eq, ↓getCP_s, ↓getCP_a, ↓isNP_s, ↓isNP_a, ↓putP_s, ↓putP_a, lisP_eq, ↓appP_eq, lisD_eq, ↓extP_eq, ↓popP_eq, ↓putIxP_eq, ↓putP_n, ↓putP_d, ↓bin_add_i, ↓bin_add_s, ↓bin_add_t, ↓bin_add_l, ↓bin_sub_i, ↓bin_mul_i, ↓bin_mul_l, ↓bin_mul_t, ↓bin_fdiv_i, ↓bin_mod_i, ↓bin_pow_i, ↓aug_add, ↓aug_sub, ↓cmp_lt, ↓cmp_le, ↓cmp_gt, ↓cmp_ge, ↓cmp_lts, ↓cmp_eq, ↓cmp_ne, ↓cmp_in, ↓cmp_notin, ↓in_t, ↓in_l, ↓in_s1, fl_n, fl_b, fl_i, fl_s, fl_t, fl_l, fl_d, List.all_cons, List.all_nil, Bool.and_true, Bool.true_and, Int.reduceToNat, eo_i, eo_s, eo_b, eo_is, eo_si, ev_i, ev_s, ev_b, ev_is, ev_si, ↓ix_l, ↓ix_t, ↓ix_s, atI_0, atI_1, atI_2, atI_3, ixN_0, ixN_1, ixN_2, ixN_3, ↓sl_l, ↓sl_t, ↓sl_s, ↓rv_l, ↓rv_t, ↓rv_s, eo_ln, eo_tn, ev_ll, ev_tt, ea_n, ea_nc, ea_cc, List.isEmpty_nil, List.isEmpty_cons, ↓intP_eq, ↓strP_eq, ↓tru_b, ↓truA_b, ↓truA_i, ↓truA_s, ↓truA_l, ↓truA_t, ↓truA_n, ↓lstP_eq, ↓rds_nil, ↓rds_cons, ↓b_len_s, ↓b_len_t, ↓b_len_l, ↓b_abs, ↓b_min2, ↓b_max2, ↓b_int_i, ↓b_int_b, ↓b_str, ↓b_isi, ↓b_isiLT, ↓b_tup_l, ↓b_tup_t, ↓b_lst_l, ↓b_lst_t, ↓b_sum, ↓backs_nil, ↓backs_s, ↓backs_n, ag_d, ag_n, ag_f, ag_z, ag_s, ag_a, agS_o, agS_d, agA_c, ↓ags_nil, ↓ags_cons, res_d, res_n, res_f, res_a, resA_n, resA_s, resA_a, ↓callP_eq, sh_nil, sh_d, sh_n, sh_f, sh_z, sh_s, sh_a, di_0, di_1, di_2, di_2a, di_2b, di_2c, rv_d, rv_n, rv_f, rv_sl, rv_a, rvS_o, rvS_d, rvA_c, shp_nil, shp_cc, shp_d, shp_f, shp_z, ownS_no, ownS_d, own_nil, own_cons, ↓bindW_eq, ↓wip_nil, ↓wip_cons, ↓rest_nil, ↓rest_cons, startW, slsFrom, slOf, cvOf, isT, List.length_cons, List.length_nil, List.replicate, List.append, List.cons_append, List.nil_append, List.map, List.map_cons, List.map_nil, Option.getD_some, Nat.reduceAdd, Nat.reduceSub, Nat.reduceMul, Nat.reduceEqDiff, Nat.zero_add, Nat.reduceLeDiff, Nat.reduceLT, Nat.reduceBEq, Int.reduceAdd, Int.reduceSub, Int.reduceMul, Int.reduceNeg, Int.reduceLT, Int.reduceLE, Int.reduceEq, Int.reducePow, Int.cast_ofNat_Int, decide_eq_true_eq, decide_true, decide_false, Bool.not_true, Bool.not_false, Bool.not_eq_true', decide_eq_false_iff_not, Bool.false_eq_true, Bool.true_eq_false, eq_self, ne_eq, not_false_eq_true, not_true_eq_false, reduceIte, true_and, and_true, bne_self_eq_false, Bool.false_bne, Bool.true_bne, Bool.cond_true, Bool.cond_false, sizeLine_eq, varS_x, ↓x_isx, ↓isxP_x, ↓x_cnt, ↓x_idx, ↓cntP_l, ↓idxP_l, ↓z_tryx, ↓z_augIx, ↓bindP_x, ↓isNP_x, ag_x, sh_x, shp_x, ↓x_sumL, ↓x_noneIn, ↓noneInP_l, itmD_l, itmD_t, ↓b_repr, ↓sumLP_eq])
local macro_rules | `(tactic| push_cast only [$as,*]) => `(tactic| simp (config := {dsimp := false}) only [↓h1_eq, ↓h2_eq, ↓h3_eq, ↓h4_eq, goR_eq, goX_eq, br_t, br_f, g0, gS, s0, sS, ↓varP_eq, varS_d, varS_o, varS_a, varS_f, varS_z, rdS_eq, ↓optP_eq, ↓rdP_d, ↓rdP_n, ↓rdP_s, ↓rdP_a, dat_l, dat_m, slotDat_d, slotDat_o, argDat_c, ↓x_v, ↓x_k, ↓x_g, ↓x_fn, ↓x_bin, ↓x_neg, ↓x_cmp, ↓x_chain, ↓x_isN, ↓x_isB, ↓x_and, ↓x_or, ↓x_not, ↓x_ife, ↓x_tup, ↓x_lst, ↓x_dic0, ↓x_dic1, ↓x_ix, zS_eq, ↓x_zlen, ↓x_zix, ↓x_sl, ↓x_rv, ↓x_call, fS_eq, ↓x_callv, ↓x_bi, ↓x_app, ↓x_pop, ↓x_ext, ↓x_join, ↓x_upper, ↓x_lc, ↓y_e, ↓y_tr, ↓y_not, ↓y_and, ↓y_or, ↓a_nil', ↓a_cons', ↓d_nil', ↓d_cons', ↓o_no', ↓o_so', ↓j_seq, ↓j_str, ↓j_rng1, ↓j_rng2, ↓c_no', ↓c_so', ↓q_nil, ↓q_cons, ↓z_asg, ↓z_par, ↓z_aug, ↓z_put, ↓z_ex, ↓z_ret, ↓z_retN, ↓z_ite, ↓z_for, ↓z_whl, ↓z_pass, ↓z_brk, ↓z_cont, ↓z_rais, ↓dEnds_mk, ↓bindP_d, ↓bindP_n, ↓bindP_f, bindA_eq, ↓bindP_a, bindS_o, bindS_d, ↓bindP_s, ↓tgV_v, ↓tgV_t, ↓tgP_v, ↓tgP_t, ↓tgsP_nil, ↓tgsP_cons, ↓datP_d, ↓datP_n, datS_o, datS_d, ↓datP_s, ↓valP_n, ↓valP_d, ↓valP_s, seqA_eq, ↓seqP_a, ↓seqD_l, ↓seqD_t, ↓seqP_d, ↓seqP_n, ↓seqP_s, ↓isNP_none, ↓isNP_bool, ↓isNP_int, ↓isNP_str, ↓isNP_list, ↓isNP_tuple, ↓isNP_dict, ↓isNP_n, ↓isNP_f, getS_eq, getA_eq, ↓getCP_s, ↓getCP_a, ↓isNP_s, ↓isNP_a, ↓putP_s, ↓putP_a, lisP_eq, ↓appP_eq, lisD_eq, ↓extP_eq, ↓popP_eq, ↓putIxP_eq, ↓putP_n, ↓putP_d, ↓bin_add_i, ↓bin_add_s, ↓bin_add_t, ↓bin_add_l, ↓bin_sub_i, ↓bin_mul_i, ↓bin_mul_l, ↓bin_mul_t, ↓bin_fdiv_i, ↓bin_mod_i, ↓bin_pow_i, ↓aug_add, ↓aug_sub, ↓cmp_lt, ↓cmp_le, ↓cmp_gt, ↓cmp_ge, ↓cmp_lts, ↓cmp_eq, ↓cmp_ne, ↓cmp_in, ↓cmp_notin, ↓in_t, ↓in_l, ↓in_s1, fl_n, fl_b, fl_i, fl_s, fl_t, fl_l, fl_d, List.all_cons, List.all_nil, Bool.and_true, Bool.true_and, Int.reduceToNat, eo_i, eo_s, eo_b, eo_is, eo_si, ev_i, ev_s, ev_b, ev_is, ev_si, ↓ix_l, ↓ix_t, ↓ix_s, atI_0, atI_1, atI_2, atI_3, ixN_0, ixN_1, ixN_2, ixN_3, ↓sl_l, ↓sl_t, ↓sl_s, ↓rv_l, ↓rv_t, ↓rv_s, eo_ln, eo_tn, ev_ll, ev_tt, ea_n, ea_nc, ea_cc, List.isEmpty_nil, List.isEmpty_cons, ↓intP_eq, ↓strP_eq, ↓tru_b, ↓truA_b, ↓truA_i, ↓truA_s, ↓truA_l, ↓truA_t, ↓truA_n, ↓lstP_eq, ↓rds_nil, ↓rds_cons, ↓b_len_s, ↓b_len_t, ↓b_len_l, ↓b_abs, ↓b_min2, ↓b_max2, ↓b_int_i, ↓b_int_b, ↓b_str, ↓b_isi, ↓b_isiLT, ↓b_tup_l, ↓b_tup_t, ↓b_lst_l, ↓b_lst_t, ↓b_sum, ↓backs_nil, ↓backs_s, ↓backs_n, ag_d, ag_n, ag_f, ag_z, ag_s, ag_a, agS_o, agS_d, agA_c, ↓ags_nil, ↓ags_cons, res_d, res_n, res_f, res_a, resA_n, resA_s, resA_a, ↓callP_eq, sh_nil, sh_d, sh_n, sh_f, sh_z, sh_s, sh_a, di_0, di_1, di_2, di_2a, di_2b, di_2c, rv_d, rv_n, rv_f, rv_sl, rv_a, rvS_o, rvS_d, rvA_c, shp_nil, shp_cc, shp_d, shp_f, shp_z, ownS_no, ownS_d, own_nil, own_cons, ↓bindW_eq, ↓wip_nil, ↓wip_cons, ↓rest_nil, ↓rest_cons, startW, slsFrom, slOf, cvOf, isT, List.length_cons, List.length_nil, List.replicate, List.append, List.cons_append, List.nil_append, List.map, List.map_cons, List.map_nil, Option.getD_some, Nat.reduceAdd, Nat.reduceSub, Nat.reduceMul, Nat.reduceEqDiff, Nat.zero_add, Nat.reduceLeDiff, Nat.reduceLT, Nat.reduceBEq, Int.reduceAdd, Int.reduceSub, Int.reduceMul, Int.reduceNeg, Int.reduceLT, Int.reduceLE, Int.reduceEq, Int.reducePow, Int.cast_ofNat_Int, decide_eq_true_eq, decide_true, decide_false, Bool.not_true, Bool.not_false, Bool.not_eq_true', decide_eq_false_iff_not, Bool.false_eq_true, Bool.true_eq_false, eq_self, ne_eq, not_false_eq_true, not_true_eq_false, reduceIte, true_and, and_true, bne_self_eq_false, Bool.false_bne, Bool.true_bne, Bool.cond_true, Bool.cond_false, sizeLine_eq, varS_x, ↓x_isx, ↓isxP_x, ↓x_cnt, ↓x_idx, ↓cntP_l, ↓idxP_l, ↓z_tryx, ↓z_augIx, ↓bindP_x, ↓isNP_x, ag_x, sh_x, shp_x, ↓x_sumL, ↓x_noneIn, ↓noneInP_l, itmD_l, itmD_t, ↓b_repr, ↓sumLP_eq, $as,*])
/-- is_name: 0 thing, 1 sign -/
def b_is_name_0 : List SS := [(.ret (.k (.bool false)))]
def e_is_name_1 : SE := (.v 1)
def c_is_name_2 : SC := (.so (.e (.cmp .notin (.v 1) (.g "LETTERS"))))
def b_is_name_3 : List SS := [(.ret (.cmp .eq (.lc [1] e_is_name_1 (.v 1) (.str (.v 0)) c_is_name_2) (.lst .nil)))]
def w_is_name : Df := ⟨2, 1,
  (.ite (.or (.not (.e (.bi (.isi .str) (.cons (.v 0) .nil)))) (.or (.e (.cmp .inn (.v 0) (.g "KEPT"))) (.not (.e (.chain .le .le (.k (.int 1)) (.bi .len (.cons (.v 0) .nil)) (.k (.int 6))))))) b_is_name_0 []) :: b_is_name_3⟩
/-- is_number: 0 thing, 1 least, 2 most -/
def w_is_number : Df := ⟨3, 3,
  [(.ret (.and (.bi (.isi .int) (.cons (.v 0) .nil)) (.and (.not (.bi (.isi .bool) (.cons (.v 0) .nil))) (.chain .le .le (.v 1) (.v 0) (.v 2)))))]⟩
/-- is_word_of: 0 thing, 1 word, 2 many -/
def w_is_word_of : Df := ⟨3, 3,
  [(.ret (.and (.bi (.isi .tuple) (.cons (.v 0) .nil)) (.and (.cmp .eq (.bi .len (.cons (.v 0) .nil)) (.v 2)) (.and (.bi (.isi .str) (.cons (.ix (.v 0) (.k (.int 0))) .nil)) (.cmp .eq (.ix (.v 0) (.k (.int 0))) (.v 1))))))]⟩
/-- is_deed: 0 thing -/
def b_is_deed_0 : List SS := [(.ret (.call "is_name" (.cons (.ix (.v 0) (.k (.int 1))) .nil)))]
def b_is_deed_1 : List SS := [(.ret (.call "is_number" (.cons (.ix (.v 0) (.k (.int 1))) (.cons (.k (.int 0)) (.cons (.k (.int 999)) .nil)))))]
def b_is_deed_2 : List SS := [(.ret (.and (.call "is_word_of" (.cons (.v 0) (.cons (.k (.str "way")) (.cons (.k (.int 3)) .nil)))) (.and (.call "is_name" (.cons (.ix (.v 0) (.k (.int 1))) .nil)) (.call "is_number" (.cons (.ix (.v 0) (.k (.int 2))) (.cons (.k (.int 0)) (.cons (.k (.int 1)) .nil)))))))]
def b_is_deed_3 : List SS := (.ite (.e (.call "is_word_of" (.cons (.v 0) (.cons (.k (.str "touch")) (.cons (.k (.int 2)) .nil))))) b_is_deed_1 []) :: b_is_deed_2
def w_is_deed : Df := ⟨1, 1,
  (.ite (.e (.call "is_word_of" (.cons (.v 0) (.cons (.k (.str "work")) (.cons (.k (.int 2)) .nil))))) b_is_deed_0 []) :: b_is_deed_3⟩
/-- _law_state: 0 _law_script, 1 _law_k, 2 _law_cell, 3 _law_found, 4 _law_j, 5 _law_one -/
def b__law_state_0 : List SS := [(.ret (.lst (.cons (.bin .sub (.v 2) (.bin .pow (.k (.int 10)) (.k (.int 18)))) .nil)))]
def b__law_state_1 : List SS := [(.asg (.v 5) (.bin .mod (.bin .mul (.bin .add (.v 2) (.bin .mul (.k (.int 7919)) (.bin .add (.bin .add (.bin .mul (.k (.int 40)) (.v 1)) (.v 4)) (.k (.int 1))))) (.k (.int 48271))) (.k (.int 2147483647)))), (.asg (.v 3) (.bin .add (.bin .mul (.v 3) (.k (.int 2147483629))) (.bin .mod (.bin .mul (.v 5) (.bin .add (.bin .add (.v 5) (.bin .mul (.k (.int 2)) (.v 4))) (.k (.int 1)))) (.k (.int 2147483629)))))]
def b__law_state_2 : List SS := [(.ret (.lst (.cons (.v 3) .nil)))]
def b__law_state_3 : List SS := (.asg (.v 3) (.k (.int 0))) :: (.for (.v 4) (.rng1 (.k (.int 40))) b__law_state_1) :: b__law_state_2
def w__law_state : Df := ⟨6, 2,
  (.asg (.v 2) (.ife (.e (.cmp .lt (.v 1) (.zlen 0))) (.bi .abs (.cons (.zix 0 (.v 1)) .nil)) (.k (.int 0)))) :: (.ite (.e (.cmp .ge (.v 2) (.bin .pow (.k (.int 10)) (.k (.int 18))))) b__law_state_0 []) :: b__law_state_3⟩
/-- _law_next: 0 _law_state_here, 1 _law_amount, 2 _law_found -/
def w__law_next : Df := ⟨3, 2,
  [(.asg (.v 2) (.bin .mod (.ix (.v 0) (.k (.int 0))) (.v 1))), (.put (.v 0) (.k (.int 0)) (.bin .fdiv (.ix (.v 0) (.k (.int 0))) (.v 1))), (.ret (.v 2))]⟩
/-- _law_pick: 0 _law_state_here, 1 _law_some -/
def w__law_pick : Df := ⟨2, 2,
  [(.ret (.ix (.v 1) (.call "_law_next" (.cons (.v 0) (.cons (.bi .len (.cons (.v 1) .nil)) .nil)))))]⟩
/-- _law_kept:  -/
def w__law_kept : Df := ⟨0, 0,
  [(.ret (.lst (.cons (.k (.str "work")) (.cons (.k (.str "touch")) (.cons (.k (.str "way")) (.cons (.k (.str "among")) (.cons (.k (.str "or")) (.cons (.k (.str "times")) (.cons (.k (.str "call")) (.cons (.k (.str "part")) (.cons (.k (.str "main")) (.cons (.k (.str "end")) .nil))))))))))))]⟩
/-- _law_name: 0 _law_state_here, 1 _law_letters, 2 _law_found, 3 _law_close, 4 _law_way, 5 _law_k -/
def e__law_name_0 : SE := (.ix (.v 1) (.call "_law_next" (.cons (.v 0) (.cons (.k (.int 26)) .nil))))
def b__law_name_1 : List SS := [(.asg (.v 2) (.sl (.ix (.lst (.cons (.sl (.v 3) .no (.so (.neg (.k (.int 1))))) (.cons (.bin .add (.v 3) (.sl (.v 2) .no (.so (.k (.int 1))))) (.cons (.rv (.v 3)) .nil)))) (.v 4)) .no (.so (.k (.int 6)))))]
def b__law_name_2 : List SS := [(.ret (.ife (.e (.cmp .notin (.v 2) (.call "_law_kept" .nil))) (.v 2) (.bin .add (.k (.str "q")) (.sl (.v 2) .no (.so (.k (.int 5)))))))]
def b__law_name_3 : List SS := (.ite (.e (.cmp .lt (.v 4) (.k (.int 3)))) b__law_name_1 []) :: b__law_name_2
def b__law_name_4 : List SS := (.asg (.v 4) (.call "_law_next" (.cons (.v 0) (.cons (.k (.int 6)) .nil)))) :: b__law_name_3
def b__law_name_5 : List SS := (.asg (.v 3) (.call "_law_pick" (.cons (.v 0) (.cons (.call "_law_kept" .nil) .nil)))) :: b__law_name_4
def w__law_name : Df := ⟨6, 1,
  (.asg (.v 1) (.k (.str "abcdefghijklmnopqrstuvwxyz"))) :: (.asg (.v 2) (.join (.k (.str "")) (.lc [5] e__law_name_0 (.v 5) (.rng1 (.bin .add (.k (.int 1)) (.call "_law_next" (.cons (.v 0) (.cons (.k (.int 6)) .nil))))) .no))) :: b__law_name_5⟩
/-- _law_is_name: 0 _law_thing, 1 _law_sign -/
def b__law_is_name_0 : List SS := [(.ret (.k (.bool false)))]
def e__law_is_name_1 : SE := (.v 1)
def c__law_is_name_2 : SC := (.so (.e (.cmp .notin (.v 1) (.k (.str "abcdefghijklmnopqrstuvwxyz")))))
def b__law_is_name_3 : List SS := [(.ret (.cmp .eq (.lc [1] e__law_is_name_1 (.v 1) (.str (.v 0)) c__law_is_name_2) (.lst .nil)))]
def w__law_is_name : Df := ⟨2, 1,
  (.ite (.or (.not (.e (.bi (.isi .str) (.cons (.v 0) .nil)))) (.or (.e (.cmp .eq (.bi .len (.cons (.v 0) .nil)) (.k (.int 0)))) (.or (.e (.cmp .gt (.bi .len (.cons (.v 0) .nil)) (.k (.int 6)))) (.e (.cmp .inn (.v 0) (.call "_law_kept" .nil)))))) b__law_is_name_0 []) :: b__law_is_name_3⟩
/-- _law_is_number: 0 _law_thing, 1 _law_least, 2 _law_most -/
def w__law_is_number : Df := ⟨3, 3,
  [(.ret (.and (.bi (.isi .int) (.cons (.v 0) .nil)) (.and (.not (.bi (.isi .bool) (.cons (.v 0) .nil))) (.chain .le .le (.v 1) (.v 0) (.v 2)))))]⟩
/-- _law_is_of: 0 _law_thing, 1 _law_word, 2 _law_amount -/
def w__law_is_of : Df := ⟨3, 3,
  [(.ret (.and (.bi (.isi .tuple) (.cons (.v 0) .nil)) (.and (.cmp .eq (.bi .len (.cons (.v 0) .nil)) (.v 2)) (.and (.bi (.isi .str) (.cons (.ix (.v 0) (.k (.int 0))) .nil)) (.cmp .eq (.ix (.v 0) (.k (.int 0))) (.v 1))))))]⟩
/-- _law_is_deed: 0 _law_thing -/
def b__law_is_deed_0 : List SS := [(.ret (.call "_law_is_name" (.cons (.ix (.v 0) (.k (.int 1))) .nil)))]
def b__law_is_deed_1 : List SS := [(.ret (.call "_law_is_number" (.cons (.ix (.v 0) (.k (.int 1))) (.cons (.k (.int 0)) (.cons (.k (.int 999)) .nil)))))]
def b__law_is_deed_2 : List SS := [(.ret (.and (.call "_law_is_of" (.cons (.v 0) (.cons (.k (.str "way")) (.cons (.k (.int 3)) .nil)))) (.and (.call "_law_is_name" (.cons (.ix (.v 0) (.k (.int 1))) .nil)) (.call "_law_is_number" (.cons (.ix (.v 0) (.k (.int 2))) (.cons (.k (.int 0)) (.cons (.k (.int 1)) .nil)))))))]
def b__law_is_deed_3 : List SS := (.ite (.e (.call "_law_is_of" (.cons (.v 0) (.cons (.k (.str "touch")) (.cons (.k (.int 2)) .nil))))) b__law_is_deed_1 []) :: b__law_is_deed_2
def w__law_is_deed : Df := ⟨1, 1,
  (.ite (.e (.call "_law_is_of" (.cons (.v 0) (.cons (.k (.str "work")) (.cons (.k (.int 2)) .nil))))) b__law_is_deed_0 []) :: b__law_is_deed_3⟩
/-- _law_deed: 0 _law_state_here, 1 _law_names, 2 _law_way -/
def b__law_deed_0 : List SS := [(.ret (.tup (.cons (.k (.str "work")) (.cons (.call "_law_pick" (.cons (.v 0) (.cons (.v 1) .nil))) .nil))))]
def b__law_deed_1 : List SS := [(.ret (.tup (.cons (.k (.str "touch")) (.cons (.call "_law_pick" (.cons (.v 0) (.cons (.lst (.cons (.k (.int 0)) (.cons (.k (.int 999)) (.cons (.k (.int 7)) (.cons (.k (.int 8)) (.cons (.call "_law_next" (.cons (.v 0) (.cons (.k (.int 1000)) .nil))) .nil)))))) .nil))) .nil))))]
def b__law_deed_2 : List SS := [(.ret (.tup (.cons (.k (.str "way")) (.cons (.call "_law_pick" (.cons (.v 0) (.cons (.v 1) .nil))) (.cons (.call "_law_next" (.cons (.v 0) (.cons (.k (.int 2)) .nil))) .nil)))))]
def b__law_deed_3 : List SS := (.ite (.e (.cmp .eq (.v 2) (.k (.int 1)))) b__law_deed_1 []) :: b__law_deed_2
def b__law_deed_4 : List SS := (.ite (.e (.cmp .eq (.v 2) (.k (.int 0)))) b__law_deed_0 []) :: b__law_deed_3
def w__law_deed : Df := ⟨3, 2,
  (.asg (.v 2) (.call "_law_next" (.cons (.v 0) (.cons (.k (.int 3)) .nil)))) :: b__law_deed_4⟩
/-- _law_odd: 0 _law_state_here, 1 _law_thing, 2 _law_some -/
def b__law_odd_0 : List SS := [(.asg (.v 2) (.lst (.cons (.bin .add (.v 1) (.k (.int 1))) (.cons (.bin .sub (.v 1) (.k (.int 1))) (.cons (.neg (.k (.int 1))) (.cons (.k (.int 1000)) (.cons (.bin .add (.v 1) (.bin .pow (.k (.int 10)) (.k (.int 30)))) (.cons (.k (.bool true)) (.cons (.k (.bool false)) (.cons (.k .none) (.cons (.bi .strOf (.cons (.v 1) .nil)) (.cons (.tup (.cons (.v 1) .nil)) (.cons (.lst (.cons (.v 1) .nil)) .nil))))))))))))), (.ret (.call "_law_pick" (.cons (.v 0) (.cons (.v 2) .nil))))]
def b__law_odd_1 : List SS := [(.asg (.v 2) (.lst (.cons (.bin .add (.v 1) (.k (.str "a"))) (.cons (.sl (.v 1) .no (.so (.neg (.k (.int 1))))) (.cons (.sl (.v 1) (.so (.k (.int 1))) .no) (.cons (.k (.str "")) (.cons (.upper (.v 1)) (.cons (.k .none) (.cons (.k (.int 5)) (.cons (.k (.bool true)) (.cons (.tup (.cons (.v 1) .nil)) (.cons (.lst (.cons (.v 1) .nil)) (.cons (.dic1 (.v 1) (.k (.int 1))) .nil))))))))))))), (.ret (.call "_law_pick" (.cons (.v 0) (.cons (.bin .add (.v 2) (.call "_law_kept" .nil)) .nil))))]
def b__law_odd_2 : List SS := [(.asg (.v 2) (.lst (.cons (.bi .listOf (.cons (.v 1) .nil)) (.cons (.bin .add (.v 1) (.tup (.cons (.k (.str "x")) .nil))) (.cons (.sl (.v 1) .no (.so (.neg (.k (.int 1))))) (.cons (.rv (.v 1)) (.cons (.bin .add (.v 1) (.sl (.v 1) (.so (.neg (.k (.int 1)))) .no)) (.cons (.tup .nil) (.cons (.tup (.cons (.v 1) .nil)) (.cons (.lst (.cons (.v 1) .nil)) .nil)))))))))), (.ret (.call "_law_pick" (.cons (.v 0) (.cons (.bin .add (.v 2) (.lst (.cons (.k .none) (.cons (.k (.int 5)) (.cons (.k (.bool true)) (.cons (.k (.str "")) (.cons (.k (.str "x")) (.cons .dic0 (.cons (.dic1 (.k (.str "x")) (.v 1)) (.cons (.bin .add (.v 1) (.tup (.cons (.k .none) .nil))) .nil)))))))))) .nil))))]
def b__law_odd_3 : List SS := (.ite (.e (.bi (.isi .str) (.cons (.v 1) .nil))) b__law_odd_1 []) :: b__law_odd_2
def w__law_odd : Df := ⟨3, 2,
  (.ite (.and (.e (.bi (.isi .int) (.cons (.v 1) .nil))) (.not (.e (.bi (.isi .bool) (.cons (.v 1) .nil))))) b__law_odd_0 []) :: b__law_odd_3⟩
/-- _law_bent: 0 _law_state_here, 1 _law_deed_here, 2 _law_at -/
def b__law_bent_0 : List SS := [(.ret (.call "_law_odd" (.cons (.v 0) (.cons (.v 1) .nil))))]
def b__law_bent_1 : List SS := [(.ret (.bin .add (.bin .add (.sl (.v 1) .no (.so (.v 2))) (.tup (.cons (.call "_law_odd" (.cons (.v 0) (.cons (.ix (.v 1) (.v 2)) .nil))) .nil))) (.sl (.v 1) (.so (.bin .add (.v 2) (.k (.int 1)))) .no)))]
def b__law_bent_2 : List SS := (.ite (.e (.cmp .eq (.v 2) (.bi .len (.cons (.v 1) .nil)))) b__law_bent_0 []) :: b__law_bent_1
def w__law_bent : Df := ⟨3, 2,
  (.asg (.v 2) (.call "_law_next" (.cons (.v 0) (.cons (.bin .add (.bi .len (.cons (.v 1) .nil)) (.k (.int 1))) .nil)))) :: b__law_bent_2⟩
theorem sem_go {T : Str → Option Df} {con : Str → Option PyData} {k : Nat} {f : Str} {d : Df} {ags : List Ag} {Q : QT} {E : ET} (h : T f = some d) (hl : ags.length = d.ps)
    (hb : evSs ⟨sem T con k, con⟩ d.body (startW d.n ags) (dEnds ags Q E)) : sem T con (k + 1) f ags Q E := by
  rw [sem, h]
  exact ⟨hl, hb⟩
/-! ### loops, walks -/
theorem walk_inv {same : W → Prop} {body : PyData → W → (W → Prop) → (W → Prop) → Prop} (I : W → Prop) {k b : W → Prop} (hs : ∀ w, I w → same w) (hk : ∀ w, I w → k w) : ∀ (xs : List PyData) (w : W),
    (∀ x ∈ xs, ∀ w, I w → ∀ k', (∀ w', I w' → k' w') → body x w k' b) → I w → walk same body xs w k b
  | [], w, _, hi => ⟨hs w hi, hk w hi⟩
  | x :: xs, w, hb, hi => ⟨hs w hi, hb x List.mem_cons_self w hi _ fun w' hi' => walk_inv I hs hk xs w' (fun y hy => hb y (List.mem_cons_of_mem _ hy)) hi'⟩
theorem walkC_inv {same : W → Prop} {body : PyData → W → (Option PyData → W → Prop) → Prop} (I : List PyData → W → Prop) {k : List PyData → W → Prop} (hs : ∀ acc w, I acc w → same w) : ∀ (xs acc : List PyData) (w : W), (∀ acc' w, I acc' w → acc'.length = acc.length + xs.length → k acc' w) →
    (∀ x ∈ xs, ∀ acc w, I acc w → ∀ ky : Option PyData → W → Prop, (∀ y w', I (acc ++ [y]) w' → ky (some y) w') → body x w ky) → acc.length + xs.length ≤ sizeLine → I acc w → walkC same body xs acc w k
  | [], acc, w, hk, _, _, hi => ⟨hs acc w hi, hk acc w hi rfl⟩
  | x :: xs, acc, w, hk, hb, hl, hi => ⟨hs acc w hi, hb x List.mem_cons_self acc w hi _ fun y w' hi' => by
    rw [List.length_cons] at hl
    refine ⟨by omega, walkC_inv I hs xs (acc ++ [y]) w' (fun acc' w2 h1 h2 => hk acc' w2 h1 ?_) (fun z hz => hb z (List.mem_cons_of_mem _ hz)) (by rw [List.length_append, List.length_singleton]; omega) hi'⟩
    rw [List.length_append, List.length_singleton] at h2
    rw [List.length_cons]
    omega⟩
theorem walkC_fm {α : Type} {same : W → Prop} {body : PyData → W → (Option PyData → W → Prop) → Prop} (f : α → PyData) (g : α → Option PyData) {w : W} {k : List PyData → W → Prop} (hs : same w) : ∀ (cs : List α) (acc : List PyData),
    (∀ c ∈ cs, ∀ ky : Option PyData → W → Prop, ky (g c) w → body (f c) w ky) → acc.length + cs.length ≤ sizeLine → k (acc ++ cs.filterMap g) w → walkC same body (cs.map f) acc w k
  | [], acc, _, _, hk => ⟨hs, by simpa using hk⟩
  | c :: cs, acc, hb, hl, hk => ⟨hs, by
    rw [List.length_cons] at hl
    refine hb c List.mem_cons_self _ ?_
    cases e : g c with
    | none => exact walkC_fm f g hs cs acc (fun z hz => hb z (List.mem_cons_of_mem _ hz)) (by omega) (by simpa [List.filterMap_cons, e] using hk)
    | some y => exact ⟨by omega, walkC_fm f g hs cs (acc ++ [y]) (fun z hz => hb z (List.mem_cons_of_mem _ hz)) (by rw [List.length_append, List.length_singleton]; omega) (by simpa [List.filterMap_cons, e] using hk)⟩⟩
theorem rng1_len {n : Int} : (rng1D n).length = n.toNat := by
  unfold rng1D
  rw [List.length_map, List.length_range]
theorem mem_rng1 {n : Int} {x : PyData} (h : x ∈ rng1D n) : ∃ j : Nat, (j : Int) < n ∧ x = .int j := by
  unfold rng1D at h
  obtain ⟨j, hj, rfl⟩ := List.mem_map.mp h
  have := List.mem_range.mp hj
  exact ⟨j, by omega, rfl⟩
/-! ### numbers -/
theorem fm {n m : Int} (hm : 0 < m) : 0 ≤ n.fmod m ∧ n.fmod m < m := ⟨Int.fmod_nonneg_of_pos n hm, Int.fmod_lt_of_pos n hm⟩
theorem fd {n m : Int} (hn : 0 ≤ n) (hm : 0 < m) : 0 ≤ n.fdiv m := Int.fdiv_nonneg hn (by omega)
theorem at_fm {α : Type} {xs : List α} {n : Int} (h : xs ≠ []) : ∃ x, x ∈ xs ∧ atI xs (n.fmod (xs.length : Int)) = some x := by
  have hl : (0 : Int) < (xs.length : Int) := by
    have := List.length_pos_iff.mpr h
    omega
  obtain ⟨h1, h2⟩ := fm (n := n) hl
  unfold atI ixN
  rw [if_pos h1, if_pos h2]
  have h3 : (n.fmod (xs.length : Int)).toNat < xs.length := by omega
  exact ⟨xs[(n.fmod (xs.length : Int)).toNat], List.getElem_mem h3, by simp [h3]⟩
theorem at_lt {α : Type} {xs : List α} {i : Int} (h0 : 0 ≤ i) (h : i < (xs.length : Int)) : ∃ x, x ∈ xs ∧ atI xs i = some x := by
  unfold atI ixN
  rw [if_pos h0, if_pos h]
  have h3 : i.toNat < xs.length := by omega
  exact ⟨xs[i.toNat], List.getElem_mem h3, by simp [h3]⟩
theorem mul_l {i j : Int} (h1 : -(2 ^ 64) < i) (h2 : i < 2 ^ 64) : CMul i j := .inl ⟨h1, h2⟩
theorem mul_r {i j : Int} (h1 : -(2 ^ 64) < j) (h2 : j < 2 ^ 64) : CMul i j := .inr ⟨h1, h2⟩
theorem div_ok {i j : Int} (h1 : 0 < j) (h2 : j < 1073741824) : CDivN i j := ⟨by omega, by omega⟩
theorem pow_ok {i j : Int} (h1 : 0 ≤ j) (h2 : j ≤ 1000000) (h3 : i.natAbs < 2 ^ 64) : CPow i j := ⟨h1, h2, h3⟩
/-! ### draws -/
variable {T : Str → Option Df} {con : Str → Option PyData} {k : Nat} {Q : QT} {E : ET}
theorem sp_next (h1 : T "_law_next" = some w__law_next) {n m : Int} (hm : 0 < m) (hb : m < 1073741824) (h : Q (.d (.int (n.fmod m))) [some (.l [.int (n.fdiv m)]), none]) :
    sem T con (k + 1) "_law_next" [.c (.l [.int n]), .d (.int m)] Q E := by
  refine sem_go h1 rfl ?_
  unfold w__law_next
  walk_at "lb"
  exact ⟨by omega, div_ok hm hb, h⟩
/-- a draw: a number below the bound, the state goes on -/
theorem dr_next (h1 : T "_law_next" = some w__law_next) {n m : Int} (hn : 0 ≤ n) (hm : 0 < m) (hb : m < 1073741824) (h : ∀ a n' : Int, 0 ≤ a → a < m → 0 ≤ n' → Q (.d (.int a)) [some (.l [.int n']), none]) :
    sem T con (k + 1) "_law_next" [.c (.l [.int n]), .d (.int m)] Q E := sp_next h1 hm hb (h _ _ (fm hm).1 (fm hm).2 (fd hn hm))
theorem dr_pick (h1 : T "_law_next" = some w__law_next) (h2 : T "_law_pick" = some w__law_pick) {n : Int} {xs : List PyData} (hn : 0 ≤ n) (h0 : xs ≠ []) (hb : xs.length < 1000) (h : ∀ x ∈ xs, ∀ m : Int, 0 ≤ m → Q (.d x) [some (.l [.int m]), some (.l xs)]) :
    sem T con (k + 2) "_law_pick" [.c (.l [.int n]), .c (.l xs)] Q E := by
  have hl : (0 : Int) < (xs.length : Int) := by
    have := List.length_pos_iff.mpr h0
    omega
  refine sem_go h2 rfl ?_
  unfold w__law_pick
  walk_at "lb"
  refine sp_next h1 hl (by omega) ?_
  obtain ⟨x, hx, e⟩ := at_fm (n := n) h0
  push_cast only [e]
  exact h x hx _ (fd hn hl)
theorem dr_pickS (h1 : T "_law_next" = some w__law_next) (h2 : T "_law_pick" = some w__law_pick) {n : Int} {z : Str} (hn : 0 ≤ n) (h0 : z.cps.toList ≠ []) (hb : z.length < 1000) (h : ∀ c ∈ z.cps.toList, ∀ m : Int, 0 ≤ m → Q (.d (.str ⟨#[c]⟩)) [some (.l [.int m]), none]) :
    sem T con (k + 2) "_law_pick" [.c (.l [.int n]), .d (.str z)] Q E := by
  have hz : z.length = z.cps.toList.length := rfl
  have hl : (0 : Int) < (z.length : Int) := by
    have := List.length_pos_iff.mpr h0
    omega
  refine sem_go h2 rfl ?_
  unfold w__law_pick
  walk_at "lb"
  refine sp_next h1 hl (by omega) ?_
  obtain ⟨x, hx, e⟩ := at_fm (n := n) h0
  rw [← hz] at e
  push_cast only [e]
  exact h x hx _ (fd hn hl)
abbrev KD : List PyData := [.str "work", .str "touch", .str "way", .str "among", .str "or", .str "times", .str "call", .str "part", .str "main", .str "end"]
theorem sp_kept (h1 : T "_law_kept" = some w__law_kept) (h : Q (.n (.l KD)) []) : sem T con (k + 1) "_law_kept" [] Q E := by
  refine sem_go h1 rfl ?_
  unfold w__law_kept
  walk_at "lb"
  exact h
/-! ### the state -/
theorem st_loop {ns : List Int} {i : Nat} (hi : i < 1000) (h : ∀ m : Int, 0 ≤ m → Q (.n (.l [.int m])) [none, none]) (cell : Int) (hc : 0 ≤ cell) (hc2 : cell < 10 ^ 18) :
    evSs ⟨sem T con k, con⟩ b__law_state_3 ⟨[.z ns, .d (.int i), .d (.int cell), .no, .no, .no], [none, none]⟩ (dEnds [.z ns, .d (.int i)] Q E) := by
  unfold b__law_state_3
  walk_at "lb"
  refine walk_inv (fun w => ∃ (f : Int) (s4 s5 : Sl), 0 ≤ f ∧ w = ⟨[.z ns, .d (.int i), .d (.int cell), .d (.int f), s4, s5], [none, none]⟩) (fun _ _ => trivial) (fun w => ?_) _ _ (fun x hx w hw k' hk' => ?_) ⟨0, .no, .no, Int.le_refl 0, rfl⟩
  · rintro ⟨f, s4, s5, hf, rfl⟩
    unfold b__law_state_2
    walk_at "lb"
    exact h f hf
  · obtain ⟨f, s4, s5, hf, rfl⟩ := hw
    obtain ⟨j, hj, rfl⟩ := mem_rng1 hx
    unfold b__law_state_1
    walk_at "lb"
    refine ⟨mul_l (by decide) (by decide), mul_l (by decide) (by decide), mul_r (by decide) (by decide), mul_r (by decide) (by decide), mul_l (by decide) (by decide), ?_, hk' _ ⟨_, _, _, ?_, rfl⟩⟩
    · obtain ⟨o1, o2⟩ := fm (n := (cell + 7919 * (40 * (i : Int) + (j : Int) + 1)) * 48271) (m := 2147483647) (by decide)
      exact mul_l (by omega) (by omega)
    · obtain ⟨p1, _⟩ := fm (n := ((cell + 7919 * (40 * (i : Int) + (j : Int) + 1)) * 48271).fmod 2147483647 * (((cell + 7919 * (40 * (i : Int) + (j : Int) + 1)) * 48271).fmod 2147483647 + 2 * (j : Int) + 1)) (m := 2147483629) (by decide)
      have := Int.mul_nonneg hf (show (0 : Int) ≤ 2147483629 by decide)
      omega
theorem sp_state (h1 : T "_law_state" = some w__law_state) {ns : List Int} {i : Nat} (hi : i < 1000) (h : ∀ m : Int, 0 ≤ m → Q (.n (.l [.int m])) [none, none]) : sem T con (k + 1) "_law_state" [.z ns, .d (.int i)] Q E := by
  refine sem_go h1 rfl ?_
  unfold w__law_state
  have hp : CPow 10 18 := pow_ok (by decide) (by decide) (by decide)
  walk_at "lb"
  refine br_split (fun hl => ?_) (fun hl => ?_)
  · have e : atI ns (i : Int) = some (ns[i]'(by omega)) := by
      unfold atI ixN
      rw [if_pos (by omega), if_pos (by omega)]
      simp only [Option.bind_some, Int.toNat_natCast]
      exact List.getElem?_eq_getElem (by omega)
    generalize ns[i]'(by omega) = c at e
    push_cast only [e]
    refine ⟨hp, ?_⟩
    have ha : 0 ≤ (if c < 0 then -c else c) := by split <;> omega
    generalize (if c < 0 then -c else c) = cell at ha
    refine br_split (fun hb => ?_) (fun hb => ?_)
    · push_cast only [b__law_state_0]
      exact ⟨hp, h _ (by have : (10 : Int) ^ Int.toNat 18 = 1000000000000000000 := by decide
                         omega)⟩
    · simp only [q_nil, h1_eq]
      exact st_loop hi h cell ha (by have : (10 : Int) ^ Int.toNat 18 = 1000000000000000000 := by decide
                                     omega)
  · walk_at "lb"
    exact ⟨hp, st_loop hi h 0 (by decide) (by decide)⟩
end Cm
set_option maxHeartbeats 4000000
/-! ## Cm2 -/
/-! Cm2: names, deeds: what the program and the laws say of them. -/
namespace Cm
open PySem L2 Lb
local macro_rules | `(tactic| walk_at "lb") => `(tactic| simp (config := {dsimp := false}) only [↓h1_eq, ↓h2_eq, ↓h3_eq, ↓h4_eq, goR_eq, goX_eq, br_t, br_f, g0, gS, s0, sS, ↓varP_eq, varS_d, varS_o, varS_a, varS_f, varS_z, rdS_eq, ↓optP_eq, ↓rdP_d, ↓rdP_n, ↓rdP_s, ↓rdP_a, dat_l, dat_m, slotDat_d, slotDat_o, argDat_c, ↓x_v, ↓x_k, ↓x_g, ↓x_fn, ↓x_bin, ↓x_neg, ↓x_cmp, ↓x_chain, ↓x_isN, ↓x_isB, ↓x_and, ↓x_or, ↓x_not, ↓x_ife, ↓x_tup, ↓x_lst, ↓x_dic0, ↓x_dic1, ↓x_ix, zS_eq, ↓x_zlen, ↓x_zix, ↓x_sl, ↓x_rv, ↓x_call, fS_eq, ↓x_callv, ↓x_bi, ↓x_app, ↓x_pop, ↓x_ext, ↓x_join, ↓x_upper, ↓x_lc, ↓y_e, ↓y_tr, ↓y_not, ↓y_and, ↓y_or, ↓a_nil', ↓a_cons', ↓d_nil', ↓d_cons', ↓o_no', ↓o_so', ↓j_seq, ↓j_str, ↓j_rng1, ↓j_rng2, ↓c_no', ↓c_so', ↓q_nil, ↓q_cons, ↓z_asg, ↓z_par, ↓z_aug, ↓z_put, ↓z_ex, ↓z_ret, ↓z_retN, ↓z_ite, ↓z_for, ↓z_whl, ↓z_pass, ↓z_brk, ↓z_cont, ↓z_rais, ↓dEnds_mk, ↓bindP_d, ↓bindP_n, ↓bindP_f, bindA_eq, ↓bindP_a, bindS_o, bindS_d, ↓bindP_s, ↓tgV_v, ↓tgV_t, ↓tgP_v, ↓tgP_t, ↓tgsP_nil, ↓tgsP_cons, ↓datP_d, ↓datP_n, datS_o, datS_d, ↓datP_s, ↓valP_n, ↓valP_d, ↓valP_s, seqA_eq, ↓seqP_a, ↓seqD_l, ↓seqD_t, ↓seqP_d, ↓seqP_n, ↓seqP_s, ↓isNP_none, ↓isNP_bool, ↓isNP_int, ↓isNP_str, ↓isNP_list, ↓isNP_tuple, ↓isNP_dict, ↓isNP_n, ↓isNP_f, getS_eq, getA_eq, ↓getCP_s, ↓getCP_a, ↓isNP_s, ↓isNP_a, ↓putP_s, ↓putP_a, lisP_eq, ↓appP_eq, lisD_eq, ↓extP_eq, ↓popP_eq, ↓putIxP_eq, ↓putP_n, ↓putP_d, ↓bin_add_i, ↓bin_add_s, ↓bin_add_t, ↓bin_add_l, ↓bin_sub_i, ↓bin_mul_i, ↓bin_mul_l, ↓bin_mul_t, ↓bin_fdiv_i, ↓bin_mod_i, ↓bin_pow_i, ↓aug_add, ↓aug_sub, ↓cmp_lt, ↓cmp_le, ↓cmp_gt, ↓cmp_ge, ↓cmp_lts, ↓cmp_eq, ↓cmp_ne, ↓cmp_in, ↓cmp_notin, ↓in_t, ↓in_l, ↓in_s1, fl_n, fl_b, fl_i, fl_s, fl_t, fl_l, fl_d, List.all_cons, List.all_nil, Bool.and_true, Bool.true_and, Int.reduceToNat, eo_i, eo_s, eo_b, eo_is, eo_si, ev_i, ev_s, ev_b, ev_is, ev_si, ↓ix_l, ↓ix_t, ↓ix_s, atI_0, atI_1, atI_2, atI_3, ixN_0, ixN_1, ixN_2, ixN_3, ↓sl_l, ↓sl_t, ↓sl_s, ↓rv_l, ↓rv_t, ↓rv_s, eo_ln, eo_tn, ev_ll, ev_tt, ea_n, ea_nc, ea_cc, List.isEmpty_nil, List.isEmpty_cons, ↓intP_eq, ↓strP_eq, ↓tru_b, ↓truA_b, ↓truA_i, ↓truA_s, ↓truA_l, ↓truA_t, ↓truA_n, ↓lstP_eq, ↓rds_nil, ↓rds_cons, ↓b_len_s, ↓b_len_t, ↓b_len_l, ↓b_abs, ↓b_min2, ↓b_max2, ↓b_int_i, ↓b_int_b, ↓b_str, ↓b_isi, ↓b_isiLT, ↓b_tup_l, ↓b_tup_t, ↓b_lst_l, ↓b_lst_t, ↓b_sum, ↓backs_nil, ↓backs_s, ↓backs_n, ag_d, ag_n, ag_f, ag_z, ag_s, ag_a, agS_o, agS_d, agA_c, ↓ags_nil, ↓ags_cons, res_d, res_n, res_f, res_a, resA_n, resA_s, resA_a, ↓callP_eq, sh_nil, sh_d, sh_n, sh_f, sh_z, sh_s, sh_a, di_0, di_1, di_2, di_2a, di_2b, di_2c, rv_d, rv_n, rv_f, rv_sl, rv_a, rvS_o, rvS_d, rvA_c, shp_nil, shp_cc, shp_d, shp_f, shp_z, ownS_no, ownS_d, own_nil, own_cons, ↓bindW_eq, ↓wip_nil, ↓wip_cons, ↓rest_nil, ↓rest_cons, startW, slsFrom, slOf, cvOf, isT, List.length_cons, List.length_nil, List.replicate, List.append, List.cons_append, List.nil_append, List.map, List.map_cons, List.map_nil, Option.getD_some, Nat.reduceAdd, Nat.reduceSub, Nat.reduceMul, Nat.reduceEqDiff, Nat.zero_add, Nat.reduceLeDiff, Nat.reduceLT, Nat.reduceBEq, Int.reduceAdd, Int.reduceSub, Int.reduceMul, Int.reduceNeg, Int.reduceLT, Int.reduceLE, Int.reduceEq, Int.reducePow, Int.cast_ofNat_Int, decide_eq_true_eq, decide_true, decide_false, Bool.not_true, Bool.not_false, Bool.not_eq_true', decide_eq_false_iff_not, Bool.false_eq_true, Bool.true_eq_false, eq_self, ne_eq, not_false_eq_true, not_true_eq_false, reduceIte, true_and, and_true, bne_self_eq_false, Bool.false_bne, Bool.true_bne, Bool.cond_true, Bool.cond_false, sizeLine_eq, varS_x, ↓x_isx, ↓isxP_x, ↓x_cnt, ↓x_idx, ↓cntP_l, ↓idxP_l, ↓z_tryx, ↓z_augIx, ↓bindP_x, ↓isNP_x, ag_x, sh_x, shp_x, ↓x_sumL, ↓x_noneIn, ↓noneInP_l, itmD_l, itmD_t, ↓b_repr, ↓sumLP_eq])
local macro_rules | `(tactic| push_cast only [$as,*]) => `(tactic| simp (config := {dsimp := false}) only [↓h1_eq, ↓h2_eq, ↓h3_eq, ↓h4_eq, goR_eq, goX_eq, br_t, br_f, g0, gS, s0, sS, ↓varP_eq, varS_d, varS_o, varS_a, varS_f, varS_z, rdS_eq, ↓optP_eq, ↓rdP_d, ↓rdP_n, ↓rdP_s, ↓rdP_a, dat_l, dat_m, slotDat_d, slotDat_o, argDat_c, ↓x_v, ↓x_k, ↓x_g, ↓x_fn, ↓x_bin, ↓x_neg, ↓x_cmp, ↓x_chain, ↓x_isN, ↓x_isB, ↓x_and, ↓x_or, ↓x_not, ↓x_ife, ↓x_tup, ↓x_lst, ↓x_dic0, ↓x_dic1, ↓x_ix, zS_eq, ↓x_zlen, ↓x_zix, ↓x_sl, ↓x_rv, ↓x_call, fS_eq, ↓x_callv, ↓x_bi, ↓x_app, ↓x_pop, ↓x_ext, ↓x_join, ↓x_upper, ↓x_lc, ↓y_e, ↓y_tr, ↓y_not, ↓y_and, ↓y_or, ↓a_nil', ↓a_cons', ↓d_nil', ↓d_cons', ↓o_no', ↓o_so', ↓j_seq, ↓j_str, ↓j_rng1, ↓j_rng2, ↓c_no', ↓c_so', ↓q_nil, ↓q_cons, ↓z_asg, ↓z_par, ↓z_aug, ↓z_put, ↓z_ex, ↓z_ret, ↓z_retN, ↓z_ite, ↓z_for, ↓z_whl, ↓z_pass, ↓z_brk, ↓z_cont, ↓z_rais, ↓dEnds_mk, ↓bindP_d, ↓bindP_n, ↓bindP_f, bindA_eq, ↓bindP_a, bindS_o, bindS_d, ↓bindP_s, ↓tgV_v, ↓tgV_t, ↓tgP_v, ↓tgP_t, ↓tgsP_nil, ↓tgsP_cons, ↓datP_d, ↓datP_n, datS_o, datS_d, ↓datP_s, ↓valP_n, ↓valP_d, ↓valP_s, seqA_eq, ↓seqP_a, ↓seqD_l, ↓seqD_t, ↓seqP_d, ↓seqP_n, ↓seqP_s, ↓isNP_none, ↓isNP_bool, ↓isNP_int, ↓isNP_str, ↓isNP_list, ↓isNP_tuple, ↓isNP_dict, ↓isNP_n, ↓isNP_f, getS_eq, getA_eq, ↓getCP_s, ↓getCP_a, ↓isNP_s, ↓isNP_a, ↓putP_s, ↓putP_a, lisP_eq, ↓appP_eq, lisD_eq, ↓extP_eq, ↓popP_eq, ↓putIxP_eq, ↓putP_n, ↓putP_d, ↓bin_add_i, ↓bin_add_s, ↓bin_add_t, ↓bin_add_l, ↓bin_sub_i, ↓bin_mul_i, ↓bin_mul_l, ↓bin_mul_t, ↓bin_fdiv_i, ↓bin_mod_i, ↓bin_pow_i, ↓aug_add, ↓aug_sub, ↓cmp_lt, ↓cmp_le, ↓cmp_gt, ↓cmp_ge, ↓cmp_lts, ↓cmp_eq, ↓cmp_ne, ↓cmp_in, ↓cmp_notin, ↓in_t, ↓in_l, ↓in_s1, fl_n, fl_b, fl_i, fl_s, fl_t, fl_l, fl_d, List.all_cons, List.all_nil, Bool.and_true, Bool.true_and, Int.reduceToNat, eo_i, eo_s, eo_b, eo_is, eo_si, ev_i, ev_s, ev_b, ev_is, ev_si, ↓ix_l, ↓ix_t, ↓ix_s, atI_0, atI_1, atI_2, atI_3, ixN_0, ixN_1, ixN_2, ixN_3, ↓sl_l, ↓sl_t, ↓sl_s, ↓rv_l, ↓rv_t, ↓rv_s, eo_ln, eo_tn, ev_ll, ev_tt, ea_n, ea_nc, ea_cc, List.isEmpty_nil, List.isEmpty_cons, ↓intP_eq, ↓strP_eq, ↓tru_b, ↓truA_b, ↓truA_i, ↓truA_s, ↓truA_l, ↓truA_t, ↓truA_n, ↓lstP_eq, ↓rds_nil, ↓rds_cons, ↓b_len_s, ↓b_len_t, ↓b_len_l, ↓b_abs, ↓b_min2, ↓b_max2, ↓b_int_i, ↓b_int_b, ↓b_str, ↓b_isi, ↓b_isiLT, ↓b_tup_l, ↓b_tup_t, ↓b_lst_l, ↓b_lst_t, ↓b_sum, ↓backs_nil, ↓backs_s, ↓backs_n, ag_d, ag_n, ag_f, ag_z, ag_s, ag_a, agS_o, agS_d, agA_c, ↓ags_nil, ↓ags_cons, res_d, res_n, res_f, res_a, resA_n, resA_s, resA_a, ↓callP_eq, sh_nil, sh_d, sh_n, sh_f, sh_z, sh_s, sh_a, di_0, di_1, di_2, di_2a, di_2b, di_2c, rv_d, rv_n, rv_f, rv_sl, rv_a, rvS_o, rvS_d, rvA_c, shp_nil, shp_cc, shp_d, shp_f, shp_z, ownS_no, ownS_d, own_nil, own_cons, ↓bindW_eq, ↓wip_nil, ↓wip_cons, ↓rest_nil, ↓rest_cons, startW, slsFrom, slOf, cvOf, isT, List.length_cons, List.length_nil, List.replicate, List.append, List.cons_append, List.nil_append, List.map, List.map_cons, List.map_nil, Option.getD_some, Nat.reduceAdd, Nat.reduceSub, Nat.reduceMul, Nat.reduceEqDiff, Nat.zero_add, Nat.reduceLeDiff, Nat.reduceLT, Nat.reduceBEq, Int.reduceAdd, Int.reduceSub, Int.reduceMul, Int.reduceNeg, Int.reduceLT, Int.reduceLE, Int.reduceEq, Int.reducePow, Int.cast_ofNat_Int, decide_eq_true_eq, decide_true, decide_false, Bool.not_true, Bool.not_false, Bool.not_eq_true', decide_eq_false_iff_not, Bool.false_eq_true, Bool.true_eq_false, eq_self, ne_eq, not_false_eq_true, not_true_eq_false, reduceIte, true_and, and_true, bne_self_eq_false, Bool.false_bne, Bool.true_bne, Bool.cond_true, Bool.cond_false, sizeLine_eq, varS_x, ↓x_isx, ↓isxP_x, ↓x_cnt, ↓x_idx, ↓cntP_l, ↓idxP_l, ↓z_tryx, ↓z_augIx, ↓bindP_x, ↓isNP_x, ag_x, sh_x, shp_x, ↓x_sumL, ↓x_noneIn, ↓noneInP_l, itmD_l, itmD_t, ↓b_repr, ↓sumLP_eq, $as,*])
variable {T : Str → Option Df} {con : Str → Option PyData} {k : Nat} {Q : QT} {E : ET}
theorem eq_false_of_ne_true {b : Bool} (h : ¬ b = true) : b = false := by cases b <;> simp_all
/-! ### things whose texts have real signs -/
mutual
def okB : PyData → Bool
  | .none => true
  | .bool _ => true
  | .int _ => true
  | .str z => z.cps.toList.all fun c => decide (c < 1114112)
  | .list xs => okAll xs
  | .tuple xs => okAll xs
  | .dict _ => true
def okAll : List PyData → Bool
  | [] => true
  | x :: xs => okB x && okAll xs
end
abbrev okD (x : PyData) : Prop := okB x = true
def okS (z : Str) : Prop := ∀ c ∈ z.cps.toList, c < 1114112
theorem okD_str {z : Str} : okD (.str z) ↔ okS z := by
  show z.cps.toList.all (fun c => decide (c < 1114112)) = true ↔ okS z
  rw [List.all_eq_true]
  exact ⟨fun h c hc => of_decide_eq_true (h c hc), fun h c hc => decide_eq_true (h c hc)⟩
theorem okAll_iff : ∀ {xs : List PyData}, okAll xs = true ↔ ∀ x ∈ xs, okD x
  | [] => by simp [okAll]
  | x :: xs => by simp [okAll, okAll_iff (xs := xs)]
theorem okD_tup {xs : List PyData} : okD (.tuple xs) ↔ ∀ x ∈ xs, okD x := by
  rw [← okAll_iff]; unfold okD okB; rfl
theorem okD_lst {xs : List PyData} : okD (.list xs) ↔ ∀ x ∈ xs, okD x := by
  rw [← okAll_iff]; unfold okD okB; rfl
theorem okD_int (i : Int) : okD (.int i) := rfl
theorem okD_bool (i : Bool) : okD (.bool i) := rfl
theorem okD_none : okD .none := rfl
theorem okD_dict (i : List (PyData × PyData)) : okD (.dict i) := rfl
/-! ### texts -/
theorem app_mem {x y : Str} {c : Nat} (h : c ∈ (x ++ y).cps.toList) : c ∈ x.cps.toList ∨ c ∈ y.cps.toList := by
  have h : c ∈ (x.cps ++ y.cps).toList := h
  simpa using h
theorem cut_mem {z : Str} {lo hi : Option Int} {c : Nat} (h : c ∈ (cutS z lo hi).cps.toList) : c ∈ z.cps.toList := by
  unfold cutS at h
  simp at h
  have h := List.mem_of_mem_take h
  exact by simpa using List.mem_of_mem_drop h
theorem join_mem {c : Nat} : ∀ {ys : List Str}, c ∈ (Str.join "" ys).cps.toList → ∃ y ∈ ys, c ∈ y.cps.toList
  | [], h => by cases h
  | [x], h => ⟨x, List.mem_cons_self, h⟩
  | x :: y :: r, h => by
    have h : c ∈ (x ++ ("" : Str) ++ Str.join "" (y :: r)).cps.toList := h
    rcases app_mem h with h | h
    · rcases app_mem h with h | h
      · exact ⟨x, List.mem_cons_self, h⟩
      · cases h
    · obtain ⟨v, hv, hc⟩ := join_mem h
      exact ⟨v, List.mem_cons_of_mem _ hv, hc⟩
theorem strs_map : ∀ ys : List Str, strsD (ys.map PyData.str) = some ys
  | [] => rfl
  | y :: r => by
    show (strsD (r.map PyData.str)).map (y :: ·) = _
    rw [strs_map r]
    all_goals rfl
theorem sum_one : ∀ {ys : List Str}, (∀ y ∈ ys, y.length = 1) → (ys.map (·.length)).sum = ys.length
  | [], _ => rfl
  | y :: r, h => by
    rw [List.map_cons, List.sum_cons, h y List.mem_cons_self, sum_one fun z hz => h z (List.mem_cons_of_mem _ hz), List.length_cons]
    omega
theorem cut_le {z : Str} {n : Nat} : (cutS z none (some (n : Int))).length ≤ n := by
  show (((z.cps.toList.drop (HT.sIx z.length 0 none)).take (HT.sIx z.length z.length (some (n : Int)) - HT.sIx z.length 0 none)).toArray).size ≤ n
  rw [List.size_toArray, List.length_take]
  have : HT.sIx z.length z.length (some (n : Int)) = min n z.length := HT.sIx_nat z.length z.length n
  omega
theorem app_len {x y : Str} {n m : Nat} (h1 : x.length ≤ n) (h2 : y.length ≤ m) : (x ++ y).length ≤ n + m := by
  rw [strLen]
  omega
theorem cut_len {z : Str} {lo hi : Option Int} {n : Nat} (h : z.length ≤ n) : (cutS z lo hi).length ≤ n := Nat.le_trans (cutS_len z lo hi) h
theorem okS_app {x y : Str} (h1 : okS x) (h2 : okS y) : okS (x ++ y) := fun c hc => (app_mem hc).elim (h1 c) (h2 c)
theorem okS_cut {z : Str} {lo hi : Option Int} (h : okS z) : okS (cutS z lo hi) := fun c hc => h c (cut_mem hc)
theorem okS_lit {z : Str} (h : (z.cps.toList.all fun c => decide (c < 1114112)) = true) : okS z := fun c hc => by
  have := List.all_eq_true.mp h c hc
  simpa using this
/-! ### names -/
def LET : Str := "abcdefghijklmnopqrstuvwxyz"
def lowB (c : Nat) : Bool := decide (97 ≤ c ∧ c ≤ 122)
theorem LET_mem {c : Nat} : c ∈ LET.cps.toList ↔ lowB c = true := by
  have e : LET.cps.toList = List.range' 97 26 := by decide +kernel
  rw [e, List.mem_range'_1]
  unfold lowB
  rw [decide_eq_true_eq]
  omega
def sgn (c : Nat) : Option PyData := if c ∈ LET.cps.toList then none else some (.str ⟨#[c]⟩)
def bad (z : Str) : List PyData := z.cps.toList.filterMap sgn
theorem bad_eq (z : Str) : (bad z).isEmpty = z.cps.toList.all lowB := by
  unfold bad
  generalize z.cps.toList = cs
  induction cs with
  | nil => rfl
  | cons c cs ih =>
    rw [List.filterMap_cons, List.all_cons]
    unfold sgn at ih ⊢
    by_cases e : c ∈ LET.cps.toList
    · rw [if_pos e, LET_mem.mp e]
      simpa using ih
    · rw [if_neg e]
      have : lowB c = false := by
        cases q : lowB c with
        | false => rfl
        | true => exact absurd (LET_mem.mpr q) e
      rw [this]
      simp
theorem sgn_lc {c : Nat} {ky : Option PyData → Prop} (hk : ky (sgn c)) : br (¬c ∈ LET.cps.toList) (h0 (ky (some (.str ⟨#[c]⟩)))) (h0 (ky none)) := by
  unfold sgn at hk
  refine br_split (fun h => ?_) (fun h => ?_)
  · rwa [if_neg h] at hk
  · rwa [if_pos (Classical.not_not.mp h)] at hk
/-- what both say of a text -/
def isNm (z : Str) : Bool := !KD.any (eqFlat (.str z)) && (decide (1 ≤ z.length) && (decide (z.length ≤ 6) && z.cps.toList.all lowB))
def isName : PyData → Bool
  | .str z => isNm z
  | _ => false
theorem isNm_of {z : Str} {b : Bool} (h1 : KD.any (eqFlat (.str z)) = b) : isNm z = (!b && (decide (1 ≤ z.length) && (decide (z.length ≤ 6) && z.cps.toList.all lowB))) := by unfold isNm; rw [h1]
theorem len6 {z : Str} (hl : z.length ≤ 6) : ([] : List PyData).length + (z.cps.toList).length ≤ sizeLine := by
  show 0 + z.length ≤ sizeLine
  rw [sizeLine_eq]
  omega
structure NmC (con : Str → Option PyData) : Prop where
  kept : con "KEPT" = some (.tuple KD)
  letters : con "LETTERS" = some (.str LET)
theorem sp_is_name' (h1 : T "is_name" = some w_is_name) (hc : NmC con) {x : PyData} (h : Q (.d (.bool (isName x))) [none]) : sem T con (k + 1) "is_name" [.d x] Q E := by
  refine sem_go h1 rfl ?_
  unfold w_is_name
  cases x with
  | str z =>
    have h : Q (.d (.bool (isNm z))) [none] := h
    push_cast only [hc.kept, b_is_name_0]
    refine br_split (fun q => ?_) (fun q => ?_)
    · rw [isNm_of q] at h
      walk_at "lb"
      exact h
    · rw [isNm_of (eq_false_of_ne_true q)] at h
      walk_at "lb"
      refine br_split (fun q1 => ?_) (fun q1 => ?_)
      · walk_at "lb"
        refine br_split (fun q2 => ?_) (fun q2 => ?_)
        · push_cast only [b_is_name_0]
          have q2 : ¬ z.length ≤ 6 := by omega
          simpa [q2] using h
        · push_cast only [b_is_name_3]
          have q2 : z.length ≤ 6 := by omega
          refine walkC_fm (fun c => PyData.str ⟨#[c]⟩) sgn trivial z.cps.toList [] (fun c hcc ky hk => ?_) (len6 q2) ?_
          · push_cast only [e_is_name_1, c_is_name_2, hc.letters]
            exact sgn_lc (ky := fun o => ky o _) hk
          · walk_at "lb"
            rw [show List.filterMap sgn z.cps.toList = bad z from rfl, bad_eq]
            have q1 : 1 ≤ z.length := by omega
            simpa [q1, q2] using h
      · walk_at "lb"
        have q1 : ¬ 1 ≤ z.length := by omega
        simpa [q1] using h
  | _ =>
    push_cast only [b_is_name_0]
    exact h
theorem sp_is_name (h1 : T "is_name" = some w_is_name) (hc : NmC con) {x : PyData} (_ : okD x) (h : Q (.d (.bool (isName x))) [none]) : sem T con (k + 1) "is_name" [.d x] Q E := sp_is_name' h1 hc h
theorem sp_lis_name' (h1 : T "_law_is_name" = some w__law_is_name) (h2 : T "_law_kept" = some w__law_kept) {x : PyData} (h : Q (.d (.bool (isName x))) [none]) : sem T con (k + 2) "_law_is_name" [.d x] Q E := by
  refine sem_go h1 rfl ?_
  unfold w__law_is_name
  cases x with
  | str z =>
    have h : Q (.d (.bool (isNm z))) [none] := h
    push_cast only [b__law_is_name_0]
    refine br_split (fun q => ?_) (fun q => ?_)
    · have q1 : ¬ 1 ≤ z.length := by omega
      walk_at "lb"
      simpa [isNm, q1] using h
    · walk_at "lb"
      refine br_split (fun q2 => ?_) (fun q2 => ?_)
      · have q2 : ¬ z.length ≤ 6 := by omega
        walk_at "lb"
        simpa [isNm, q2] using h
      · walk_at "lb"
        refine sp_kept h2 ?_
        walk_at "lb"
        refine br_split (fun q3 => ?_) (fun q3 => ?_)
        · rw [isNm_of q3] at h
          walk_at "lb"
          exact h
        · rw [isNm_of (eq_false_of_ne_true q3)] at h
          push_cast only [b__law_is_name_3]
          have q1 : 1 ≤ z.length := by omega
          have q2 : z.length ≤ 6 := by omega
          refine walkC_fm (fun c => PyData.str ⟨#[c]⟩) sgn trivial z.cps.toList [] (fun c hcc ky hk => ?_) (len6 q2) ?_
          · push_cast only [e__law_is_name_1, c__law_is_name_2]
            exact sgn_lc (ky := fun o => ky o _) hk
          · walk_at "lb"
            rw [show List.filterMap sgn z.cps.toList = bad z from rfl, bad_eq]
            simpa [q1, q2] using h
  | _ =>
    push_cast only [b__law_is_name_0]
    exact h
theorem sp_lis_name (h1 : T "_law_is_name" = some w__law_is_name) (h2 : T "_law_kept" = some w__law_kept) {x : PyData} (_ : okD x) (h : Q (.d (.bool (isName x))) [none]) : sem T con (k + 2) "_law_is_name" [.d x] Q E := sp_lis_name' h1 h2 h
/-! ### numbers, words, deeds -/
def isNum (lo hi : Int) : PyData → Bool
  | .int i => decide (lo ≤ i) && decide (i ≤ hi)
  | _ => false
theorem isT_int_b (b : Bool) : isT .int (.bool b) = true := rfl
theorem sp_is_number_w {d : Df} {f : Str} (h1 : T f = some d) (e : d = w_is_number) {lo hi : Int} {x : PyData} (h : Q (.d (.bool (isNum lo hi x))) [none, none, none]) : sem T con (k + 1) f [.d x, .d (.int lo), .d (.int hi)] Q E := by
  subst e
  refine sem_go h1 rfl ?_
  unfold w_is_number
  cases x with
  | int i =>
    have h : Q (.d (.bool (decide (lo ≤ i) && decide (i ≤ hi)))) [none, none, none] := h
    walk_at "lb"
    refine br_split (fun q => ?_) (fun q => ?_)
    · walk_at "lb"
      simpa [q] using h
    · walk_at "lb"
      simpa [q] using h
  | _ =>
    walk_at "lb"
    exact h
theorem sp_is_number (h1 : T "is_number" = some w_is_number) {lo hi : Int} {x : PyData} (h : Q (.d (.bool (isNum lo hi x))) [none, none, none]) : sem T con (k + 1) "is_number" [.d x, .d (.int lo), .d (.int hi)] Q E := sp_is_number_w h1 rfl h
theorem sp_lis_number (h1 : T "_law_is_number" = some w__law_is_number) {lo hi : Int} {x : PyData} (h : Q (.d (.bool (isNum lo hi x))) [none, none, none]) : sem T con (k + 1) "_law_is_number" [.d x, .d (.int lo), .d (.int hi)] Q E := sp_is_number_w h1 rfl h
/-- a tuple of n things, the first of them this text -/
def isW (w : Str) (n : Nat) : PyData → Bool
  | .tuple (.str z :: xs) => decide (xs.length + 1 = n) && decide (z = w)
  | _ => false
theorem sp_is_of_w {d : Df} {f : Str} (h1 : T f = some d) (e : d = w_is_word_of) {w : Str} {n : Nat} (hn : 0 < n) {x : PyData} (h : Q (.d (.bool (isW w n x))) [none, none, none]) : sem T con (k + 1) f [.d x, .d (.str w), .d (.int n)] Q E := by
  subst e
  refine sem_go h1 rfl ?_
  unfold w_is_word_of
  cases x with
  | tuple xs =>
    cases xs with
    | nil =>
      walk_at "lb"
      refine br_split (fun q => ?_) (fun q => ?_)
      · omega
      · walk_at "lb"
        exact h
    | cons y ys =>
      cases y with
      | str z =>
        have h : Q (.d (.bool (decide (ys.length + 1 = n) && decide (z = w)))) [none, none, none] := h
        walk_at "lb"
        refine br_split (fun q => ?_) (fun q => ?_)
        · have q : ys.length + 1 = n := by omega
          walk_at "lb"
          simpa [q] using h
        · have q : ¬ ys.length + 1 = n := by omega
          walk_at "lb"
          simpa [q] using h
      | _ =>
        walk_at "lb"
        refine br_split (fun q => ?_) (fun q => ?_)
        · walk_at "lb"
          exact h
        · walk_at "lb"
          exact h
  | _ =>
    walk_at "lb"
    exact h
theorem sp_is_of (h1 : T "is_word_of" = some w_is_word_of) {w : Str} {n : Nat} {x : PyData} (hn : 0 < n) (h : Q (.d (.bool (isW w n x))) [none, none, none]) : sem T con (k + 1) "is_word_of" [.d x, .d (.str w), .d (.int n)] Q E := sp_is_of_w h1 rfl hn h
theorem sp_lis_of (h1 : T "_law_is_of" = some w__law_is_of) {w : Str} {n : Nat} {x : PyData} (hn : 0 < n) (h : Q (.d (.bool (isW w n x))) [none, none, none]) : sem T con (k + 1) "_law_is_of" [.d x, .d (.str w), .d (.int n)] Q E := sp_is_of_w h1 rfl hn h
theorem isW_get {w : Str} {n : Nat} {x : PyData} (h : isW w n x = true) : ∃ xs : List PyData, x = .tuple (.str w :: xs) ∧ xs.length + 1 = n := by
  unfold isW at h
  split at h
  · rename_i z xs
    rw [Bool.and_eq_true, decide_eq_true_eq, decide_eq_true_eq] at h
    exact ⟨xs, by rw [h.2], h.1⟩
  · cases h
def isDeed (x : PyData) : Bool :=
  if isW "work" 2 x then (match x with
    | .tuple [_, y] => isName y
    | _ => false)
  else if isW "touch" 2 x then (match x with
    | .tuple [_, y] => isNum 0 999 y
    | _ => false)
  else if isW "way" 3 x then (match x with
    | .tuple [_, y, z] => isName y && isNum 0 1 z
    | _ => false)
  else false
theorem two_of {xs : List PyData} (h : xs.length + 1 = 2) : ∃ y, xs = [y] := by
  match xs, h with
  | [y], _ => exact ⟨y, rfl⟩
theorem three_of {xs : List PyData} (h : xs.length + 1 = 3) : ∃ y z, xs = [y, z] := by
  match xs, h with
  | [y, z], _ => exact ⟨y, z, rfl⟩
theorem sp_is_deed' (h1 : T "is_deed" = some w_is_deed) (h2 : T "is_word_of" = some w_is_word_of) (h3 : T "is_name" = some w_is_name) (h4 : T "is_number" = some w_is_number) (hc : NmC con) {x : PyData} (h : Q (.d (.bool (isDeed x))) [none]) : sem T con (k + 2) "is_deed" [.d x] Q E := by
  refine sem_go h1 rfl ?_
  unfold w_is_deed
  unfold isDeed at h
  walk_at "lb"
  refine sp_is_of h2 (n := 2) (by decide) ?_
  walk_at "lb"
  refine br_split (fun q => ?_) (fun q => ?_)
  · obtain ⟨xs, rfl, e⟩ := isW_get q
    obtain ⟨y, rfl⟩ := two_of e
    rw [if_pos q] at h
    push_cast only [b_is_deed_0]
    refine sp_is_name' h3 hc ?_
    walk_at "lb"
    exact h
  · rw [if_neg q] at h
    push_cast only [b_is_deed_3]
    refine sp_is_of h2 (n := 2) (by decide) ?_
    walk_at "lb"
    refine br_split (fun q => ?_) (fun q => ?_)
    · obtain ⟨xs, rfl, e⟩ := isW_get q
      obtain ⟨y, rfl⟩ := two_of e
      rw [if_pos q] at h
      push_cast only [b_is_deed_1]
      refine sp_is_number h4 ?_
      walk_at "lb"
      exact h
    · rw [if_neg q] at h
      push_cast only [b_is_deed_2]
      refine sp_is_of h2 (n := 3) (by decide) ?_
      walk_at "lb"
      refine br_split (fun q => ?_) (fun q => ?_)
      · obtain ⟨xs, rfl, e⟩ := isW_get q
        obtain ⟨y, z, rfl⟩ := three_of e
        rw [if_pos q] at h
        walk_at "lb"
        refine sp_is_name' h3 hc ?_
        have h : Q (.d (.bool (isName y && isNum 0 1 z))) [none] := h
        walk_at "lb"
        refine br_split (fun q => ?_) (fun q => ?_)
        · rw [q] at h
          walk_at "lb"
          refine sp_is_number h4 ?_
          walk_at "lb"
          exact h
        · rw [eq_false_of_ne_true q] at h
          walk_at "lb"
          exact h
      · rw [if_neg q] at h
        walk_at "lb"
        exact h
theorem sp_is_deed (h1 : T "is_deed" = some w_is_deed) (h2 : T "is_word_of" = some w_is_word_of) (h3 : T "is_name" = some w_is_name) (h4 : T "is_number" = some w_is_number) (hc : NmC con) {x : PyData} (_ : okD x) (h : Q (.d (.bool (isDeed x))) [none]) : sem T con (k + 2) "is_deed" [.d x] Q E := sp_is_deed' h1 h2 h3 h4 hc h
theorem sp_lis_deed' (h1 : T "_law_is_deed" = some w__law_is_deed) (h2 : T "_law_is_of" = some w__law_is_of) (h3 : T "_law_is_name" = some w__law_is_name) (h3' : T "_law_kept" = some w__law_kept) (h4 : T "_law_is_number" = some w__law_is_number) {x : PyData} (h : Q (.d (.bool (isDeed x))) [none]) : sem T con (k + 3) "_law_is_deed" [.d x] Q E := by
  refine sem_go h1 rfl ?_
  unfold w__law_is_deed
  unfold isDeed at h
  walk_at "lb"
  refine sp_lis_of h2 (n := 2) (by decide) ?_
  walk_at "lb"
  refine br_split (fun q => ?_) (fun q => ?_)
  · obtain ⟨xs, rfl, e⟩ := isW_get q
    obtain ⟨y, rfl⟩ := two_of e
    rw [if_pos q] at h
    push_cast only [b__law_is_deed_0]
    refine sp_lis_name' h3 h3' ?_
    walk_at "lb"
    exact h
  · rw [if_neg q] at h
    push_cast only [b__law_is_deed_3]
    refine sp_lis_of h2 (n := 2) (by decide) ?_
    walk_at "lb"
    refine br_split (fun q => ?_) (fun q => ?_)
    · obtain ⟨xs, rfl, e⟩ := isW_get q
      obtain ⟨y, rfl⟩ := two_of e
      rw [if_pos q] at h
      push_cast only [b__law_is_deed_1]
      refine sp_lis_number h4 ?_
      walk_at "lb"
      exact h
    · rw [if_neg q] at h
      push_cast only [b__law_is_deed_2]
      refine sp_lis_of h2 (n := 3) (by decide) ?_
      walk_at "lb"
      refine br_split (fun q => ?_) (fun q => ?_)
      · obtain ⟨xs, rfl, e⟩ := isW_get q
        obtain ⟨y, z, rfl⟩ := three_of e
        rw [if_pos q] at h
        walk_at "lb"
        refine sp_lis_name' h3 h3' ?_
        have h : Q (.d (.bool (isName y && isNum 0 1 z))) [none] := h
        walk_at "lb"
        refine br_split (fun q => ?_) (fun q => ?_)
        · rw [q] at h
          walk_at "lb"
          refine sp_lis_number h4 ?_
          walk_at "lb"
          exact h
        · rw [eq_false_of_ne_true q] at h
          walk_at "lb"
          exact h
      · rw [if_neg q] at h
        walk_at "lb"
        exact h
theorem sp_lis_deed (h1 : T "_law_is_deed" = some w__law_is_deed) (h2 : T "_law_is_of" = some w__law_is_of) (h3 : T "_law_is_name" = some w__law_is_name) (h3' : T "_law_kept" = some w__law_kept) (h4 : T "_law_is_number" = some w__law_is_number) {x : PyData} (_ : okD x) (h : Q (.d (.bool (isDeed x))) [none]) : sem T con (k + 3) "_law_is_deed" [.d x] Q E := sp_lis_deed' h1 h2 h3 h3' h4 h
end Cm
set_option maxHeartbeats 4000000
/-! ## Cm3 -/
/-! Cm3: drawn names. -/
namespace Cm
open PySem L2 Lb
local macro_rules | `(tactic| walk_at "lb") => `(tactic| simp (config := {dsimp := false}) only [↓h1_eq, ↓h2_eq, ↓h3_eq, ↓h4_eq, goR_eq, goX_eq, br_t, br_f, g0, gS, s0, sS, ↓varP_eq, varS_d, varS_o, varS_a, varS_f, varS_z, rdS_eq, ↓optP_eq, ↓rdP_d, ↓rdP_n, ↓rdP_s, ↓rdP_a, dat_l, dat_m, slotDat_d, slotDat_o, argDat_c, ↓x_v, ↓x_k, ↓x_g, ↓x_fn, ↓x_bin, ↓x_neg, ↓x_cmp, ↓x_chain, ↓x_isN, ↓x_isB, ↓x_and, ↓x_or, ↓x_not, ↓x_ife, ↓x_tup, ↓x_lst, ↓x_dic0, ↓x_dic1, ↓x_ix, zS_eq, ↓x_zlen, ↓x_zix, ↓x_sl, ↓x_rv, ↓x_call, fS_eq, ↓x_callv, ↓x_bi, ↓x_app, ↓x_pop, ↓x_ext, ↓x_join, ↓x_upper, ↓x_lc, ↓y_e, ↓y_tr, ↓y_not, ↓y_and, ↓y_or, ↓a_nil', ↓a_cons', ↓d_nil', ↓d_cons', ↓o_no', ↓o_so', ↓j_seq, ↓j_str, ↓j_rng1, ↓j_rng2, ↓c_no', ↓c_so', ↓q_nil, ↓q_cons, ↓z_asg, ↓z_par, ↓z_aug, ↓z_put, ↓z_ex, ↓z_ret, ↓z_retN, ↓z_ite, ↓z_for, ↓z_whl, ↓z_pass, ↓z_brk, ↓z_cont, ↓z_rais, ↓dEnds_mk, ↓bindP_d, ↓bindP_n, ↓bindP_f, bindA_eq, ↓bindP_a, bindS_o, bindS_d, ↓bindP_s, ↓tgV_v, ↓tgV_t, ↓tgP_v, ↓tgP_t, ↓tgsP_nil, ↓tgsP_cons, ↓datP_d, ↓datP_n, datS_o, datS_d, ↓datP_s, ↓valP_n, ↓valP_d, ↓valP_s, seqA_eq, ↓seqP_a, ↓seqD_l, ↓seqD_t, ↓seqP_d, ↓seqP_n, ↓seqP_s, ↓isNP_none, ↓isNP_bool, ↓isNP_int, ↓isNP_str, ↓isNP_list, ↓isNP_tuple, ↓isNP_dict, ↓isNP_n, ↓isNP_f, getS_eq, getA_eq, ↓getCP_s, ↓getCP_a, ↓isNP_s, ↓isNP_a, ↓putP_s, ↓putP_a, lisP_eq, ↓appP_eq, lisD_eq, ↓extP_eq, ↓popP_eq, ↓putIxP_eq, ↓putP_n, ↓putP_d, ↓bin_add_i, ↓bin_add_s, ↓bin_add_t, ↓bin_add_l, ↓bin_sub_i, ↓bin_mul_i, ↓bin_mul_l, ↓bin_mul_t, ↓bin_fdiv_i, ↓bin_mod_i, ↓bin_pow_i, ↓aug_add, ↓aug_sub, ↓cmp_lt, ↓cmp_le, ↓cmp_gt, ↓cmp_ge, ↓cmp_lts, ↓cmp_eq, ↓cmp_ne, ↓cmp_in, ↓cmp_notin, ↓in_t, ↓in_l, ↓in_s1, fl_n, fl_b, fl_i, fl_s, fl_t, fl_l, fl_d, List.all_cons, List.all_nil, Bool.and_true, Bool.true_and, Int.reduceToNat, eo_i, eo_s, eo_b, eo_is, eo_si, ev_i, ev_s, ev_b, ev_is, ev_si, ↓ix_l, ↓ix_t, ↓ix_s, atI_0, atI_1, atI_2, atI_3, ixN_0, ixN_1, ixN_2, ixN_3, ↓sl_l, ↓sl_t, ↓sl_s, ↓rv_l, ↓rv_t, ↓rv_s, eo_ln, eo_tn, ev_ll, ev_tt, ea_n, ea_nc, ea_cc, List.isEmpty_nil, List.isEmpty_cons, ↓intP_eq, ↓strP_eq, ↓tru_b, ↓truA_b, ↓truA_i, ↓truA_s, ↓truA_l, ↓truA_t, ↓truA_n, ↓lstP_eq, ↓rds_nil, ↓rds_cons, ↓b_len_s, ↓b_len_t, ↓b_len_l, ↓b_abs, ↓b_min2, ↓b_max2, ↓b_int_i, ↓b_int_b, ↓b_str, ↓b_isi, ↓b_isiLT, ↓b_tup_l, ↓b_tup_t, ↓b_lst_l, ↓b_lst_t, ↓b_sum, ↓backs_nil, ↓backs_s, ↓backs_n, ag_d, ag_n, ag_f, ag_z, ag_s, ag_a, agS_o, agS_d, agA_c, ↓ags_nil, ↓ags_cons, res_d, res_n, res_f, res_a, resA_n, resA_s, resA_a, ↓callP_eq, sh_nil, sh_d, sh_n, sh_f, sh_z, sh_s, sh_a, di_0, di_1, di_2, di_2a, di_2b, di_2c, rv_d, rv_n, rv_f, rv_sl, rv_a, rvS_o, rvS_d, rvA_c, shp_nil, shp_cc, shp_d, shp_f, shp_z, ownS_no, ownS_d, own_nil, own_cons, ↓bindW_eq, ↓wip_nil, ↓wip_cons, ↓rest_nil, ↓rest_cons, startW, slsFrom, slOf, cvOf, isT, List.length_cons, List.length_nil, List.replicate, List.append, List.cons_append, List.nil_append, List.map, List.map_cons, List.map_nil, Option.getD_some, Nat.reduceAdd, Nat.reduceSub, Nat.reduceMul, Nat.reduceEqDiff, Nat.zero_add, Nat.reduceLeDiff, Nat.reduceLT, Nat.reduceBEq, Int.reduceAdd, Int.reduceSub, Int.reduceMul, Int.reduceNeg, Int.reduceLT, Int.reduceLE, Int.reduceEq, Int.reducePow, Int.cast_ofNat_Int, decide_eq_true_eq, decide_true, decide_false, Bool.not_true, Bool.not_false, Bool.not_eq_true', decide_eq_false_iff_not, Bool.false_eq_true, Bool.true_eq_false, eq_self, ne_eq, not_false_eq_true, not_true_eq_false, reduceIte, true_and, and_true, bne_self_eq_false, Bool.false_bne, Bool.true_bne, Bool.cond_true, Bool.cond_false, sizeLine_eq, varS_x, ↓x_isx, ↓isxP_x, ↓x_cnt, ↓x_idx, ↓cntP_l, ↓idxP_l, ↓z_tryx, ↓z_augIx, ↓bindP_x, ↓isNP_x, ag_x, sh_x, shp_x, ↓x_sumL, ↓x_noneIn, ↓noneInP_l, itmD_l, itmD_t, ↓b_repr, ↓sumLP_eq])
local macro_rules | `(tactic| push_cast only [$as,*]) => `(tactic| simp (config := {dsimp := false}) only [↓h1_eq, ↓h2_eq, ↓h3_eq, ↓h4_eq, goR_eq, goX_eq, br_t, br_f, g0, gS, s0, sS, ↓varP_eq, varS_d, varS_o, varS_a, varS_f, varS_z, rdS_eq, ↓optP_eq, ↓rdP_d, ↓rdP_n, ↓rdP_s, ↓rdP_a, dat_l, dat_m, slotDat_d, slotDat_o, argDat_c, ↓x_v, ↓x_k, ↓x_g, ↓x_fn, ↓x_bin, ↓x_neg, ↓x_cmp, ↓x_chain, ↓x_isN, ↓x_isB, ↓x_and, ↓x_or, ↓x_not, ↓x_ife, ↓x_tup, ↓x_lst, ↓x_dic0, ↓x_dic1, ↓x_ix, zS_eq, ↓x_zlen, ↓x_zix, ↓x_sl, ↓x_rv, ↓x_call, fS_eq, ↓x_callv, ↓x_bi, ↓x_app, ↓x_pop, ↓x_ext, ↓x_join, ↓x_upper, ↓x_lc, ↓y_e, ↓y_tr, ↓y_not, ↓y_and, ↓y_or, ↓a_nil', ↓a_cons', ↓d_nil', ↓d_cons', ↓o_no', ↓o_so', ↓j_seq, ↓j_str, ↓j_rng1, ↓j_rng2, ↓c_no', ↓c_so', ↓q_nil, ↓q_cons, ↓z_asg, ↓z_par, ↓z_aug, ↓z_put, ↓z_ex, ↓z_ret, ↓z_retN, ↓z_ite, ↓z_for, ↓z_whl, ↓z_pass, ↓z_brk, ↓z_cont, ↓z_rais, ↓dEnds_mk, ↓bindP_d, ↓bindP_n, ↓bindP_f, bindA_eq, ↓bindP_a, bindS_o, bindS_d, ↓bindP_s, ↓tgV_v, ↓tgV_t, ↓tgP_v, ↓tgP_t, ↓tgsP_nil, ↓tgsP_cons, ↓datP_d, ↓datP_n, datS_o, datS_d, ↓datP_s, ↓valP_n, ↓valP_d, ↓valP_s, seqA_eq, ↓seqP_a, ↓seqD_l, ↓seqD_t, ↓seqP_d, ↓seqP_n, ↓seqP_s, ↓isNP_none, ↓isNP_bool, ↓isNP_int, ↓isNP_str, ↓isNP_list, ↓isNP_tuple, ↓isNP_dict, ↓isNP_n, ↓isNP_f, getS_eq, getA_eq, ↓getCP_s, ↓getCP_a, ↓isNP_s, ↓isNP_a, ↓putP_s, ↓putP_a, lisP_eq, ↓appP_eq, lisD_eq, ↓extP_eq, ↓popP_eq, ↓putIxP_eq, ↓putP_n, ↓putP_d, ↓bin_add_i, ↓bin_add_s, ↓bin_add_t, ↓bin_add_l, ↓bin_sub_i, ↓bin_mul_i, ↓bin_mul_l, ↓bin_mul_t, ↓bin_fdiv_i, ↓bin_mod_i, ↓bin_pow_i, ↓aug_add, ↓aug_sub, ↓cmp_lt, ↓cmp_le, ↓cmp_gt, ↓cmp_ge, ↓cmp_lts, ↓cmp_eq, ↓cmp_ne, ↓cmp_in, ↓cmp_notin, ↓in_t, ↓in_l, ↓in_s1, fl_n, fl_b, fl_i, fl_s, fl_t, fl_l, fl_d, List.all_cons, List.all_nil, Bool.and_true, Bool.true_and, Int.reduceToNat, eo_i, eo_s, eo_b, eo_is, eo_si, ev_i, ev_s, ev_b, ev_is, ev_si, ↓ix_l, ↓ix_t, ↓ix_s, atI_0, atI_1, atI_2, atI_3, ixN_0, ixN_1, ixN_2, ixN_3, ↓sl_l, ↓sl_t, ↓sl_s, ↓rv_l, ↓rv_t, ↓rv_s, eo_ln, eo_tn, ev_ll, ev_tt, ea_n, ea_nc, ea_cc, List.isEmpty_nil, List.isEmpty_cons, ↓intP_eq, ↓strP_eq, ↓tru_b, ↓truA_b, ↓truA_i, ↓truA_s, ↓truA_l, ↓truA_t, ↓truA_n, ↓lstP_eq, ↓rds_nil, ↓rds_cons, ↓b_len_s, ↓b_len_t, ↓b_len_l, ↓b_abs, ↓b_min2, ↓b_max2, ↓b_int_i, ↓b_int_b, ↓b_str, ↓b_isi, ↓b_isiLT, ↓b_tup_l, ↓b_tup_t, ↓b_lst_l, ↓b_lst_t, ↓b_sum, ↓backs_nil, ↓backs_s, ↓backs_n, ag_d, ag_n, ag_f, ag_z, ag_s, ag_a, agS_o, agS_d, agA_c, ↓ags_nil, ↓ags_cons, res_d, res_n, res_f, res_a, resA_n, resA_s, resA_a, ↓callP_eq, sh_nil, sh_d, sh_n, sh_f, sh_z, sh_s, sh_a, di_0, di_1, di_2, di_2a, di_2b, di_2c, rv_d, rv_n, rv_f, rv_sl, rv_a, rvS_o, rvS_d, rvA_c, shp_nil, shp_cc, shp_d, shp_f, shp_z, ownS_no, ownS_d, own_nil, own_cons, ↓bindW_eq, ↓wip_nil, ↓wip_cons, ↓rest_nil, ↓rest_cons, startW, slsFrom, slOf, cvOf, isT, List.length_cons, List.length_nil, List.replicate, List.append, List.cons_append, List.nil_append, List.map, List.map_cons, List.map_nil, Option.getD_some, Nat.reduceAdd, Nat.reduceSub, Nat.reduceMul, Nat.reduceEqDiff, Nat.zero_add, Nat.reduceLeDiff, Nat.reduceLT, Nat.reduceBEq, Int.reduceAdd, Int.reduceSub, Int.reduceMul, Int.reduceNeg, Int.reduceLT, Int.reduceLE, Int.reduceEq, Int.reducePow, Int.cast_ofNat_Int, decide_eq_true_eq, decide_true, decide_false, Bool.not_true, Bool.not_false, Bool.not_eq_true', decide_eq_false_iff_not, Bool.false_eq_true, Bool.true_eq_false, eq_self, ne_eq, not_false_eq_true, not_true_eq_false, reduceIte, true_and, and_true, bne_self_eq_false, Bool.false_bne, Bool.true_bne, Bool.cond_true, Bool.cond_false, sizeLine_eq, varS_x, ↓x_isx, ↓isxP_x, ↓x_cnt, ↓x_idx, ↓cntP_l, ↓idxP_l, ↓z_tryx, ↓z_augIx, ↓bindP_x, ↓isNP_x, ag_x, sh_x, shp_x, ↓x_sumL, ↓x_noneIn, ↓noneInP_l, itmD_l, itmD_t, ↓b_repr, ↓sumLP_eq, $as,*])
variable {T : Str → Option Df} {con : Str → Option PyData} {k : Nat} {Q : QT} {E : ET}
def KDS : List Str := ["work", "touch", "way", "among", "or", "times", "call", "part", "main", "end"]
theorem any_KD (z : Str) : KD.any (eqFlat (.str z)) = decide (z ∈ KDS) := by
  have : ∀ ys : List Str, (ys.map PyData.str).any (eqFlat (.str z)) = decide (z ∈ ys) := fun ys => by
    induction ys with
    | nil => rfl
    | cons y ys ih =>
      rw [List.map_cons, List.any_cons, ih]
      show (PyData.eqv (.str y) (.str z) || _) = _
      rw [ev_s]
      by_cases e : y = z
      · simp [e]
      · have : ¬ z = y := fun h => e h.symm
        simp [e, this]
  exact this KDS
theorem isNm_iff {z : Str} : isNm z = true ↔ z ∉ KDS ∧ 1 ≤ z.length ∧ z.length ≤ 6 ∧ ∀ c ∈ z.cps.toList, 97 ≤ c ∧ c ≤ 122 := by
  unfold isNm
  rw [any_KD]
  simp only [Bool.and_eq_true, Bool.not_eq_true', decide_eq_false_iff_not, decide_eq_true_eq, List.all_eq_true, lowB]
def lo (z : Str) : Prop := ∀ c ∈ z.cps.toList, 97 ≤ c ∧ c ≤ 122
theorem lo_ok {z : Str} (h : lo z) : okS z := fun c hc => by have := h c hc; omega
theorem isNm_lo {z : Str} (h : isNm z = true) : lo z := (isNm_iff.mp h).2.2.2
theorem isNm_ok {z : Str} (h : isNm z = true) : okD (.str z) := okD_str.mpr (lo_ok (isNm_lo h))
theorem isNm_len {z : Str} (h : isNm z = true) : z.length ≤ 6 := (isNm_iff.mp h).2.2.1
theorem lo_cut {z : Str} {lo' hi : Option Int} (h : lo z) : lo (cutS z lo' hi) := fun c hc => h c (cut_mem hc)
theorem lo_app {x y : Str} (h1 : lo x) (h2 : lo y) : lo (x ++ y) := fun c hc => (app_mem hc).elim (h1 c) (h2 c)
theorem lo_lit {z : Str} (h : (z.cps.toList.all fun c => decide (97 ≤ c ∧ c ≤ 122)) = true) : lo z := fun c hc => by
  have := List.all_eq_true.mp h c hc
  simpa using this
theorem lo_rev {z : Str} (h : lo z) : lo ⟨z.cps.toList.reverse.toArray⟩ := fun c hc => h c (by simpa using hc)
theorem kd_mem {x : PyData} (h : x ∈ KD) : ∃ s : Str, x = .str s ∧ lo s ∧ 2 ≤ s.length ∧ s.length ≤ 5 := by
  simp only [KD, List.mem_cons, List.not_mem_nil, or_false] at h
  rcases h with rfl | rfl | rfl | rfl | rfl | rfl | rfl | rfl | rfl | rfl <;> exact ⟨_, rfl, lo_lit (by decide +kernel), by decide +kernel, by decide +kernel⟩
theorem one_lo {c : Nat} (h : 97 ≤ c ∧ c ≤ 122) : lo ⟨#[c]⟩ ∧ (⟨#[c]⟩ : Str).length = 1 := ⟨fun d hd => by
  have : d = c := by simpa using hd
  omega, rfl⟩
theorem let_mem {c : Nat} (h : c ∈ ("abcdefghijklmnopqrstuvwxyz" : Str).cps.toList) : 97 ≤ c ∧ c ≤ 122 := by
  have q := LET_mem.mp h
  unfold lowB at q
  exact of_decide_eq_true q
theorem cut_len_eq {z : Str} {n : Nat} : (cutS z none (some (n : Int))).length = min n z.length := by
  show (((z.cps.toList.drop (HT.sIx z.length 0 none)).take (HT.sIx z.length z.length (some (n : Int)) - HT.sIx z.length 0 none)).toArray).size = min n z.length
  have h1 : HT.sIx z.length z.length (some (n : Int)) = min n z.length := HT.sIx_nat z.length z.length n
  have h2 : HT.sIx z.length 0 none = 0 := HT.sIx_none _ _
  have h3 : z.cps.toList.length = z.length := rfl
  rw [List.size_toArray, List.length_take, h1, h2, List.drop_zero, h3]
  omega
theorem cut_m1_len {z : Str} : (cutS z none (some (-1))).length = z.length - 1 := by
  show (((z.cps.toList.drop (HT.sIx z.length 0 none)).take (HT.sIx z.length z.length (some (-1)) - HT.sIx z.length 0 none)).toArray).size = _
  have h1 : HT.sIx z.length z.length (some (-1)) = z.length - 1 := by
    unfold HT.sIx
    simp only []
    rw [if_pos (by decide)]
    omega
  have h2 : HT.sIx z.length 0 none = 0 := HT.sIx_none _ _
  have h3 : z.cps.toList.length = z.length := rfl
  rw [List.size_toArray, List.length_take, h1, h2, List.drop_zero, h3]
  omega
theorem join_len1 : ∀ {ys : List Str}, (∀ y ∈ ys, y.length = 1) → (Str.join "" ys).length = ys.length
  | [], _ => rfl
  | [x], h => h x List.mem_cons_self
  | x :: y :: r, h => by
    have e : (Str.join "" (x :: y :: r)) = x ++ ("" : Str) ++ Str.join "" (y :: r) := rfl
    have e0 : ("" : Str).length = 0 := by decide +kernel
    rw [e, strLen, strLen, join_len1 fun z hz => h z (List.mem_cons_of_mem _ hz), h x List.mem_cons_self, e0]
    simp only [List.length_cons]
    omega
theorem q_name {z : Str} (h : lo z) : isNm ("q" ++ cutS z none (some 5)) = true := by
  have hl : (cutS z none (some 5)).length ≤ 5 := cut_le (z := z) (n := 5)
  have e1 : ("q" : Str).length = 1 := by decide +kernel
  refine isNm_iff.mpr ⟨fun hm => ?_, by rw [strLen]; omega, by rw [strLen]; omega, lo_app (lo_lit (by decide +kernel)) (lo_cut h)⟩
  have hd : ("q" ++ cutS z none (some 5)).cps.toList.head? = some 113 := by
    show (("q" : Str).cps ++ (cutS z none (some 5)).cps).toList.head? = _
    rw [Array.toList_append]
    have : ("q" : Str).cps.toList = [113] := by decide +kernel
    rw [this]
    rfl
  have all : ∀ y ∈ KDS, y.cps.toList.head? ≠ some 113 := by
    intro y hy
    simp only [KDS, List.mem_cons, List.not_mem_nil, or_false] at hy
    rcases hy with rfl | rfl | rfl | rfl | rfl | rfl | rfl | rfl | rfl | rfl <;> decide +kernel
  exact all _ hm hd
theorem nm_end (h1 : T "_law_kept" = some w__law_kept) {n m : Int} {z c : Str} {a : Int} (hm : 0 ≤ m) (hz : lo z) (h0 : 1 ≤ z.length) (hl : z.length ≤ 6) (h : ∀ (z : Str) (m : Int), 0 ≤ m → isNm z = true → Q (.d (.str z)) [some (.l [.int m])]) {s5 : Sl} :
    evSs ⟨sem T con (k + 3), con⟩ b__law_name_2 ⟨[.a 0, .d (.str "abcdefghijklmnopqrstuvwxyz"), .d (.str z), .d (.str c), .d (.int a), s5], [some (.l [.int m])]⟩ (dEnds [.c (.l [.int n])] Q E) := by
  push_cast only [b__law_name_2]
  refine sp_kept h1 ?_
  walk_at "lb"
  refine br_split (fun q => ?_) (fun q => ?_)
  · walk_at "lb"
    refine h _ _ hm (isNm_iff.mpr ⟨?_, h0, hl, hz⟩)
    rw [any_KD] at q
    exact of_decide_eq_false q
  · walk_at "lb"
    have e1 : ("q" : Str).length = 1 := by decide +kernel
    have hl : (cutS z none (some 5)).length ≤ 5 := cut_le (z := z) (n := 5)
    exact ⟨by omega, h _ _ hm (q_name hz)⟩
theorem dr_name (h1 : T "_law_next" = some w__law_next) (h2 : T "_law_pick" = some w__law_pick) (h3 : T "_law_kept" = some w__law_kept) (h4 : T "_law_name" = some w__law_name) {n : Int} (hn : 0 ≤ n) (h : ∀ (z : Str) (m : Int), 0 ≤ m → isNm z = true → Q (.d (.str z)) [some (.l [.int m])]) : sem T con (k + 4) "_law_name" [.c (.l [.int n])] Q E := by
  refine sem_go h4 rfl ?_
  unfold w__law_name
  walk_at "lb"
  refine dr_next h1 hn (by decide) (by decide) fun a n1 f1 f2 d1 => ?_
  walk_at "lb"
  refine ⟨by omega, ?_⟩
  refine walkC_inv (fun acc w => ∃ (ys : List Str) (m : Int), acc = ys.map PyData.str ∧ (∀ y ∈ ys, lo y ∧ y.length = 1) ∧ 0 ≤ m ∧ w = ⟨[.a 0, .d (.str "abcdefghijklmnopqrstuvwxyz"), .no, .no, .no, .no], [some (.l [.int m])]⟩) (fun _ _ _ => trivial) _ [] _ (fun acc w hi hlen => ?_) (fun x hx acc w hi ky hk => ?_) ?_ ⟨[], n1, rfl, fun _ z => (nomatch z), d1, rfl⟩
  · obtain ⟨ys, m, rfl, hy, hm, rfl⟩ := hi
    rw [List.length_map, rng1_len, List.length_nil] at hlen
    push_cast only [itemsD, strs_map, mtJoin]
    have hs := sum_one fun y hy' => (hy y hy').2
    have e0 : ("" : Str).length = 0 := by decide +kernel
    have hj := join_len1 fun y hy' => (hy y hy').2
    have hlz : 1 ≤ (Txt.join "" ys).length ∧ (Txt.join "" ys).length ≤ 6 := by
      rw [TL.join_eq]
      omega
    have loz : lo (Txt.join "" ys) := fun c hc => by
      rw [TL.join_eq] at hc
      obtain ⟨y, hy', hc⟩ := join_mem hc
      exact (hy y hy').1 c hc
    refine ⟨by rw [hs, e0]; omega, ?_⟩
    generalize Txt.join "" ys = z at hlz loz
    push_cast only [b__law_name_5]
    refine sp_kept h3 ?_
    walk_at "lb"
    refine dr_pick h1 h2 hm (by simp) (by simp) fun x hx m2 hm2 => ?_
    obtain ⟨c, rfl, hc, hcl, hcl2⟩ := kd_mem hx
    push_cast only [b__law_name_4]
    refine dr_next h1 hm2 (by decide) (by decide) fun a2 m3 g1 g2 d2 => ?_
    push_cast only [b__law_name_3]
    refine br_split (fun e => ?_) (fun e => ?_)
    · push_cast only [b__law_name_1]
      have hc1 : (cutS z none (some 1)).length = min 1 z.length := cut_len_eq (n := 1)
      refine ⟨by omega, ?_⟩
      have fin : ∀ y : Str, lo y → 1 ≤ y.length → evSs ⟨sem T con (k + 3), con⟩ b__law_name_2 ⟨[.a 0, .d (.str "abcdefghijklmnopqrstuvwxyz"), .d (.str (cutS y none (some 6))), .d (.str c), .d (.int a2), .no], [some (.l [.int m3])]⟩ (dEnds [.c (.l [.int n])] Q E) :=
        fun y hy h0 => by
          have e6 : (cutS y none (some 6)).length = min 6 y.length := cut_len_eq (n := 6)
          exact nm_end h3 d2 (lo_cut hy) (by omega) (by omega) h
      have e3 : a2 = 0 ∨ a2 = 1 ∨ a2 = 2 := by omega
      rcases e3 with rfl | rfl | rfl
      · walk_at "lb"
        exact fin _ (lo_cut hc) (by rw [cut_m1_len]; omega)
      · walk_at "lb"
        exact fin _ (lo_app hc (lo_cut loz)) (by rw [strLen]; omega)
      · walk_at "lb"
        refine fin _ (lo_rev hc) ?_
        show 1 ≤ c.cps.toList.reverse.toArray.size
        have : c.cps.toList.length = c.length := rfl
        rw [List.size_toArray, List.length_reverse, this]
        omega
    · simp only [q_nil, h1_eq]
      exact nm_end h3 d2 loz hlz.1 hlz.2 h
  · obtain ⟨ys, m, rfl, hy, hm, rfl⟩ := hi
    push_cast only [e__law_name_0]
    refine sp_next h1 (by decide) (by decide) ?_
    obtain ⟨c, hc, e⟩ := at_fm (n := m) (xs := ("abcdefghijklmnopqrstuvwxyz" : Str).cps.toList) (by decide)
    have e26 : ((("abcdefghijklmnopqrstuvwxyz" : Str).cps.toList.length : Nat) : Int) = 26 := by decide
    rw [e26] at e
    push_cast only [e]
    refine hk _ _ ⟨ys ++ [⟨#[c]⟩], _, by simp, fun y hy' => ?_, fd hm (by decide), rfl⟩
    rcases List.mem_append.mp hy' with q | q
    · exact hy y q
    · rw [List.mem_singleton.mp q]
      exact one_lo (let_mem hc)
  · rw [rng1_len, List.length_nil, sizeLine_eq]
    omega
end Cm
set_option maxHeartbeats 4000000
/-! ## Cm4 -/
/-! Cm4: drawn deeds, and what is put otherwise in them. -/
namespace Cm
open PySem L2 Lb
local macro_rules | `(tactic| walk_at "lb") => `(tactic| simp (config := {dsimp := false}) only [↓h1_eq, ↓h2_eq, ↓h3_eq, ↓h4_eq, goR_eq, goX_eq, br_t, br_f, g0, gS, s0, sS, ↓varP_eq, varS_d, varS_o, varS_a, varS_f, varS_z, rdS_eq, ↓optP_eq, ↓rdP_d, ↓rdP_n, ↓rdP_s, ↓rdP_a, dat_l, dat_m, slotDat_d, slotDat_o, argDat_c, ↓x_v, ↓x_k, ↓x_g, ↓x_fn, ↓x_bin, ↓x_neg, ↓x_cmp, ↓x_chain, ↓x_isN, ↓x_isB, ↓x_and, ↓x_or, ↓x_not, ↓x_ife, ↓x_tup, ↓x_lst, ↓x_dic0, ↓x_dic1, ↓x_ix, zS_eq, ↓x_zlen, ↓x_zix, ↓x_sl, ↓x_rv, ↓x_call, fS_eq, ↓x_callv, ↓x_bi, ↓x_app, ↓x_pop, ↓x_ext, ↓x_join, ↓x_upper, ↓x_lc, ↓y_e, ↓y_tr, ↓y_not, ↓y_and, ↓y_or, ↓a_nil', ↓a_cons', ↓d_nil', ↓d_cons', ↓o_no', ↓o_so', ↓j_seq, ↓j_str, ↓j_rng1, ↓j_rng2, ↓c_no', ↓c_so', ↓q_nil, ↓q_cons, ↓z_asg, ↓z_par, ↓z_aug, ↓z_put, ↓z_ex, ↓z_ret, ↓z_retN, ↓z_ite, ↓z_for, ↓z_whl, ↓z_pass, ↓z_brk, ↓z_cont, ↓z_rais, ↓dEnds_mk, ↓bindP_d, ↓bindP_n, ↓bindP_f, bindA_eq, ↓bindP_a, bindS_o, bindS_d, ↓bindP_s, ↓tgV_v, ↓tgV_t, ↓tgP_v, ↓tgP_t, ↓tgsP_nil, ↓tgsP_cons, ↓datP_d, ↓datP_n, datS_o, datS_d, ↓datP_s, ↓valP_n, ↓valP_d, ↓valP_s, seqA_eq, ↓seqP_a, ↓seqD_l, ↓seqD_t, ↓seqP_d, ↓seqP_n, ↓seqP_s, ↓isNP_none, ↓isNP_bool, ↓isNP_int, ↓isNP_str, ↓isNP_list, ↓isNP_tuple, ↓isNP_dict, ↓isNP_n, ↓isNP_f, getS_eq, getA_eq, ↓getCP_s, ↓getCP_a, ↓isNP_s, ↓isNP_a, ↓putP_s, ↓putP_a, lisP_eq, ↓appP_eq, lisD_eq, ↓extP_eq, ↓popP_eq, ↓putIxP_eq, ↓putP_n, ↓putP_d, ↓bin_add_i, ↓bin_add_s, ↓bin_add_t, ↓bin_add_l, ↓bin_sub_i, ↓bin_mul_i, ↓bin_mul_l, ↓bin_mul_t, ↓bin_fdiv_i, ↓bin_mod_i, ↓bin_pow_i, ↓aug_add, ↓aug_sub, ↓cmp_lt, ↓cmp_le, ↓cmp_gt, ↓cmp_ge, ↓cmp_lts, ↓cmp_eq, ↓cmp_ne, ↓cmp_in, ↓cmp_notin, ↓in_t, ↓in_l, ↓in_s1, fl_n, fl_b, fl_i, fl_s, fl_t, fl_l, fl_d, List.all_cons, List.all_nil, Bool.and_true, Bool.true_and, Int.reduceToNat, eo_i, eo_s, eo_b, eo_is, eo_si, ev_i, ev_s, ev_b, ev_is, ev_si, ↓ix_l, ↓ix_t, ↓ix_s, atI_0, atI_1, atI_2, atI_3, ixN_0, ixN_1, ixN_2, ixN_3, ↓sl_l, ↓sl_t, ↓sl_s, ↓rv_l, ↓rv_t, ↓rv_s, eo_ln, eo_tn, ev_ll, ev_tt, ea_n, ea_nc, ea_cc, List.isEmpty_nil, List.isEmpty_cons, ↓intP_eq, ↓strP_eq, ↓tru_b, ↓truA_b, ↓truA_i, ↓truA_s, ↓truA_l, ↓truA_t, ↓truA_n, ↓lstP_eq, ↓rds_nil, ↓rds_cons, ↓b_len_s, ↓b_len_t, ↓b_len_l, ↓b_abs, ↓b_min2, ↓b_max2, ↓b_int_i, ↓b_int_b, ↓b_str, ↓b_isi, ↓b_isiLT, ↓b_tup_l, ↓b_tup_t, ↓b_lst_l, ↓b_lst_t, ↓b_sum, ↓backs_nil, ↓backs_s, ↓backs_n, ag_d, ag_n, ag_f, ag_z, ag_s, ag_a, agS_o, agS_d, agA_c, ↓ags_nil, ↓ags_cons, res_d, res_n, res_f, res_a, resA_n, resA_s, resA_a, ↓callP_eq, sh_nil, sh_d, sh_n, sh_f, sh_z, sh_s, sh_a, di_0, di_1, di_2, di_2a, di_2b, di_2c, rv_d, rv_n, rv_f, rv_sl, rv_a, rvS_o, rvS_d, rvA_c, shp_nil, shp_cc, shp_d, shp_f, shp_z, ownS_no, ownS_d, own_nil, own_cons, ↓bindW_eq, ↓wip_nil, ↓wip_cons, ↓rest_nil, ↓rest_cons, startW, slsFrom, slOf, cvOf, isT, List.length_cons, List.length_nil, List.replicate, List.append, List.cons_append, List.nil_append, List.map, List.map_cons, List.map_nil, Option.getD_some, Nat.reduceAdd, Nat.reduceSub, Nat.reduceMul, Nat.reduceEqDiff, Nat.zero_add, Nat.reduceLeDiff, Nat.reduceLT, Nat.reduceBEq, Int.reduceAdd, Int.reduceSub, Int.reduceMul, Int.reduceNeg, Int.reduceLT, Int.reduceLE, Int.reduceEq, Int.reducePow, Int.cast_ofNat_Int, decide_eq_true_eq, decide_true, decide_false, Bool.not_true, Bool.not_false, Bool.not_eq_true', decide_eq_false_iff_not, Bool.false_eq_true, Bool.true_eq_false, eq_self, ne_eq, not_false_eq_true, not_true_eq_false, reduceIte, true_and, and_true, bne_self_eq_false, Bool.false_bne, Bool.true_bne, Bool.cond_true, Bool.cond_false, sizeLine_eq, varS_x, ↓x_isx, ↓isxP_x, ↓x_cnt, ↓x_idx, ↓cntP_l, ↓idxP_l, ↓z_tryx, ↓z_augIx, ↓bindP_x, ↓isNP_x, ag_x, sh_x, shp_x, ↓x_sumL, ↓x_noneIn, ↓noneInP_l, itmD_l, itmD_t, ↓b_repr, ↓sumLP_eq])
local macro_rules | `(tactic| push_cast only [$as,*]) => `(tactic| simp (config := {dsimp := false}) only [↓h1_eq, ↓h2_eq, ↓h3_eq, ↓h4_eq, goR_eq, goX_eq, br_t, br_f, g0, gS, s0, sS, ↓varP_eq, varS_d, varS_o, varS_a, varS_f, varS_z, rdS_eq, ↓optP_eq, ↓rdP_d, ↓rdP_n, ↓rdP_s, ↓rdP_a, dat_l, dat_m, slotDat_d, slotDat_o, argDat_c, ↓x_v, ↓x_k, ↓x_g, ↓x_fn, ↓x_bin, ↓x_neg, ↓x_cmp, ↓x_chain, ↓x_isN, ↓x_isB, ↓x_and, ↓x_or, ↓x_not, ↓x_ife, ↓x_tup, ↓x_lst, ↓x_dic0, ↓x_dic1, ↓x_ix, zS_eq, ↓x_zlen, ↓x_zix, ↓x_sl, ↓x_rv, ↓x_call, fS_eq, ↓x_callv, ↓x_bi, ↓x_app, ↓x_pop, ↓x_ext, ↓x_join, ↓x_upper, ↓x_lc, ↓y_e, ↓y_tr, ↓y_not, ↓y_and, ↓y_or, ↓a_nil', ↓a_cons', ↓d_nil', ↓d_cons', ↓o_no', ↓o_so', ↓j_seq, ↓j_str, ↓j_rng1, ↓j_rng2, ↓c_no', ↓c_so', ↓q_nil, ↓q_cons, ↓z_asg, ↓z_par, ↓z_aug, ↓z_put, ↓z_ex, ↓z_ret, ↓z_retN, ↓z_ite, ↓z_for, ↓z_whl, ↓z_pass, ↓z_brk, ↓z_cont, ↓z_rais, ↓dEnds_mk, ↓bindP_d, ↓bindP_n, ↓bindP_f, bindA_eq, ↓bindP_a, bindS_o, bindS_d, ↓bindP_s, ↓tgV_v, ↓tgV_t, ↓tgP_v, ↓tgP_t, ↓tgsP_nil, ↓tgsP_cons, ↓datP_d, ↓datP_n, datS_o, datS_d, ↓datP_s, ↓valP_n, ↓valP_d, ↓valP_s, seqA_eq, ↓seqP_a, ↓seqD_l, ↓seqD_t, ↓seqP_d, ↓seqP_n, ↓seqP_s, ↓isNP_none, ↓isNP_bool, ↓isNP_int, ↓isNP_str, ↓isNP_list, ↓isNP_tuple, ↓isNP_dict, ↓isNP_n, ↓isNP_f, getS_eq, getA_eq, ↓getCP_s, ↓getCP_a, ↓isNP_s, ↓isNP_a, ↓putP_s, ↓putP_a, lisP_eq, ↓appP_eq, lisD_eq, ↓extP_eq, ↓popP_eq, ↓putIxP_eq, ↓putP_n, ↓putP_d, ↓bin_add_i, ↓bin_add_s, ↓bin_add_t, ↓bin_add_l, ↓bin_sub_i, ↓bin_mul_i, ↓bin_mul_l, ↓bin_mul_t, ↓bin_fdiv_i, ↓bin_mod_i, ↓bin_pow_i, ↓aug_add, ↓aug_sub, ↓cmp_lt, ↓cmp_le, ↓cmp_gt, ↓cmp_ge, ↓cmp_lts, ↓cmp_eq, ↓cmp_ne, ↓cmp_in, ↓cmp_notin, ↓in_t, ↓in_l, ↓in_s1, fl_n, fl_b, fl_i, fl_s, fl_t, fl_l, fl_d, List.all_cons, List.all_nil, Bool.and_true, Bool.true_and, Int.reduceToNat, eo_i, eo_s, eo_b, eo_is, eo_si, ev_i, ev_s, ev_b, ev_is, ev_si, ↓ix_l, ↓ix_t, ↓ix_s, atI_0, atI_1, atI_2, atI_3, ixN_0, ixN_1, ixN_2, ixN_3, ↓sl_l, ↓sl_t, ↓sl_s, ↓rv_l, ↓rv_t, ↓rv_s, eo_ln, eo_tn, ev_ll, ev_tt, ea_n, ea_nc, ea_cc, List.isEmpty_nil, List.isEmpty_cons, ↓intP_eq, ↓strP_eq, ↓tru_b, ↓truA_b, ↓truA_i, ↓truA_s, ↓truA_l, ↓truA_t, ↓truA_n, ↓lstP_eq, ↓rds_nil, ↓rds_cons, ↓b_len_s, ↓b_len_t, ↓b_len_l, ↓b_abs, ↓b_min2, ↓b_max2, ↓b_int_i, ↓b_int_b, ↓b_str, ↓b_isi, ↓b_isiLT, ↓b_tup_l, ↓b_tup_t, ↓b_lst_l, ↓b_lst_t, ↓b_sum, ↓backs_nil, ↓backs_s, ↓backs_n, ag_d, ag_n, ag_f, ag_z, ag_s, ag_a, agS_o, agS_d, agA_c, ↓ags_nil, ↓ags_cons, res_d, res_n, res_f, res_a, resA_n, resA_s, resA_a, ↓callP_eq, sh_nil, sh_d, sh_n, sh_f, sh_z, sh_s, sh_a, di_0, di_1, di_2, di_2a, di_2b, di_2c, rv_d, rv_n, rv_f, rv_sl, rv_a, rvS_o, rvS_d, rvA_c, shp_nil, shp_cc, shp_d, shp_f, shp_z, ownS_no, ownS_d, own_nil, own_cons, ↓bindW_eq, ↓wip_nil, ↓wip_cons, ↓rest_nil, ↓rest_cons, startW, slsFrom, slOf, cvOf, isT, List.length_cons, List.length_nil, List.replicate, List.append, List.cons_append, List.nil_append, List.map, List.map_cons, List.map_nil, Option.getD_some, Nat.reduceAdd, Nat.reduceSub, Nat.reduceMul, Nat.reduceEqDiff, Nat.zero_add, Nat.reduceLeDiff, Nat.reduceLT, Nat.reduceBEq, Int.reduceAdd, Int.reduceSub, Int.reduceMul, Int.reduceNeg, Int.reduceLT, Int.reduceLE, Int.reduceEq, Int.reducePow, Int.cast_ofNat_Int, decide_eq_true_eq, decide_true, decide_false, Bool.not_true, Bool.not_false, Bool.not_eq_true', decide_eq_false_iff_not, Bool.false_eq_true, Bool.true_eq_false, eq_self, ne_eq, not_false_eq_true, not_true_eq_false, reduceIte, true_and, and_true, bne_self_eq_false, Bool.false_bne, Bool.true_bne, Bool.cond_true, Bool.cond_false, sizeLine_eq, varS_x, ↓x_isx, ↓isxP_x, ↓x_cnt, ↓x_idx, ↓cntP_l, ↓idxP_l, ↓z_tryx, ↓z_augIx, ↓bindP_x, ↓isNP_x, ag_x, sh_x, shp_x, ↓x_sumL, ↓x_noneIn, ↓noneInP_l, itmD_l, itmD_t, ↓b_repr, ↓sumLP_eq, $as,*])
variable {T : Str → Option Df} {con : Str → Option PyData} {k : Nat} {Q : QT} {E : ET}
theorem up_ok {z : Str} (h : lo z) : okS (Txt.upper z) := fun c hc => by
  rw [PyProof.Rows.upper_ascii (x := z) (fun c hc => by have := h c hc; omega)] at hc
  have hc : c ∈ (z.cps.map PyProof.Rows.up1).toList := hc
  rw [Array.toList_map] at hc
  obtain ⟨d, hd, rfl⟩ := List.mem_map.mp hc
  have := h d hd
  unfold PyProof.Rows.up1
  split <;> omega
theorem num_ok {i : Int} (h0 : 0 ≤ i) : okS (Str.ofString (toString i)) := fun c hc => by
  obtain ⟨n, rfl⟩ := Int.eq_ofNat_of_zero_le h0
  have e : (Str.ofString (toString ((n : Nat) : Int))).cps.toList = TL.numL n := TL.tl_num n
  rw [e] at hc
  have := TL.numL_digits n c hc
  omega
theorem num_len {i : Int} (h0 : 0 ≤ i) (h : i < 10 ^ 30) : (Str.ofString (toString i)).length ≤ 30 := PyProof.Rows.toString_length_le h0 (by decide) h
theorem num_log {i : Int} (h0 : 0 ≤ i) (h : i < 10 ^ 30) : i.natAbs.log2 < 1920 := by
  have h : i.natAbs < 2 ^ 1920 := by
    have e : (10 : Int) ^ 30 = 1000000000000000000000000000000 := by decide
    rw [e] at h
    have : i.natAbs < 1000000000000000000000000000000 := by omega
    exact Nat.lt_of_lt_of_le this (by decide)
  by_cases z : i.natAbs = 0
  · rw [z]; decide
  · exact (Nat.log2_lt z).mpr h
/-- what stands in a deed -/
def DeIt (x : PyData) : Prop := (∃ z, x = .str z ∧ lo z ∧ z.length ≤ 6) ∨ (∃ i, x = .int i ∧ 0 ≤ i ∧ i ≤ 999)
theorem DeIt.ok {x : PyData} (h : DeIt x) : okD x := by
  rcases h with ⟨z, rfl, h, _⟩ | ⟨i, rfl, _⟩
  · exact okD_str.mpr (lo_ok h)
  · rfl
theorem DeIt.nm {z : Str} (h : isNm z = true) : DeIt (.str z) := .inl ⟨z, rfl, isNm_lo h, isNm_len h⟩
structure DeTup (xs : List PyData) : Prop where
  l2 : 2 ≤ xs.length
  l3 : xs.length ≤ 3
  its : ∀ x ∈ xs, DeIt x
  deed : isDeed (.tuple xs) = true
theorem DeTup.ok {xs : List PyData} (h : DeTup xs) : okD (.tuple xs) := okD_tup.mpr fun x hx => (h.its x hx).ok
theorem dr_deed (h1 : T "_law_next" = some w__law_next) (h2 : T "_law_pick" = some w__law_pick) (h3 : T "_law_deed" = some w__law_deed) {n : Int} {ns : List PyData} (hn : 0 ≤ n) (h0 : ns ≠ []) (hl : ns.length < 1000) (hns : ∀ x ∈ ns, ∃ z, x = .str z ∧ isNm z = true)
    (h : ∀ (xs : List PyData) (m : Int), 0 ≤ m → DeTup xs → Q (.d (.tuple xs)) [some (.l [.int m]), some (.l ns)]) : sem T con (k + 4) "_law_deed" [.c (.l [.int n]), .c (.l ns)] Q E := by
  refine sem_go h3 rfl ?_
  unfold w__law_deed
  walk_at "lb"
  refine dr_next h1 hn (by decide) (by decide) fun a n1 f1 f2 d1 => ?_
  push_cast only [b__law_deed_4]
  refine br_split (fun e => ?_) (fun e => ?_)
  · push_cast only [b__law_deed_0]
    refine dr_pick h1 h2 d1 h0 hl fun x hx m hm => ?_
    obtain ⟨z, rfl, hz⟩ := hns x hx
    walk_at "lb"
    refine h _ _ hm ⟨by simp, by simp, fun y hy => ?_, ?_⟩
    · simp only [List.mem_cons, List.not_mem_nil, or_false] at hy
      rcases hy with rfl | rfl
      · exact .inl ⟨_, rfl, lo_lit (by decide +kernel), by decide +kernel⟩
      · exact DeIt.nm hz
    · have : isW "work" 2 (.tuple [.str "work", .str z]) = true := by unfold isW; simp
      unfold isDeed
      rw [if_pos this]
      exact hz
  · push_cast only [b__law_deed_3]
    refine br_split (fun e => ?_) (fun e => ?_)
    · push_cast only [b__law_deed_1]
      refine dr_next h1 d1 (by decide) (by decide) fun a2 n2 g1 g2 d2 => ?_
      walk_at "lb"
      refine dr_pick h1 h2 d2 (by simp) (by simp) fun x hx m hm => ?_
      obtain ⟨i, rfl, i0, i1⟩ : ∃ i : Int, x = .int i ∧ 0 ≤ i ∧ i ≤ 999 := by
        simp only [List.mem_cons, List.not_mem_nil, or_false] at hx
        rcases hx with rfl | rfl | rfl | rfl | rfl <;> exact ⟨_, rfl, by omega, by omega⟩
      walk_at "lb"
      refine h _ _ hm ⟨by simp, by simp, fun y hy => ?_, ?_⟩
      · simp only [List.mem_cons, List.not_mem_nil, or_false] at hy
        rcases hy with rfl | rfl
        · exact .inl ⟨_, rfl, lo_lit (by decide +kernel), by decide +kernel⟩
        · exact .inr ⟨i, rfl, i0, i1⟩
      · have n1 : ¬ (("touch" : Str) = "work") := by decide +kernel
        have e1 : isW "work" 2 (.tuple [.str "touch", .int i]) = false := by unfold isW; simp [n1]
        have e2 : isW "touch" 2 (.tuple [.str "touch", .int i]) = true := by unfold isW; simp
        unfold isDeed
        rw [e1, e2]
        show (decide (0 ≤ i) && decide (i ≤ 999)) = true
        simp [i0, i1]
    · push_cast only [b__law_deed_2]
      refine dr_pick h1 h2 d1 h0 hl fun x hx m hm => ?_
      obtain ⟨z, rfl, hz⟩ := hns x hx
      walk_at "lb"
      refine dr_next h1 hm (by decide) (by decide) fun a2 n2 g1 g2 d2 => ?_
      walk_at "lb"
      refine h _ _ d2 ⟨by simp, by simp, fun y hy => ?_, ?_⟩
      · simp only [List.mem_cons, List.not_mem_nil, or_false] at hy
        rcases hy with rfl | rfl | rfl
        · exact .inl ⟨_, rfl, lo_lit (by decide +kernel), by decide +kernel⟩
        · exact DeIt.nm hz
        · exact .inr ⟨a2, rfl, g1, by omega⟩
      · have e1 : isW "work" 2 (.tuple [.str "way", .str z, .int a2]) = false := by unfold isW; simp
        have e2 : isW "touch" 2 (.tuple [.str "way", .str z, .int a2]) = false := by unfold isW; simp
        have e3 : isW "way" 3 (.tuple [.str "way", .str z, .int a2]) = true := by unfold isW; simp
        unfold isDeed
        rw [e1, e2, e3]
        show (isNm z && (decide (0 ≤ a2) && decide (a2 ≤ 1))) = true
        have : a2 ≤ 1 := by omega
        simp [hz, g1, this]
theorem kd_ok {x : PyData} (h : x ∈ KD) : okD x := by
  obtain ⟨c, rfl, hc, _⟩ := kd_mem h
  exact okD_str.mpr (lo_ok hc)
theorem cutD_mem {xs : List PyData} {lo hi : Option Int} {x : PyData} (h : x ∈ cutD xs lo hi) : x ∈ xs := by
  unfold cutD at h
  exact List.mem_of_mem_drop (List.mem_of_mem_take h)
theorem cutD_len {xs : List PyData} {lo hi : Option Int} : (cutD xs lo hi).length ≤ xs.length := by
  unfold cutD
  rw [List.length_take, List.length_drop]
  omega
/-- what _law_odd makes of a thing in a deed, of a tuple -/
theorem dr_odd_i (h1 : T "_law_next" = some w__law_next) (h2 : T "_law_pick" = some w__law_pick) (h4 : T "_law_odd" = some w__law_odd) {n i : Int} (hn : 0 ≤ n) (i0 : 0 ≤ i) (i1 : i < 10 ^ 29)
    (h : ∀ (x : PyData) (m : Int), 0 ≤ m → okD x → Q (.d x) [some (.l [.int m]), none]) : sem T con (k + 3) "_law_odd" [.c (.l [.int n]), .d (.int i)] Q E := by
  refine sem_go h4 rfl ?_
  unfold w__law_odd
  push_cast only [b__law_odd_0]
  have hl := num_len i0 (by omega)
  refine ⟨pow_ok (by decide) (by decide) (by decide), ⟨num_log i0 (by omega), by omega⟩, ?_⟩
  refine dr_pick h1 h2 hn (by simp) (by simp) fun x hx m hm => ?_
  walk_at "lb"
  refine h _ _ hm ?_
  simp only [List.mem_cons, List.not_mem_nil, or_false] at hx
  have oi : okD (.str (Str.ofString (toString i))) := okD_str.mpr (num_ok i0)
  rcases hx with rfl | rfl | rfl | rfl | rfl | rfl | rfl | rfl | rfl | rfl | rfl
  all_goals first
    | rfl
    | exact oi
theorem dr_odd_s (h1 : T "_law_next" = some w__law_next) (h2 : T "_law_pick" = some w__law_pick) (h3 : T "_law_kept" = some w__law_kept) (h4 : T "_law_odd" = some w__law_odd) {n : Int} {z : Str} (hn : 0 ≤ n) (hz : lo z) (hl : z.length ≤ 1000)
    (h : ∀ (x : PyData) (m : Int), 0 ≤ m → okD x → Q (.d x) [some (.l [.int m]), none]) : sem T con (k + 3) "_law_odd" [.c (.l [.int n]), .d (.str z)] Q E := by
  refine sem_go h4 rfl ?_
  unfold w__law_odd
  push_cast only [b__law_odd_3, b__law_odd_1]
  have oz := lo_ok hz
  have oz' := okD_str.mpr oz
  have e1 : ("a" : Str).length = 1 := by decide +kernel
  refine ⟨by omega, by omega, ?_⟩
  refine sp_kept h3 ?_
  walk_at "lb"
  refine dr_pick h1 h2 hn (by simp) (by simp) fun x hx m hm => ?_
  walk_at "lb"
  refine h _ _ hm ?_
  simp only [List.mem_cons, List.not_mem_nil, or_false] at hx
  rcases hx with rfl | rfl | rfl | rfl | rfl | rfl | rfl | rfl | rfl | rfl | rfl | hx
  all_goals first
    | rfl
    | exact okD_str.mpr (okS_app oz (okS_lit (by decide +kernel)))
    | exact okD_str.mpr (okS_cut oz)
    | exact okD_str.mpr (up_ok hz)
    | exact okD_tup.mpr (by simpa using oz')
    | exact okD_lst.mpr (by simpa using oz')
    | exact kd_ok (by simpa [KD] using hx)
theorem dr_odd_t (h1 : T "_law_next" = some w__law_next) (h2 : T "_law_pick" = some w__law_pick) (h4 : T "_law_odd" = some w__law_odd) {n : Int} {xs : List PyData} (hn : 0 ≤ n) (hx : okD (.tuple xs)) (hl : xs.length ≤ 1000)
    (h : ∀ (x : PyData) (m : Int), 0 ≤ m → okD x → Q (.d x) [some (.l [.int m]), none]) : sem T con (k + 3) "_law_odd" [.c (.l [.int n]), .d (.tuple xs)] Q E := by
  refine sem_go h4 rfl ?_
  unfold w__law_odd
  push_cast only [b__law_odd_3, b__law_odd_2]
  have cl : ∀ {lo hi : Option Int}, (cutD xs lo hi).length ≤ xs.length := cutD_len
  have ox := okD_tup.mp hx
  refine ⟨by omega, by have := @cl (some (-1)) none; omega, by omega, ?_⟩
  refine dr_pick h1 h2 hn (by simp) (by simp) fun x hx' m hm => ?_
  walk_at "lb"
  refine h _ _ hm ?_
  simp only [List.mem_cons, List.not_mem_nil, or_false] at hx'
  rcases hx' with rfl | rfl | rfl | rfl | rfl | rfl | rfl | rfl | rfl | rfl | rfl | rfl | rfl | rfl | rfl | rfl
  all_goals first
    | rfl
    | exact okD_lst.mpr ox
    | exact okD_tup.mpr fun y hy => ox y (cutD_mem hy)
    | exact okD_tup.mpr fun y hy => ox y (by simpa using hy)
    | exact okD_tup.mpr fun y hy => (List.mem_append.mp hy).elim (ox y) fun hy => ox y (cutD_mem hy)
    | exact okD_tup.mpr fun y hy => (List.mem_append.mp hy).elim (ox y) fun hy => (by rw [List.mem_singleton.mp hy]; exact rfl)
    | exact okD_tup.mpr fun y hy => (by rw [List.mem_singleton.mp hy]; exact hx)
    | exact okD_lst.mpr fun y hy => (by rw [List.mem_singleton.mp hy]; exact hx)
    | exact okD_str.mpr (okS_lit (by decide +kernel))
end Cm
set_option maxHeartbeats 4000000
/-! ## Cm5 -/
/-! Cm5: rows: rows_of, measured; how many words, how deep. -/
namespace Cm
open PySem L2 Lb
local macro_rules | `(tactic| walk_at "lb") => `(tactic| simp (config := {dsimp := false}) only [↓h1_eq, ↓h2_eq, ↓h3_eq, ↓h4_eq, goR_eq, goX_eq, br_t, br_f, g0, gS, s0, sS, ↓varP_eq, varS_d, varS_o, varS_a, varS_f, varS_z, rdS_eq, ↓optP_eq, ↓rdP_d, ↓rdP_n, ↓rdP_s, ↓rdP_a, dat_l, dat_m, slotDat_d, slotDat_o, argDat_c, ↓x_v, ↓x_k, ↓x_g, ↓x_fn, ↓x_bin, ↓x_neg, ↓x_cmp, ↓x_chain, ↓x_isN, ↓x_isB, ↓x_and, ↓x_or, ↓x_not, ↓x_ife, ↓x_tup, ↓x_lst, ↓x_dic0, ↓x_dic1, ↓x_ix, zS_eq, ↓x_zlen, ↓x_zix, ↓x_sl, ↓x_rv, ↓x_call, fS_eq, ↓x_callv, ↓x_bi, ↓x_app, ↓x_pop, ↓x_ext, ↓x_join, ↓x_upper, ↓x_lc, ↓y_e, ↓y_tr, ↓y_not, ↓y_and, ↓y_or, ↓a_nil', ↓a_cons', ↓d_nil', ↓d_cons', ↓o_no', ↓o_so', ↓j_seq, ↓j_str, ↓j_rng1, ↓j_rng2, ↓c_no', ↓c_so', ↓q_nil, ↓q_cons, ↓z_asg, ↓z_par, ↓z_aug, ↓z_put, ↓z_ex, ↓z_ret, ↓z_retN, ↓z_ite, ↓z_for, ↓z_whl, ↓z_pass, ↓z_brk, ↓z_cont, ↓z_rais, ↓dEnds_mk, ↓bindP_d, ↓bindP_n, ↓bindP_f, bindA_eq, ↓bindP_a, bindS_o, bindS_d, ↓bindP_s, ↓tgV_v, ↓tgV_t, ↓tgP_v, ↓tgP_t, ↓tgsP_nil, ↓tgsP_cons, ↓datP_d, ↓datP_n, datS_o, datS_d, ↓datP_s, ↓valP_n, ↓valP_d, ↓valP_s, seqA_eq, ↓seqP_a, ↓seqD_l, ↓seqD_t, ↓seqP_d, ↓seqP_n, ↓seqP_s, ↓isNP_none, ↓isNP_bool, ↓isNP_int, ↓isNP_str, ↓isNP_list, ↓isNP_tuple, ↓isNP_dict, ↓isNP_n, ↓isNP_f, getS_eq, getA_eq, ↓getCP_s, ↓getCP_a, ↓isNP_s, ↓isNP_a, ↓putP_s, ↓putP_a, lisP_eq, ↓appP_eq, lisD_eq, ↓extP_eq, ↓popP_eq, ↓putIxP_eq, ↓putP_n, ↓putP_d, ↓bin_add_i, ↓bin_add_s, ↓bin_add_t, ↓bin_add_l, ↓bin_sub_i, ↓bin_mul_i, ↓bin_mul_l, ↓bin_mul_t, ↓bin_fdiv_i, ↓bin_mod_i, ↓bin_pow_i, ↓aug_add, ↓aug_sub, ↓cmp_lt, ↓cmp_le, ↓cmp_gt, ↓cmp_ge, ↓cmp_lts, ↓cmp_eq, ↓cmp_ne, ↓cmp_in, ↓cmp_notin, ↓in_t, ↓in_l, ↓in_s1, fl_n, fl_b, fl_i, fl_s, fl_t, fl_l, fl_d, List.all_cons, List.all_nil, Bool.and_true, Bool.true_and, Int.reduceToNat, eo_i, eo_s, eo_b, eo_is, eo_si, ev_i, ev_s, ev_b, ev_is, ev_si, ↓ix_l, ↓ix_t, ↓ix_s, atI_0, atI_1, atI_2, atI_3, ixN_0, ixN_1, ixN_2, ixN_3, ↓sl_l, ↓sl_t, ↓sl_s, ↓rv_l, ↓rv_t, ↓rv_s, eo_ln, eo_tn, ev_ll, ev_tt, ea_n, ea_nc, ea_cc, List.isEmpty_nil, List.isEmpty_cons, ↓intP_eq, ↓strP_eq, ↓tru_b, ↓truA_b, ↓truA_i, ↓truA_s, ↓truA_l, ↓truA_t, ↓truA_n, ↓lstP_eq, ↓rds_nil, ↓rds_cons, ↓b_len_s, ↓b_len_t, ↓b_len_l, ↓b_abs, ↓b_min2, ↓b_max2, ↓b_int_i, ↓b_int_b, ↓b_str, ↓b_isi, ↓b_isiLT, ↓b_tup_l, ↓b_tup_t, ↓b_lst_l, ↓b_lst_t, ↓b_sum, ↓backs_nil, ↓backs_s, ↓backs_n, ag_d, ag_n, ag_f, ag_z, ag_s, ag_a, agS_o, agS_d, agA_c, ↓ags_nil, ↓ags_cons, res_d, res_n, res_f, res_a, resA_n, resA_s, resA_a, ↓callP_eq, sh_nil, sh_d, sh_n, sh_f, sh_z, sh_s, sh_a, di_0, di_1, di_2, di_2a, di_2b, di_2c, rv_d, rv_n, rv_f, rv_sl, rv_a, rvS_o, rvS_d, rvA_c, shp_nil, shp_cc, shp_d, shp_f, shp_z, ownS_no, ownS_d, own_nil, own_cons, ↓bindW_eq, ↓wip_nil, ↓wip_cons, ↓rest_nil, ↓rest_cons, startW, slsFrom, slOf, cvOf, isT, List.length_cons, List.length_nil, List.replicate, List.append, List.cons_append, List.nil_append, List.map, List.map_cons, List.map_nil, Option.getD_some, Nat.reduceAdd, Nat.reduceSub, Nat.reduceMul, Nat.reduceEqDiff, Nat.zero_add, Nat.reduceLeDiff, Nat.reduceLT, Nat.reduceBEq, Int.reduceAdd, Int.reduceSub, Int.reduceMul, Int.reduceNeg, Int.reduceLT, Int.reduceLE, Int.reduceEq, Int.reducePow, Int.cast_ofNat_Int, decide_eq_true_eq, decide_true, decide_false, Bool.not_true, Bool.not_false, Bool.not_eq_true', decide_eq_false_iff_not, Bool.false_eq_true, Bool.true_eq_false, eq_self, ne_eq, not_false_eq_true, not_true_eq_false, reduceIte, true_and, and_true, bne_self_eq_false, Bool.false_bne, Bool.true_bne, Bool.cond_true, Bool.cond_false, sizeLine_eq, varS_x, ↓x_isx, ↓isxP_x, ↓x_cnt, ↓x_idx, ↓cntP_l, ↓idxP_l, ↓z_tryx, ↓z_augIx, ↓bindP_x, ↓isNP_x, ag_x, sh_x, shp_x, ↓x_sumL, ↓x_noneIn, ↓noneInP_l, itmD_l, itmD_t, ↓b_repr, ↓sumLP_eq])
local macro_rules | `(tactic| push_cast only [$as,*]) => `(tactic| simp (config := {dsimp := false}) only [↓h1_eq, ↓h2_eq, ↓h3_eq, ↓h4_eq, goR_eq, goX_eq, br_t, br_f, g0, gS, s0, sS, ↓varP_eq, varS_d, varS_o, varS_a, varS_f, varS_z, rdS_eq, ↓optP_eq, ↓rdP_d, ↓rdP_n, ↓rdP_s, ↓rdP_a, dat_l, dat_m, slotDat_d, slotDat_o, argDat_c, ↓x_v, ↓x_k, ↓x_g, ↓x_fn, ↓x_bin, ↓x_neg, ↓x_cmp, ↓x_chain, ↓x_isN, ↓x_isB, ↓x_and, ↓x_or, ↓x_not, ↓x_ife, ↓x_tup, ↓x_lst, ↓x_dic0, ↓x_dic1, ↓x_ix, zS_eq, ↓x_zlen, ↓x_zix, ↓x_sl, ↓x_rv, ↓x_call, fS_eq, ↓x_callv, ↓x_bi, ↓x_app, ↓x_pop, ↓x_ext, ↓x_join, ↓x_upper, ↓x_lc, ↓y_e, ↓y_tr, ↓y_not, ↓y_and, ↓y_or, ↓a_nil', ↓a_cons', ↓d_nil', ↓d_cons', ↓o_no', ↓o_so', ↓j_seq, ↓j_str, ↓j_rng1, ↓j_rng2, ↓c_no', ↓c_so', ↓q_nil, ↓q_cons, ↓z_asg, ↓z_par, ↓z_aug, ↓z_put, ↓z_ex, ↓z_ret, ↓z_retN, ↓z_ite, ↓z_for, ↓z_whl, ↓z_pass, ↓z_brk, ↓z_cont, ↓z_rais, ↓dEnds_mk, ↓bindP_d, ↓bindP_n, ↓bindP_f, bindA_eq, ↓bindP_a, bindS_o, bindS_d, ↓bindP_s, ↓tgV_v, ↓tgV_t, ↓tgP_v, ↓tgP_t, ↓tgsP_nil, ↓tgsP_cons, ↓datP_d, ↓datP_n, datS_o, datS_d, ↓datP_s, ↓valP_n, ↓valP_d, ↓valP_s, seqA_eq, ↓seqP_a, ↓seqD_l, ↓seqD_t, ↓seqP_d, ↓seqP_n, ↓seqP_s, ↓isNP_none, ↓isNP_bool, ↓isNP_int, ↓isNP_str, ↓isNP_list, ↓isNP_tuple, ↓isNP_dict, ↓isNP_n, ↓isNP_f, getS_eq, getA_eq, ↓getCP_s, ↓getCP_a, ↓isNP_s, ↓isNP_a, ↓putP_s, ↓putP_a, lisP_eq, ↓appP_eq, lisD_eq, ↓extP_eq, ↓popP_eq, ↓putIxP_eq, ↓putP_n, ↓putP_d, ↓bin_add_i, ↓bin_add_s, ↓bin_add_t, ↓bin_add_l, ↓bin_sub_i, ↓bin_mul_i, ↓bin_mul_l, ↓bin_mul_t, ↓bin_fdiv_i, ↓bin_mod_i, ↓bin_pow_i, ↓aug_add, ↓aug_sub, ↓cmp_lt, ↓cmp_le, ↓cmp_gt, ↓cmp_ge, ↓cmp_lts, ↓cmp_eq, ↓cmp_ne, ↓cmp_in, ↓cmp_notin, ↓in_t, ↓in_l, ↓in_s1, fl_n, fl_b, fl_i, fl_s, fl_t, fl_l, fl_d, List.all_cons, List.all_nil, Bool.and_true, Bool.true_and, Int.reduceToNat, eo_i, eo_s, eo_b, eo_is, eo_si, ev_i, ev_s, ev_b, ev_is, ev_si, ↓ix_l, ↓ix_t, ↓ix_s, atI_0, atI_1, atI_2, atI_3, ixN_0, ixN_1, ixN_2, ixN_3, ↓sl_l, ↓sl_t, ↓sl_s, ↓rv_l, ↓rv_t, ↓rv_s, eo_ln, eo_tn, ev_ll, ev_tt, ea_n, ea_nc, ea_cc, List.isEmpty_nil, List.isEmpty_cons, ↓intP_eq, ↓strP_eq, ↓tru_b, ↓truA_b, ↓truA_i, ↓truA_s, ↓truA_l, ↓truA_t, ↓truA_n, ↓lstP_eq, ↓rds_nil, ↓rds_cons, ↓b_len_s, ↓b_len_t, ↓b_len_l, ↓b_abs, ↓b_min2, ↓b_max2, ↓b_int_i, ↓b_int_b, ↓b_str, ↓b_isi, ↓b_isiLT, ↓b_tup_l, ↓b_tup_t, ↓b_lst_l, ↓b_lst_t, ↓b_sum, ↓backs_nil, ↓backs_s, ↓backs_n, ag_d, ag_n, ag_f, ag_z, ag_s, ag_a, agS_o, agS_d, agA_c, ↓ags_nil, ↓ags_cons, res_d, res_n, res_f, res_a, resA_n, resA_s, resA_a, ↓callP_eq, sh_nil, sh_d, sh_n, sh_f, sh_z, sh_s, sh_a, di_0, di_1, di_2, di_2a, di_2b, di_2c, rv_d, rv_n, rv_f, rv_sl, rv_a, rvS_o, rvS_d, rvA_c, shp_nil, shp_cc, shp_d, shp_f, shp_z, ownS_no, ownS_d, own_nil, own_cons, ↓bindW_eq, ↓wip_nil, ↓wip_cons, ↓rest_nil, ↓rest_cons, startW, slsFrom, slOf, cvOf, isT, List.length_cons, List.length_nil, List.replicate, List.append, List.cons_append, List.nil_append, List.map, List.map_cons, List.map_nil, Option.getD_some, Nat.reduceAdd, Nat.reduceSub, Nat.reduceMul, Nat.reduceEqDiff, Nat.zero_add, Nat.reduceLeDiff, Nat.reduceLT, Nat.reduceBEq, Int.reduceAdd, Int.reduceSub, Int.reduceMul, Int.reduceNeg, Int.reduceLT, Int.reduceLE, Int.reduceEq, Int.reducePow, Int.cast_ofNat_Int, decide_eq_true_eq, decide_true, decide_false, Bool.not_true, Bool.not_false, Bool.not_eq_true', decide_eq_false_iff_not, Bool.false_eq_true, Bool.true_eq_false, eq_self, ne_eq, not_false_eq_true, not_true_eq_false, reduceIte, true_and, and_true, bne_self_eq_false, Bool.false_bne, Bool.true_bne, Bool.cond_true, Bool.cond_false, sizeLine_eq, varS_x, ↓x_isx, ↓isxP_x, ↓x_cnt, ↓x_idx, ↓cntP_l, ↓idxP_l, ↓z_tryx, ↓z_augIx, ↓bindP_x, ↓isNP_x, ag_x, sh_x, shp_x, ↓x_sumL, ↓x_noneIn, ↓noneInP_l, itmD_l, itmD_t, ↓b_repr, ↓sumLP_eq, $as,*])
/-- rows_of: 0 thing -/
def b_rows_of_0 : List SS := [(.ret (.lst .nil))]
def b_rows_of_1 : List SS := [(.ret (.bi .listOf (.cons (.ix (.v 0) (.k (.int 1))) .nil)))]
def b_rows_of_2 : List SS := [(.ret (.ife (.e (.cmp .le (.ix (.v 0) (.k (.int 1))) (.ix (.v 0) (.k (.int 2))))) (.lst (.cons (.ix (.v 0) (.k (.int 3))) .nil)) (.k .none)))]
def b_rows_of_3 : List SS := [(.ret (.k .none))]
def b_rows_of_4 : List SS := (.ite (.and (.e (.call "is_word_of" (.cons (.v 0) (.cons (.k (.str "times")) (.cons (.k (.int 4)) .nil))))) (.and (.e (.call "is_number" (.cons (.ix (.v 0) (.k (.int 1))) (.cons (.k (.int 0)) (.cons (.k (.int 9)) .nil))))) (.e (.call "is_number" (.cons (.ix (.v 0) (.k (.int 2))) (.cons (.k (.int 0)) (.cons (.k (.int 9)) .nil))))))) b_rows_of_2 []) :: b_rows_of_3
def b_rows_of_5 : List SS := (.ite (.and (.e (.call "is_word_of" (.cons (.v 0) (.cons (.k (.str "among")) (.cons (.k (.int 2)) .nil))))) (.and (.e (.bi (.isi .tuple) (.cons (.ix (.v 0) (.k (.int 1))) .nil))) (.e (.chain .le .le (.k (.int 1)) (.bi .len (.cons (.ix (.v 0) (.k (.int 1))) .nil)) (.k (.int 9)))))) b_rows_of_1 []) :: b_rows_of_4
def w_rows_of : Df := ⟨1, 1,
  (.ite (.or (.e (.call "is_deed" (.cons (.v 0) .nil))) (.and (.e (.call "is_word_of" (.cons (.v 0) (.cons (.k (.str "call")) (.cons (.k (.int 2)) .nil))))) (.e (.call "is_name" (.cons (.ix (.v 0) (.k (.int 1))) .nil))))) b_rows_of_0 []) :: b_rows_of_5⟩
/-- measured: 0 thing, 1 left, 2 many, 3 far, 4 row, 5 level, 6 word, 7 inner, 8 one -/
def b_measured_0 : List SS := [(.ret (.k .none))]
def b_measured_1 : List SS := [(.ret (.k .none))]
def e_measured_2 : SE := (.tup (.cons (.v 8) (.cons (.bin .add (.v 5) (.k (.int 1))) .nil)))
def b_measured_3 : List SS := [(.asg (.v 1) (.bin .add (.v 1) (.lc [8] e_measured_2 (.v 8) (.seq (.v 7)) .no)))]
def b_measured_4 : List SS := (.ite (.e (.isN false (.v 7))) b_measured_1 []) :: b_measured_3
def b_measured_5 : List SS := (.asg (.v 7) (.call "rows_of" (.cons (.v 6) .nil))) :: b_measured_4
def b_measured_6 : List SS := [(.aug 2 .add (.bi .len (.cons (.v 4) .nil))), (.asg (.v 3) (.bi .max2 (.cons (.v 3) (.cons (.v 5) .nil)))), (.for (.v 6) (.seq (.v 4)) b_measured_5)]
def b_measured_7 : List SS := (.asg (.t (.cons (.v 4) (.cons (.v 5) .nil))) (.pop (.v 1))) :: (.ite (.or (.not (.e (.bi (.isi .tuple) (.cons (.v 4) .nil)))) (.or (.e (.cmp .gt (.v 5) (.g "MOST_DEEP"))) (.e (.cmp .gt (.bin .add (.v 2) (.bi .len (.cons (.v 4) .nil))) (.g "MOST_WORDS"))))) b_measured_0 []) :: b_measured_6
def b_measured_8 : List SS := [(.ret (.tup (.cons (.v 2) (.cons (.v 3) .nil))))]
def w_measured : Df := ⟨9, 1,
  (.asg (.v 1) (.lst (.cons (.tup (.cons (.v 0) (.cons (.k (.int 1)) .nil))) .nil))) :: (.asg (.t (.cons (.v 2) (.cons (.v 3) .nil))) (.tup (.cons (.k (.int 0)) (.cons (.k (.int 0)) .nil)))) :: (.whl (.e (.cmp .ne (.v 1) (.lst .nil))) b_measured_7) :: b_measured_8⟩
/-- is_row: 0 thing -/
def w_is_row : Df := ⟨1, 1,
  [(.ret (.isN true (.call "measured" (.cons (.v 0) .nil))))]⟩
/-- need_measured: 0 row, 1 found -/
def b_need_measured_0 : List SS := [(.rais "NoProgram")]
def b_need_measured_1 : List SS := [(.ret (.v 1))]
def b_need_measured_2 : List SS := (.ite (.e (.isN false (.v 1))) b_need_measured_0 []) :: b_need_measured_1
def w_need_measured : Df := ⟨2, 1,
  (.asg (.v 1) (.call "measured" (.cons (.v 0) .nil))) :: b_need_measured_2⟩
/-- words_in: 0 row -/
def w_words_in : Df := ⟨1, 1,
  [(.ret (.ix (.call "need_measured" (.cons (.v 0) .nil)) (.k (.int 0))))]⟩
/-- deep: 0 row -/
def w_deep : Df := ⟨1, 1,
  [(.ret (.ix (.call "need_measured" (.cons (.v 0) .nil)) (.k (.int 1))))]⟩
/-- _law_class: 0 _law_e, 1 _law_marks, 2 _law_words -/
def b__law_class_0 : List SS := [(.ret (.k (.str "several")))]
def b__law_class_1 : List SS := [(.ret (.ix (.v 2) (.idx (.v 1) (.k (.bool true)))))]
def w__law_class : Df := ⟨3, 1,
  (.asg (.v 1) (.lst (.cons (.isx (.v 0) "NoProgram") (.cons (.isx (.v 0) "NoMachine") (.cons (.isx (.v 0) "NoKind") (.cons (.isx (.v 0) "NoState") .nil)))))) :: (.asg (.v 1) (.bin .add (.v 1) (.lst (.cons (.isx (.v 0) "NoGuess") (.cons (.isx (.v 0) "NoDeed") (.cons (.isx (.v 0) "NoPaper") (.cons (.isx (.v 0) "NoBook") .nil))))))) :: (.asg (.v 1) (.bin .add (.v 1) (.lst (.cons (.isx (.v 0) "NoInput") (.cons (.isx (.v 0) "NoPlace") (.cons (.isx (.v 0) "TooMany") (.cons (.isx (.v 0) "NoText") .nil))))))) :: (.asg (.v 2) (.lst (.cons (.k (.str "program")) (.cons (.k (.str "machine")) (.cons (.k (.str "kind")) (.cons (.k (.str "state")) (.cons (.k (.str "guess")) (.cons (.k (.str "deed")) (.cons (.k (.str "paper")) (.cons (.k (.str "book")) (.cons (.k (.str "input")) (.cons (.k (.str "place")) (.cons (.k (.str "many")) .nil))))))))))))) :: (.ex (.app (.v 2) (.k (.str "text")))) :: (.ite (.or (.e (.cmp .ne (.cnt (.v 1) (.k (.bool true))) (.k (.int 1)))) (.not (.e (.isx (.v 0) "ValueError")))) b__law_class_0 []) :: b__law_class_1⟩
/-- _law_tried: 0 _law_work, 1 _law_thing, 2 _law_found, 3 _law_caught, 4 _law_e -/
def b__law_tried_0 : List SS := [(.asg (.v 2) (.callv 0 (.cons (.v 1) .nil)))]
def b__law_tried_1 : List SS := [(.asg (.v 3) (.v 4))]
def b__law_tried_2 : List SS := [(.ret (.ife (.e (.isN false (.v 3))) (.lst (.cons (.v 2) .nil)) (.call "_law_class" (.cons (.v 3) .nil))))]
def w__law_tried : Df := ⟨5, 2,
  (.asg (.v 2) (.k .none)) :: (.asg (.v 3) (.k .none)) :: (.tryx b__law_tried_0 "BeatError" 4 b__law_tried_1) :: b__law_tried_2⟩
/-! ### the plain thing -/
def at1 : PyData → PyData
  | .tuple (_ :: y :: _) => y
  | _ => .none
def at2 : PyData → PyData
  | .tuple (_ :: _ :: y :: _) => y
  | _ => .none
def at3 : PyData → PyData
  | .tuple (_ :: _ :: _ :: y :: _) => y
  | _ => .none
def amongOf : PyData → Option (List PyData)
  | .tuple ys => if 1 ≤ ys.length ∧ ys.length ≤ 9 then some ys else none
  | _ => none
def leD : PyData → PyData → Bool
  | .int i, .int j => decide (i ≤ j)
  | _, _ => false
/-- the rows in a word; none of what is no word -/
def rowsOf (x : PyData) : Option (List PyData) :=
  if isDeed x = true then some []
  else if isW "call" 2 x = true ∧ isName (at1 x) = true then some []
  else if isW "among" 2 x = true ∧ (amongOf (at1 x)).isSome = true then amongOf (at1 x)
  else if isW "times" 4 x = true ∧ isNum 0 9 (at1 x) = true ∧ isNum 0 9 (at2 x) = true then (if leD (at1 x) (at2 x) = true then some [at3 x] else none)
  else none
def comb : Option (Nat × Nat) → Option (Nat × Nat) → Option (Nat × Nat)
  | some (n, d), some (n', d') => some (n + n', max d d')
  | _, _ => none
def inn : List PyData → Option (List PyData)
  | [] => some []
  | w :: ws => match rowsOf w, inn ws with
    | some a, some b => some (a ++ b)
    | _, _ => none
def measW (m : PyData → Option (Nat × Nat)) : List PyData → Option (Nat × Nat)
  | [] => some (0, 0)
  | r :: rs => comb (m r) (measW m rs)
/-- words and depth, at most so deep -/
def meas : Nat → PyData → Option (Nat × Nat)
  | 0, _ => none
  | f + 1, .tuple ws => (inn ws).bind fun rs => (measW (meas f) rs).map fun p => (ws.length + p.1, 1 + p.2)
  | _ + 1, _ => none
def bound (o : Option (Nat × Nat)) : Option (Nat × Nat) := o.bind fun p => if p.1 ≤ 300 then some p else none
def measD (x : PyData) : Option (Nat × Nat) := bound (meas 12 x)
def lev (l : Nat) (o : Option (Nat × Nat)) : Option (Nat × Nat) := o.map fun p => (p.1, l - 1 + p.2)
def resL : List (PyData × Nat) → Option (Nat × Nat)
  | [] => some (0, 0)
  | (x, l) :: r => comb (lev l (meas (13 - l) x)) (resL r)
def res (st : List (PyData × Nat)) (many far : Nat) : Option (Nat × Nat) := (resL st).bind fun p => if many + p.1 ≤ 300 then some (many + p.1, max far p.2) else none
theorem comb_assoc (a b c : Option (Nat × Nat)) : comb (comb a b) c = comb a (comb b c) := by
  rcases a with _ | ⟨a1, a2⟩ <;> rcases b with _ | ⟨b1, b2⟩ <;> rcases c with _ | ⟨c1, c2⟩ <;> simp [comb, Nat.add_assoc, Nat.max_assoc]
theorem comb_z (a : Option (Nat × Nat)) : comb a (some (0, 0)) = a := by
  rcases a with _ | ⟨a1, a2⟩ <;> simp [comb]
theorem z_comb (a : Option (Nat × Nat)) : comb (some (0, 0)) a = a := by
  rcases a with _ | ⟨a1, a2⟩ <;> simp [comb]
theorem resL_app : ∀ (a b : List (PyData × Nat)), resL (a ++ b) = comb (resL a) (resL b)
  | [], b => (z_comb _).symm
  | (x, l) :: r, b => by
    rw [List.cons_append, resL, resL_app r b, resL, comb_assoc]
theorem measW_app (m : PyData → Option (Nat × Nat)) : ∀ (a b : List PyData), measW m (a ++ b) = comb (measW m a) (measW m b)
  | [], b => (z_comb _).symm
  | x :: r, b => by
    rw [List.cons_append, measW, measW_app m r b, measW, comb_assoc]
theorem push {l : Nat} : ∀ {rs : List PyData}, (∀ n d, measW (meas (12 - l)) rs = some (n, d) → ∃ m, resL (rs.map fun r => (r, l + 1)) = some (n, m) ∧ max l m = l + d) ∧ (measW (meas (12 - l)) rs = none → resL (rs.map fun r => (r, l + 1)) = none)
  | [] => ⟨fun n d h => by
      cases h
      exact ⟨0, rfl, by omega⟩, fun h => by cases h⟩
  | r :: rs => by
    obtain ⟨ih1, ih2⟩ := push (l := l) (rs := rs)
    have e : 13 - (l + 1) = 12 - l := by omega
    show (∀ n d, comb (meas (12 - l) r) (measW (meas (12 - l)) rs) = some (n, d) → ∃ m, comb (lev (l + 1) (meas (13 - (l + 1)) r)) (resL (rs.map fun r => (r, l + 1))) = some (n, m) ∧ max l m = l + d) ∧
      (comb (meas (12 - l) r) (measW (meas (12 - l)) rs) = none → comb (lev (l + 1) (meas (13 - (l + 1)) r)) (resL (rs.map fun r => (r, l + 1))) = none)
    rw [e]
    rcases meas (12 - l) r with _ | ⟨n1, d1⟩
    · exact ⟨fun n d h => (by cases h), fun _ => rfl⟩
    · rcases q : measW (meas (12 - l)) rs with _ | ⟨n2, d2⟩
      · rw [ih2 q]
        exact ⟨fun n d h => (by cases h), fun _ => rfl⟩
      · obtain ⟨m, h1, h2⟩ := ih1 _ _ q
        rw [h1]
        refine ⟨fun n d h => ?_, fun h => by cases h⟩
        cases h
        exact ⟨_, rfl, by simp only [Nat.add_sub_cancel]; omega⟩
/-- a row is taken from the heap: what is left stands for the same -/
theorem res_step {st : List (PyData × Nat)} {ws rs : List PyData} {l many far : Nat} (h1 : 1 ≤ l) (hl : l ≤ 12) (hi : inn ws = some rs) : res (st ++ rs.map fun r => (r, l + 1)) (many + ws.length) (max far l) = res (st ++ [(.tuple ws, l)]) many far := by
  unfold res
  rw [resL_app, resL_app]
  obtain ⟨p1, p2⟩ := push (l := l) (rs := rs)
  have e : resL [(.tuple ws, l)] = lev l (meas (13 - l) (.tuple ws)) := comb_z _
  have e2 : 13 - l = (12 - l) + 1 := by omega
  rw [e, e2, meas, hi]
  show (comb (resL st) _).bind _ = (comb (resL st) (lev l ((measW (meas (12 - l)) rs).map _))).bind _
  rcases resL st with _ | ⟨n0, m0⟩
  · rfl
  · rcases q : measW (meas (12 - l)) rs with _ | ⟨n, d⟩
    · rw [p2 q]
      rfl
    · obtain ⟨m, h3, h4⟩ := p1 _ _ q
      rw [h3]
      show (if many + ws.length + (n0 + n) ≤ 300 then some (many + ws.length + (n0 + n), max (max far l) (max m0 m)) else none) = if many + (n0 + (ws.length + n)) ≤ 300 then some (many + (n0 + (ws.length + n)), max far (max m0 (l - 1 + (1 + d)))) else none
      have a1 : many + ws.length + (n0 + n) = many + (n0 + (ws.length + n)) := by omega
      have a2 : max (max far l) (max m0 m) = max far (max m0 (l - 1 + (1 + d))) := by omega
      rw [a1, a2]
theorem res_none {st : List (PyData × Nat)} {x : PyData} {l many far : Nat} (h : meas (13 - l) x = none) : res (st ++ [(x, l)]) many far = none := by
  unfold res
  have e : resL [(x, l)] = lev l (meas (13 - l) x) := comb_z _
  rw [resL_app, e, h]
  rcases resL st with _ | ⟨n0, m0⟩ <;> rfl
theorem res_many {st : List (PyData × Nat)} {ws : List PyData} {l many far : Nat} (h : 300 < many + ws.length) : res (st ++ [(.tuple ws, l)]) many far = none := by
  unfold res
  have e : resL [(.tuple ws, l)] = lev l (meas (13 - l) (.tuple ws)) := comb_z _
  rw [resL_app, e]
  rcases resL st with _ | ⟨n0, m0⟩
  · rfl
  · cases q : 13 - l with
    | zero => rfl
    | succ f =>
      rw [meas]
      rcases inn ws with _ | rs
      · rfl
      · show (comb (some (n0, m0)) (lev l ((measW (meas f) rs).map _))).bind _ = none
        rcases measW (meas f) rs with _ | ⟨n, d⟩
        · rfl
        · show (if many + (n0 + (ws.length + n)) ≤ 300 then _ else none) = none
          rw [if_neg (by omega)]
theorem inn_app : ∀ (a b : List PyData), inn (a ++ b) = (inn a).bind fun x => (inn b).map fun y => x ++ y
  | [], b => by cases e : inn b <;> simp [inn, e]
  | w :: ws, b => by
    rw [List.cons_append, inn, inn_app ws b, inn]
    cases rowsOf w <;> cases inn ws <;> cases inn b <;> simp
theorem inn_one (w : PyData) : inn [w] = (rowsOf w).map fun a => a ++ [] := by
  rw [inn]
  cases rowsOf w <;> rfl
theorem rowsOf_len {w : PyData} {rs : List PyData} (h : rowsOf w = some rs) : rs.length ≤ 9 := by
  unfold rowsOf at h
  split at h
  · cases h; exact Nat.zero_le _
  · split at h
    · cases h; exact Nat.zero_le _
    · split at h
      · unfold amongOf at h
        split at h
        · split at h
          · cases h; omega
          · cases h
        · cases h
      · split at h
        · split at h
          · cases h; exact (by decide : 1 ≤ 9)
          · cases h
        · cases h
theorem inn_len : ∀ {ws rs : List PyData}, inn ws = some rs → rs.length ≤ 9 * ws.length
  | [], rs, h => by cases h; exact Nat.zero_le _
  | w :: ws, rs, h => by
    rw [inn] at h
    split at h
    · rename_i a b h1 h2
      cases h
      have := rowsOf_len h1
      have := inn_len h2
      rw [List.length_append, List.length_cons]
      omega
    · cases h
/-! ### loops -/
theorem while_inv {c : W → (Bool → W → Prop) → Prop} {b : W → (W → Prop) → Prop} {k : W → Prop} (I : Nat → W → Prop)
    (h : ∀ n w, I n w → ∀ k' : W → Prop, (∀ m w', m < n → I m w' → k' w') → c w fun r w1 => br (r = true) (h0 (b w1 k')) (h0 (k w1))) : ∀ n w, I n w → ∃ m, whileN c b k m w := by
  have : ∀ N n w, n < N → I n w → whileN c b k N w := fun N => by
    induction N with
    | zero => intro n w hn _; omega
    | succ N ih => intro n w hn hi; exact h n w hi _ fun m w' hm hi' => ih m w' (by omega) hi'
  exact fun n w hi => ⟨n + 1, this (n + 1) n w (by omega) hi⟩
theorem walk_pre {same : W → Prop} {body : PyData → W → (W → Prop) → (W → Prop) → Prop} {k b : W → Prop} {all : List PyData} (I : List PyData → W → Prop) (hs : ∀ p w, I p w → same w) (hk : ∀ w, I all w → k w)
    (hb : ∀ p x q, all = p ++ x :: q → ∀ w, I p w → ∀ k' : W → Prop, (∀ w', I (p ++ [x]) w' → k' w') → body x w k' b) : ∀ (xs p : List PyData) (w : W), all = p ++ xs → I p w → walk same body xs w k b
  | [], p, w, e, hi => by
    rw [List.append_nil] at e
    subst e
    exact ⟨hs _ _ hi, hk w hi⟩
  | x :: xs, p, w, e, hi => ⟨hs p w hi, hb p x xs e w hi _ fun w' hi' => walk_pre I hs hk hb xs (p ++ [x]) w' (by rw [e, List.append_assoc]; rfl) hi'⟩
/-! ### rows_of -/
variable {T : Str → Option Df} {con : Str → Option PyData} {k : Nat} {Q : QT} {E : ET}
structure RowT (T : Str → Option Df) (con : Str → Option PyData) : Prop where
  is_deed : T "is_deed" = some w_is_deed
  is_of : T "is_word_of" = some w_is_word_of
  is_name : T "is_name" = some w_is_name
  is_number : T "is_number" = some w_is_number
  rows_of : T "rows_of" = some w_rows_of
  measured : T "measured" = some w_measured
  is_row : T "is_row" = some w_is_row
  nm : NmC con
  deep : con "MOST_DEEP" = some (.int 12)
  words : con "MOST_WORDS" = some (.int 300)
def rvRows : Option (List PyData) → Rv
  | some ys => .n (.l ys)
  | none => .d .none
theorem amongOf_t (ys : List PyData) : amongOf (.tuple ys) = if 1 ≤ ys.length ∧ ys.length ≤ 9 then some ys else none := rfl
theorem four_of {xs : List PyData} (h : xs.length + 1 = 4) : ∃ y z u, xs = [y, z, u] := by
  match xs, h with
  | [y, z, u], _ => exact ⟨y, z, u, rfl⟩
theorem isW_other {w w' : Str} {n' : Nat} {xs : List PyData} (h : ¬ w = w') : isW w' n' (.tuple (.str w :: xs)) = false := by
  unfold isW
  simp [h]
theorem sp_rows_of (R : RowT T con) {x : PyData} (h : Q (rvRows (rowsOf x)) [none]) : sem T con (k + 3) "rows_of" [.d x] Q E := by
  refine sem_go R.rows_of rfl ?_
  unfold w_rows_of
  -- the last two questions
  have times : (isDeed x = true ∨ (isW "call" 2 x = true ∧ isName (at1 x) = true) → False) → (isW "among" 2 x = true ∧ (amongOf (at1 x)).isSome = true → False) →
      evSs ⟨sem T con (k + 2), con⟩ b_rows_of_4 ⟨[.d x], [none]⟩ (dEnds [.d x] Q E) := fun n1 n2 => by
    unfold rowsOf at h
    rw [if_neg (fun z => n1 (.inl z)), if_neg (fun z => n1 (.inr z)), if_neg n2] at h
    push_cast only [b_rows_of_4]
    refine sp_is_of R.is_of (n := 4) (by decide) ?_
    walk_at "lb"
    refine br_split (fun q => ?_) (fun q => ?_)
    · obtain ⟨xs, rfl, e⟩ := isW_get q
      obtain ⟨y, z, u, rfl⟩ := four_of e
      have h : Q (rvRows (if isW "times" 4 (.tuple [.str "times", y, z, u]) = true ∧ isNum 0 9 y = true ∧ isNum 0 9 z = true then (if leD y z = true then some [u] else none) else none)) [none] := h
      walk_at "lb"
      refine sp_is_number R.is_number ?_
      walk_at "lb"
      refine br_split (fun q1 => ?_) (fun q1 => ?_)
      · walk_at "lb"
        refine sp_is_number R.is_number ?_
        walk_at "lb"
        refine br_split (fun q2 => ?_) (fun q2 => ?_)
        · rw [if_pos ⟨q, q1, q2⟩] at h
          unfold isNum at q1 q2
          cases y with
          | int i =>
            cases z with
            | int j =>
              have h : Q (rvRows (if decide (i ≤ j) = true then some [u] else none)) [none] := h
              push_cast only [b_rows_of_2]
              refine br_split (fun q3 => ?_) (fun q3 => ?_)
              · walk_at "lb"
                rw [if_pos (decide_eq_true q3)] at h
                exact h
              · walk_at "lb"
                rw [if_neg (by simpa using q3)] at h
                exact h
            | _ => cases q2
          | _ => cases q1
        · rw [if_neg (fun z => q2 z.2.2)] at h
          push_cast only [b_rows_of_3]
          exact h
      · rw [if_neg (fun z => q1 z.2.1)] at h
        push_cast only [b_rows_of_3]
        exact h
    · rw [if_neg (fun z => q z.1)] at h
      push_cast only [b_rows_of_3]
      exact h
  have among : (isDeed x = true ∨ (isW "call" 2 x = true ∧ isName (at1 x) = true) → False) → evSs ⟨sem T con (k + 2), con⟩ b_rows_of_5 ⟨[.d x], [none]⟩ (dEnds [.d x] Q E) := fun n1 => by
    push_cast only [b_rows_of_5]
    refine sp_is_of R.is_of (n := 2) (by decide) ?_
    rw [dEnds_mk] at times
    walk_at "lb"
    refine br_split (fun q => ?_) (fun q => ?_)
    · obtain ⟨xs, rfl, e⟩ := isW_get q
      obtain ⟨y, rfl⟩ := two_of e
      walk_at "lb"
      cases y with
      | tuple ys =>
        walk_at "lb"
        refine br_split (fun q1 => ?_) (fun q1 => ?_)
        · walk_at "lb"
          refine br_split (fun q2 => ?_) (fun q2 => ?_)
          · have ea : amongOf (.tuple ys) = some ys := by
              rw [amongOf_t, if_pos ⟨by omega, by omega⟩]
            unfold rowsOf at h
            rw [if_neg (fun z => n1 (.inl z)), if_neg (fun z => n1 (.inr z)), if_pos ⟨q, by show (amongOf (.tuple ys)).isSome = true; rw [ea]; rfl⟩] at h
            have h : Q (rvRows (amongOf (.tuple ys))) [none] := h
            rw [ea] at h
            push_cast only [b_rows_of_1]
            exact h
          · simp only [q_nil, h1_eq]
            refine times n1 fun z => ?_
            have z2 : (amongOf (.tuple ys)).isSome = true := z.2
            rw [amongOf_t, if_neg (by omega)] at z2
            cases z2
        · walk_at "lb"
          refine times n1 fun z => ?_
          have z2 : (amongOf (.tuple ys)).isSome = true := z.2
          rw [amongOf_t, if_neg (by omega)] at z2
          cases z2
      | _ =>
        walk_at "lb"
        exact times n1 fun z => by cases z.2
    · walk_at "lb"
      exact times n1 fun z => q z.1
  rw [dEnds_mk] at among
  walk_at "lb"
  refine sp_is_deed' R.is_deed R.is_of R.is_name R.is_number R.nm ?_
  walk_at "lb"
  refine br_split (fun q => ?_) (fun q => ?_)
  · unfold rowsOf at h
    rw [if_pos q] at h
    push_cast only [b_rows_of_0]
    exact h
  · walk_at "lb"
    refine sp_is_of R.is_of (n := 2) (by decide) ?_
    walk_at "lb"
    refine br_split (fun q1 => ?_) (fun q1 => ?_)
    · obtain ⟨xs, rfl, e⟩ := isW_get q1
      obtain ⟨y, rfl⟩ := two_of e
      walk_at "lb"
      refine sp_is_name' R.is_name R.nm ?_
      walk_at "lb"
      refine br_split (fun q2 => ?_) (fun q2 => ?_)
      · unfold rowsOf at h
        rw [if_neg q, if_pos ⟨q1, q2⟩] at h
        push_cast only [b_rows_of_0]
        exact h
      · simp only [q_nil, h1_eq]
        exact among fun z => z.elim q fun z => q2 z.2
    · walk_at "lb"
      exact among fun z => z.elim q fun z => q1 z.1
end Cm
set_option maxHeartbeats 4000000
/-! ## Cm6 -/
/-! Cm6: measured, is_row, words_in, deep; refusals told by their classes. -/
namespace Cm
open PySem L2 Lb
local macro_rules | `(tactic| walk_at "lb") => `(tactic| simp (config := {dsimp := false}) only [↓h1_eq, ↓h2_eq, ↓h3_eq, ↓h4_eq, goR_eq, goX_eq, br_t, br_f, g0, gS, s0, sS, ↓varP_eq, varS_d, varS_o, varS_a, varS_f, varS_z, rdS_eq, ↓optP_eq, ↓rdP_d, ↓rdP_n, ↓rdP_s, ↓rdP_a, dat_l, dat_m, slotDat_d, slotDat_o, argDat_c, ↓x_v, ↓x_k, ↓x_g, ↓x_fn, ↓x_bin, ↓x_neg, ↓x_cmp, ↓x_chain, ↓x_isN, ↓x_isB, ↓x_and, ↓x_or, ↓x_not, ↓x_ife, ↓x_tup, ↓x_lst, ↓x_dic0, ↓x_dic1, ↓x_ix, zS_eq, ↓x_zlen, ↓x_zix, ↓x_sl, ↓x_rv, ↓x_call, fS_eq, ↓x_callv, ↓x_bi, ↓x_app, ↓x_pop, ↓x_ext, ↓x_join, ↓x_upper, ↓x_lc, ↓y_e, ↓y_tr, ↓y_not, ↓y_and, ↓y_or, ↓a_nil', ↓a_cons', ↓d_nil', ↓d_cons', ↓o_no', ↓o_so', ↓j_seq, ↓j_str, ↓j_rng1, ↓j_rng2, ↓c_no', ↓c_so', ↓q_nil, ↓q_cons, ↓z_asg, ↓z_par, ↓z_aug, ↓z_put, ↓z_ex, ↓z_ret, ↓z_retN, ↓z_ite, ↓z_for, ↓z_whl, ↓z_pass, ↓z_brk, ↓z_cont, ↓z_rais, ↓dEnds_mk, ↓bindP_d, ↓bindP_n, ↓bindP_f, bindA_eq, ↓bindP_a, bindS_o, bindS_d, ↓bindP_s, ↓tgV_v, ↓tgV_t, ↓tgP_v, ↓tgP_t, ↓tgsP_nil, ↓tgsP_cons, ↓datP_d, ↓datP_n, datS_o, datS_d, ↓datP_s, ↓valP_n, ↓valP_d, ↓valP_s, seqA_eq, ↓seqP_a, ↓seqD_l, ↓seqD_t, ↓seqP_d, ↓seqP_n, ↓seqP_s, ↓isNP_none, ↓isNP_bool, ↓isNP_int, ↓isNP_str, ↓isNP_list, ↓isNP_tuple, ↓isNP_dict, ↓isNP_n, ↓isNP_f, getS_eq, getA_eq, ↓getCP_s, ↓getCP_a, ↓isNP_s, ↓isNP_a, ↓putP_s, ↓putP_a, lisP_eq, ↓appP_eq, lisD_eq, ↓extP_eq, ↓popP_eq, ↓putIxP_eq, ↓putP_n, ↓putP_d, ↓bin_add_i, ↓bin_add_s, ↓bin_add_t, ↓bin_add_l, ↓bin_sub_i, ↓bin_mul_i, ↓bin_mul_l, ↓bin_mul_t, ↓bin_fdiv_i, ↓bin_mod_i, ↓bin_pow_i, ↓aug_add, ↓aug_sub, ↓cmp_lt, ↓cmp_le, ↓cmp_gt, ↓cmp_ge, ↓cmp_lts, ↓cmp_eq, ↓cmp_ne, ↓cmp_in, ↓cmp_notin, ↓in_t, ↓in_l, ↓in_s1, fl_n, fl_b, fl_i, fl_s, fl_t, fl_l, fl_d, List.all_cons, List.all_nil, Bool.and_true, Bool.true_and, Int.reduceToNat, eo_i, eo_s, eo_b, eo_is, eo_si, ev_i, ev_s, ev_b, ev_is, ev_si, ↓ix_l, ↓ix_t, ↓ix_s, atI_0, atI_1, atI_2, atI_3, ixN_0, ixN_1, ixN_2, ixN_3, ↓sl_l, ↓sl_t, ↓sl_s, ↓rv_l, ↓rv_t, ↓rv_s, eo_ln, eo_tn, ev_ll, ev_tt, ea_n, ea_nc, ea_cc, List.isEmpty_nil, List.isEmpty_cons, ↓intP_eq, ↓strP_eq, ↓tru_b, ↓truA_b, ↓truA_i, ↓truA_s, ↓truA_l, ↓truA_t, ↓truA_n, ↓lstP_eq, ↓rds_nil, ↓rds_cons, ↓b_len_s, ↓b_len_t, ↓b_len_l, ↓b_abs, ↓b_min2, ↓b_max2, ↓b_int_i, ↓b_int_b, ↓b_str, ↓b_isi, ↓b_isiLT, ↓b_tup_l, ↓b_tup_t, ↓b_lst_l, ↓b_lst_t, ↓b_sum, ↓backs_nil, ↓backs_s, ↓backs_n, ag_d, ag_n, ag_f, ag_z, ag_s, ag_a, agS_o, agS_d, agA_c, ↓ags_nil, ↓ags_cons, res_d, res_n, res_f, res_a, resA_n, resA_s, resA_a, ↓callP_eq, sh_nil, sh_d, sh_n, sh_f, sh_z, sh_s, sh_a, di_0, di_1, di_2, di_2a, di_2b, di_2c, rv_d, rv_n, rv_f, rv_sl, rv_a, rvS_o, rvS_d, rvA_c, shp_nil, shp_cc, shp_d, shp_f, shp_z, ownS_no, ownS_d, own_nil, own_cons, ↓bindW_eq, ↓wip_nil, ↓wip_cons, ↓rest_nil, ↓rest_cons, startW, slsFrom, slOf, cvOf, isT, List.length_cons, List.length_nil, List.replicate, List.append, List.cons_append, List.nil_append, List.map, List.map_cons, List.map_nil, Option.getD_some, Nat.reduceAdd, Nat.reduceSub, Nat.reduceMul, Nat.reduceEqDiff, Nat.zero_add, Nat.reduceLeDiff, Nat.reduceLT, Nat.reduceBEq, Int.reduceAdd, Int.reduceSub, Int.reduceMul, Int.reduceNeg, Int.reduceLT, Int.reduceLE, Int.reduceEq, Int.reducePow, Int.cast_ofNat_Int, decide_eq_true_eq, decide_true, decide_false, Bool.not_true, Bool.not_false, Bool.not_eq_true', decide_eq_false_iff_not, Bool.false_eq_true, Bool.true_eq_false, eq_self, ne_eq, not_false_eq_true, not_true_eq_false, reduceIte, true_and, and_true, bne_self_eq_false, Bool.false_bne, Bool.true_bne, Bool.cond_true, Bool.cond_false, sizeLine_eq, varS_x, ↓x_isx, ↓isxP_x, ↓x_cnt, ↓x_idx, ↓cntP_l, ↓idxP_l, ↓z_tryx, ↓z_augIx, ↓bindP_x, ↓isNP_x, ag_x, sh_x, shp_x, ↓x_sumL, ↓x_noneIn, ↓noneInP_l, itmD_l, itmD_t, ↓b_repr, ↓sumLP_eq])
local macro_rules | `(tactic| push_cast only [$as,*]) => `(tactic| simp (config := {dsimp := false}) only [↓h1_eq, ↓h2_eq, ↓h3_eq, ↓h4_eq, goR_eq, goX_eq, br_t, br_f, g0, gS, s0, sS, ↓varP_eq, varS_d, varS_o, varS_a, varS_f, varS_z, rdS_eq, ↓optP_eq, ↓rdP_d, ↓rdP_n, ↓rdP_s, ↓rdP_a, dat_l, dat_m, slotDat_d, slotDat_o, argDat_c, ↓x_v, ↓x_k, ↓x_g, ↓x_fn, ↓x_bin, ↓x_neg, ↓x_cmp, ↓x_chain, ↓x_isN, ↓x_isB, ↓x_and, ↓x_or, ↓x_not, ↓x_ife, ↓x_tup, ↓x_lst, ↓x_dic0, ↓x_dic1, ↓x_ix, zS_eq, ↓x_zlen, ↓x_zix, ↓x_sl, ↓x_rv, ↓x_call, fS_eq, ↓x_callv, ↓x_bi, ↓x_app, ↓x_pop, ↓x_ext, ↓x_join, ↓x_upper, ↓x_lc, ↓y_e, ↓y_tr, ↓y_not, ↓y_and, ↓y_or, ↓a_nil', ↓a_cons', ↓d_nil', ↓d_cons', ↓o_no', ↓o_so', ↓j_seq, ↓j_str, ↓j_rng1, ↓j_rng2, ↓c_no', ↓c_so', ↓q_nil, ↓q_cons, ↓z_asg, ↓z_par, ↓z_aug, ↓z_put, ↓z_ex, ↓z_ret, ↓z_retN, ↓z_ite, ↓z_for, ↓z_whl, ↓z_pass, ↓z_brk, ↓z_cont, ↓z_rais, ↓dEnds_mk, ↓bindP_d, ↓bindP_n, ↓bindP_f, bindA_eq, ↓bindP_a, bindS_o, bindS_d, ↓bindP_s, ↓tgV_v, ↓tgV_t, ↓tgP_v, ↓tgP_t, ↓tgsP_nil, ↓tgsP_cons, ↓datP_d, ↓datP_n, datS_o, datS_d, ↓datP_s, ↓valP_n, ↓valP_d, ↓valP_s, seqA_eq, ↓seqP_a, ↓seqD_l, ↓seqD_t, ↓seqP_d, ↓seqP_n, ↓seqP_s, ↓isNP_none, ↓isNP_bool, ↓isNP_int, ↓isNP_str, ↓isNP_list, ↓isNP_tuple, ↓isNP_dict, ↓isNP_n, ↓isNP_f, getS_eq, getA_eq, ↓getCP_s, ↓getCP_a, ↓isNP_s, ↓isNP_a, ↓putP_s, ↓putP_a, lisP_eq, ↓appP_eq, lisD_eq, ↓extP_eq, ↓popP_eq, ↓putIxP_eq, ↓putP_n, ↓putP_d, ↓bin_add_i, ↓bin_add_s, ↓bin_add_t, ↓bin_add_l, ↓bin_sub_i, ↓bin_mul_i, ↓bin_mul_l, ↓bin_mul_t, ↓bin_fdiv_i, ↓bin_mod_i, ↓bin_pow_i, ↓aug_add, ↓aug_sub, ↓cmp_lt, ↓cmp_le, ↓cmp_gt, ↓cmp_ge, ↓cmp_lts, ↓cmp_eq, ↓cmp_ne, ↓cmp_in, ↓cmp_notin, ↓in_t, ↓in_l, ↓in_s1, fl_n, fl_b, fl_i, fl_s, fl_t, fl_l, fl_d, List.all_cons, List.all_nil, Bool.and_true, Bool.true_and, Int.reduceToNat, eo_i, eo_s, eo_b, eo_is, eo_si, ev_i, ev_s, ev_b, ev_is, ev_si, ↓ix_l, ↓ix_t, ↓ix_s, atI_0, atI_1, atI_2, atI_3, ixN_0, ixN_1, ixN_2, ixN_3, ↓sl_l, ↓sl_t, ↓sl_s, ↓rv_l, ↓rv_t, ↓rv_s, eo_ln, eo_tn, ev_ll, ev_tt, ea_n, ea_nc, ea_cc, List.isEmpty_nil, List.isEmpty_cons, ↓intP_eq, ↓strP_eq, ↓tru_b, ↓truA_b, ↓truA_i, ↓truA_s, ↓truA_l, ↓truA_t, ↓truA_n, ↓lstP_eq, ↓rds_nil, ↓rds_cons, ↓b_len_s, ↓b_len_t, ↓b_len_l, ↓b_abs, ↓b_min2, ↓b_max2, ↓b_int_i, ↓b_int_b, ↓b_str, ↓b_isi, ↓b_isiLT, ↓b_tup_l, ↓b_tup_t, ↓b_lst_l, ↓b_lst_t, ↓b_sum, ↓backs_nil, ↓backs_s, ↓backs_n, ag_d, ag_n, ag_f, ag_z, ag_s, ag_a, agS_o, agS_d, agA_c, ↓ags_nil, ↓ags_cons, res_d, res_n, res_f, res_a, resA_n, resA_s, resA_a, ↓callP_eq, sh_nil, sh_d, sh_n, sh_f, sh_z, sh_s, sh_a, di_0, di_1, di_2, di_2a, di_2b, di_2c, rv_d, rv_n, rv_f, rv_sl, rv_a, rvS_o, rvS_d, rvA_c, shp_nil, shp_cc, shp_d, shp_f, shp_z, ownS_no, ownS_d, own_nil, own_cons, ↓bindW_eq, ↓wip_nil, ↓wip_cons, ↓rest_nil, ↓rest_cons, startW, slsFrom, slOf, cvOf, isT, List.length_cons, List.length_nil, List.replicate, List.append, List.cons_append, List.nil_append, List.map, List.map_cons, List.map_nil, Option.getD_some, Nat.reduceAdd, Nat.reduceSub, Nat.reduceMul, Nat.reduceEqDiff, Nat.zero_add, Nat.reduceLeDiff, Nat.reduceLT, Nat.reduceBEq, Int.reduceAdd, Int.reduceSub, Int.reduceMul, Int.reduceNeg, Int.reduceLT, Int.reduceLE, Int.reduceEq, Int.reducePow, Int.cast_ofNat_Int, decide_eq_true_eq, decide_true, decide_false, Bool.not_true, Bool.not_false, Bool.not_eq_true', decide_eq_false_iff_not, Bool.false_eq_true, Bool.true_eq_false, eq_self, ne_eq, not_false_eq_true, not_true_eq_false, reduceIte, true_and, and_true, bne_self_eq_false, Bool.false_bne, Bool.true_bne, Bool.cond_true, Bool.cond_false, sizeLine_eq, varS_x, ↓x_isx, ↓isxP_x, ↓x_cnt, ↓x_idx, ↓cntP_l, ↓idxP_l, ↓z_tryx, ↓z_augIx, ↓bindP_x, ↓isNP_x, ag_x, sh_x, shp_x, ↓x_sumL, ↓x_noneIn, ↓noneInP_l, itmD_l, itmD_t, ↓b_repr, ↓sumLP_eq, $as,*])
variable {T : Str → Option Df} {con : Str → Option PyData} {k : Nat} {Q : QT} {E : ET}
def lft (st : List (PyData × Nat)) : List PyData := st.map fun p => .tuple [p.1, .int (p.2 : Nat)]
def msD : Option (Nat × Nat) → PyData
  | some (n, d) => .tuple [.int (n : Nat), .int (d : Nat)]
  | none => .none
theorem lft_app (a : List (PyData × Nat)) (x : PyData) (l : Nat) : lft (a ++ [(x, l)]) = lft a ++ [.tuple [x, .int (l : Nat)]] := by
  unfold lft
  rw [List.map_append]
  rfl
theorem last_app {α : Type} (a : List α) (x : α) : (a ++ [x])[(a ++ [x]).length - 1]? = some x := by
  rw [List.length_append, List.length_singleton, Nat.add_sub_cancel, List.getElem?_append_right (Nat.le_refl _), Nat.sub_self]
  rfl
theorem emp_app {α : Type} (a : List α) (x : α) : (a ++ [x]).isEmpty = false := by cases a <;> rfl
theorem walkC_map {same : W → Prop} {body : PyData → W → (Option PyData → W → Prop) → Prop} (g : PyData → PyData) {w : W} {k : List PyData → W → Prop} (hs : same w) : ∀ (cs acc : List PyData),
    (∀ c ∈ cs, ∀ ky : Option PyData → W → Prop, ky (some (g c)) w → body c w ky) → acc.length + cs.length ≤ sizeLine → k (acc ++ cs.map g) w → walkC same body cs acc w k
  | [], acc, _, _, hk => ⟨hs, by simpa using hk⟩
  | c :: cs, acc, hb, hl, hk => ⟨hs, by
    rw [List.length_cons] at hl
    exact hb c List.mem_cons_self _ ⟨by omega, walkC_map g hs cs (acc ++ [g c]) (fun z hz => hb z (List.mem_cons_of_mem _ hz)) (by rw [List.length_append, List.length_singleton]; omega) (by simpa using hk)⟩⟩
theorem meas_not {x : PyData} (h : isT .tuple x = false) (n : Nat) : meas n x = none := by
  cases n with
  | zero => rfl
  | succ n => cases x <;> first | rfl | cases h
theorem inn_none {p q : List PyData} {w : PyData} (h : rowsOf w = none) : inn (p ++ w :: q) = none := by
  rw [inn_app, inn, h]
  cases inn p <;> rfl
theorem meas_inn {ws : List PyData} (h : inn ws = none) (n : Nat) : meas n (.tuple ws) = none := by
  cases n with
  | zero => rfl
  | succ n => rw [meas, h]; rfl
theorem sp_measured (R : RowT T con) {x : PyData} (h : Q (.d (msD (measD x))) [none]) : sem T con (k + 4) "measured" [.d x] Q E := by
  refine sem_go R.measured rfl ?_
  unfold w_measured
  walk_at "lb"
  refine while_inv (fun n w => ∃ (st : List (PyData × Nat)) (many far : Nat) (s4 s5 s6 s7 : Sl), (∀ p ∈ st, 1 ≤ p.2) ∧ many ≤ 300 ∧ st.length ≤ 1 + 9 * many ∧ res st many far = measD x ∧ n = st.length + 9 * (300 - many) ∧
    w = ⟨[.d x, .o (.l (lft st)), .d (.int (many : Nat)), .d (.int (far : Nat)), s4, s5, s6, s7, .no], [none]⟩) (fun n w hi k' hk' => ?_) _ _ ⟨[(x, 1)], 0, 0, .no, .no, .no, .no, ?_, by omega, by simp, ?_, rfl, rfl⟩
  · obtain ⟨st, many, far, s4, s5, s6, s7, h1, hm, hl, hr, rfl, rfl⟩ := hi
    have none_ : measD x = none → Q (.d .none) [none] := fun e => by rw [e] at h; exact h
    rcases List.eq_nil_or_concat st with rfl | ⟨init, ⟨row, l⟩, rfl⟩
    · have e : lft [] = [] := rfl
      push_cast only [e, b_measured_8]
      have e : res [] many far = some (many, far) := by
        show (if many + 0 ≤ 300 then some (many + 0, max far 0) else none) = _
        rw [if_pos (by omega)]
        simp
      rw [← hr, e] at h
      exact h
    · rw [List.concat_eq_append] at h1 hl hr hk' ⊢
      have hl1 : 1 ≤ l := h1 (row, l) (by simp)
      have e1 := last_app (lft init) (.tuple [row, .int (l : Nat)])
      push_cast only [lft_app, emp_app, b_measured_7, e1, List.dropLast_concat]
      have nope : isT .tuple row = false → Q (.d .none) [none] := fun e => none_ (by rw [← hr]; exact res_none (meas_not e _))
      cases row with
      | tuple ws =>
        push_cast only [R.deep, R.words]
        refine br_split (fun q => ?_) (fun q => ?_)
        · push_cast only [b_measured_0]
          refine none_ ?_
          rw [← hr]
          have e13 : 13 - l = 0 := by omega
          exact res_none (by rw [e13]; rfl)
        · push_cast only [R.words]
          refine br_split (fun q2 => ?_) (fun q2 => ?_)
          · push_cast only [b_measured_0]
            refine none_ ?_
            rw [← hr]
            exact res_many (by omega)
          · push_cast only [b_measured_6]
            have hl2 : init.length + 1 ≤ 1 + 9 * many := by simpa using hl
            refine walk_pre (all := ws) (fun p w => ∃ (rs : List PyData) (s6 s7 : Sl), inn p = some rs ∧ w = ⟨[.d x, .o (.l (lft init ++ rs.map fun r => .tuple [r, .int ((l : Int) + 1)])), .d (.int ((many : Int) + (ws.length : Int))), .d (.int (if (far : Int) < (l : Int) then (l : Int) else (far : Int))), .d (.tuple ws), .d (.int (l : Nat)), s6, s7, .no], [none]⟩)
              (fun _ _ _ => trivial) (fun w hw => ?_) (fun p y q e w hw k2 hk2 => ?_) ws [] _ rfl ⟨[], s6, s7, rfl, by simp⟩
            · obtain ⟨rs, s6, s7, hi, rfl⟩ := hw
              have hlen := inn_len hi
              have hws : many + ws.length ≤ 300 := by omega
              walk_at "lb"
              refine hk' (init.length + rs.length + 9 * (300 - (many + ws.length))) _ (by rw [List.length_append, List.length_singleton]; omega) ⟨init ++ rs.map fun r => (r, l + 1), many + ws.length, max far l, .d (.tuple ws), .d (.int (l : Nat)), s6, s7, ?_, hws, ?_, ?_, ?_, ?_⟩
              · intro p hp
                rcases List.mem_append.mp hp with hp | hp
                · exact h1 p (List.mem_append_left _ hp)
                · obtain ⟨r, _, rfl⟩ := List.mem_map.mp hp
                  exact Nat.succ_le_succ (Nat.zero_le _)
              · rw [List.length_append, List.length_map]
                omega
              · rw [← hr]
                exact res_step hl1 (by omega) hi
              · rw [List.length_append, List.length_map]
              · have e1 : (if (far : Int) < (l : Int) then (l : Int) else (far : Int)) = ((max far l : Nat) : Int) := by split <;> omega
                have e2 : lft (init ++ rs.map fun r => (r, l + 1)) = lft init ++ rs.map fun r => .tuple [r, .int ((l : Int) + 1)] := by
                  unfold lft
                  rw [List.map_append, List.map_map]
                  congr 1
                rw [e1, e2]
                rfl
            · obtain ⟨rs, s6, s7, hi, rfl⟩ := hw
              have hlen := inn_len hi
              have hp : p.length + 1 ≤ ws.length := by rw [e]; simp
              push_cast only [b_measured_5]
              refine sp_rows_of R ?_
              rcases hy : rowsOf y with _ | ys
              · push_cast only [rvRows, b_measured_4, b_measured_1]
                refine none_ ?_
                rw [← hr]
                exact res_none (meas_inn (by rw [e]; exact inn_none hy) _)
              · have hys := rowsOf_len hy
                have hli : (lft init).length = init.length := List.length_map ..
                push_cast only [rvRows, b_measured_4, b_measured_3]
                refine walkC_map (fun c => .tuple [c, .int ((l : Int) + 1)]) trivial ys [] (fun c hc ky hk => ?_) (by rw [sizeLine_eq, List.length_nil]; omega) ?_
                · push_cast only [e_measured_2]
                  exact hk
                · walk_at "lb"
                  refine ⟨by rw [List.length_append, List.length_map, List.length_map, hli]; omega, hk2 _ ⟨rs ++ ys, .d y, .d (.list ys), ?_, by simp⟩⟩
                  rw [inn_app, hi, inn_one, hy]
                  simp
      | _ =>
        push_cast only [b_measured_0]
        exact nope rfl
  · intro p hp
    rw [List.mem_singleton.mp hp]
    exact Nat.le_refl 1
  · unfold res measD bound resL resL
    rw [comb_z]
    show (lev 1 (meas 12 x)).bind _ = (meas 12 x).bind _
    rcases meas 12 x with _ | ⟨n, d⟩
    · rfl
    · show (if 0 + n ≤ 300 then some (0 + n, max 0 (1 - 1 + d)) else none) = if n ≤ 300 then some (n, d) else none
      simp
theorem sp_is_row (R : RowT T con) {x : PyData} (h : Q (.d (.bool (measD x).isSome)) [none]) : sem T con (k + 5) "is_row" [.d x] Q E := by
  refine sem_go R.is_row rfl ?_
  unfold w_is_row
  walk_at "lb"
  refine sp_measured R ?_
  rcases e : measD x with _ | ⟨n, d⟩
  · rw [e] at h
    push_cast only [msD]
    exact h
  · rw [e] at h
    push_cast only [msD]
    exact h
structure RowR (T : Str → Option Df) (con : Str → Option PyData) : Prop extends RowT T con where
  need : T "need_measured" = some w_need_measured
  words_in : T "words_in" = some w_words_in
  deep_ : T "deep" = some w_deep
theorem sp_need (R : RowR T con) {x : PyData} (h : ∀ n d : Nat, measD x = some (n, d) → Q (.d (.tuple [.int (n : Nat), .int (d : Nat)])) [none]) (he : measD x = none → E ⟨"NoProgram", .none⟩ [none]) : sem T con (k + 5) "need_measured" [.d x] Q E := by
  refine sem_go R.need rfl ?_
  unfold w_need_measured
  walk_at "lb"
  refine sp_measured R.toRowT ?_
  rcases q : measD x with _ | ⟨n, d⟩
  · push_cast only [msD, b_need_measured_2, b_need_measured_0]
    exact he q
  · push_cast only [msD, b_need_measured_2, b_need_measured_1]
    exact h n d q
theorem sp_words_in (R : RowR T con) {x : PyData} (h : ∀ n d : Nat, measD x = some (n, d) → Q (.d (.int (n : Nat))) [none]) (he : measD x = none → E ⟨"NoProgram", .none⟩ [none]) : sem T con (k + 6) "words_in" [.d x] Q E := by
  refine sem_go R.words_in rfl ?_
  unfold w_words_in
  walk_at "lb"
  refine sp_need R (fun n d q => ?_) fun q => ?_
  · walk_at "lb"
    exact h n d q
  · walk_at "lb"
    exact he q
theorem sp_deep (R : RowR T con) {x : PyData} (h : ∀ n d : Nat, measD x = some (n, d) → Q (.d (.int (d : Nat))) [none]) (he : measD x = none → E ⟨"NoProgram", .none⟩ [none]) : sem T con (k + 6) "deep" [.d x] Q E := by
  refine sem_go R.deep_ rfl ?_
  unfold w_deep
  walk_at "lb"
  refine sp_need R (fun n d q => ?_) fun q => ?_
  · walk_at "lb"
    exact h n d q
  · walk_at "lb"
    exact he q
end Cm
set_option maxHeartbeats 4000000
/-! ## Cm7 -/
/-! Cm7: refusals told by their classes (_law_class, _law_tried). -/
namespace Cm
open PySem L2 Lb
local macro_rules | `(tactic| walk_at "lb") => `(tactic| simp (config := {dsimp := false}) only [↓h1_eq, ↓h2_eq, ↓h3_eq, ↓h4_eq, goR_eq, goX_eq, br_t, br_f, g0, gS, s0, sS, ↓varP_eq, varS_d, varS_o, varS_a, varS_f, varS_z, rdS_eq, ↓optP_eq, ↓rdP_d, ↓rdP_n, ↓rdP_s, ↓rdP_a, dat_l, dat_m, slotDat_d, slotDat_o, argDat_c, ↓x_v, ↓x_k, ↓x_g, ↓x_fn, ↓x_bin, ↓x_neg, ↓x_cmp, ↓x_chain, ↓x_isN, ↓x_isB, ↓x_and, ↓x_or, ↓x_not, ↓x_ife, ↓x_tup, ↓x_lst, ↓x_dic0, ↓x_dic1, ↓x_ix, zS_eq, ↓x_zlen, ↓x_zix, ↓x_sl, ↓x_rv, ↓x_call, fS_eq, ↓x_callv, ↓x_bi, ↓x_app, ↓x_pop, ↓x_ext, ↓x_join, ↓x_upper, ↓x_lc, ↓y_e, ↓y_tr, ↓y_not, ↓y_and, ↓y_or, ↓a_nil', ↓a_cons', ↓d_nil', ↓d_cons', ↓o_no', ↓o_so', ↓j_seq, ↓j_str, ↓j_rng1, ↓j_rng2, ↓c_no', ↓c_so', ↓q_nil, ↓q_cons, ↓z_asg, ↓z_par, ↓z_aug, ↓z_put, ↓z_ex, ↓z_ret, ↓z_retN, ↓z_ite, ↓z_for, ↓z_whl, ↓z_pass, ↓z_brk, ↓z_cont, ↓z_rais, ↓dEnds_mk, ↓bindP_d, ↓bindP_n, ↓bindP_f, bindA_eq, ↓bindP_a, bindS_o, bindS_d, ↓bindP_s, ↓tgV_v, ↓tgV_t, ↓tgP_v, ↓tgP_t, ↓tgsP_nil, ↓tgsP_cons, ↓datP_d, ↓datP_n, datS_o, datS_d, ↓datP_s, ↓valP_n, ↓valP_d, ↓valP_s, seqA_eq, ↓seqP_a, ↓seqD_l, ↓seqD_t, ↓seqP_d, ↓seqP_n, ↓seqP_s, ↓isNP_none, ↓isNP_bool, ↓isNP_int, ↓isNP_str, ↓isNP_list, ↓isNP_tuple, ↓isNP_dict, ↓isNP_n, ↓isNP_f, getS_eq, getA_eq, ↓getCP_s, ↓getCP_a, ↓isNP_s, ↓isNP_a, ↓putP_s, ↓putP_a, lisP_eq, ↓appP_eq, lisD_eq, ↓extP_eq, ↓popP_eq, ↓putIxP_eq, ↓putP_n, ↓putP_d, ↓bin_add_i, ↓bin_add_s, ↓bin_add_t, ↓bin_add_l, ↓bin_sub_i, ↓bin_mul_i, ↓bin_mul_l, ↓bin_mul_t, ↓bin_fdiv_i, ↓bin_mod_i, ↓bin_pow_i, ↓aug_add, ↓aug_sub, ↓cmp_lt, ↓cmp_le, ↓cmp_gt, ↓cmp_ge, ↓cmp_lts, ↓cmp_eq, ↓cmp_ne, ↓cmp_in, ↓cmp_notin, ↓in_t, ↓in_l, ↓in_s1, fl_n, fl_b, fl_i, fl_s, fl_t, fl_l, fl_d, List.all_cons, List.all_nil, Bool.and_true, Bool.true_and, Int.reduceToNat, eo_i, eo_s, eo_b, eo_is, eo_si, ev_i, ev_s, ev_b, ev_is, ev_si, ↓ix_l, ↓ix_t, ↓ix_s, atI_0, atI_1, atI_2, atI_3, ixN_0, ixN_1, ixN_2, ixN_3, ↓sl_l, ↓sl_t, ↓sl_s, ↓rv_l, ↓rv_t, ↓rv_s, eo_ln, eo_tn, ev_ll, ev_tt, ea_n, ea_nc, ea_cc, List.isEmpty_nil, List.isEmpty_cons, ↓intP_eq, ↓strP_eq, ↓tru_b, ↓truA_b, ↓truA_i, ↓truA_s, ↓truA_l, ↓truA_t, ↓truA_n, ↓lstP_eq, ↓rds_nil, ↓rds_cons, ↓b_len_s, ↓b_len_t, ↓b_len_l, ↓b_abs, ↓b_min2, ↓b_max2, ↓b_int_i, ↓b_int_b, ↓b_str, ↓b_isi, ↓b_isiLT, ↓b_tup_l, ↓b_tup_t, ↓b_lst_l, ↓b_lst_t, ↓b_sum, ↓backs_nil, ↓backs_s, ↓backs_n, ag_d, ag_n, ag_f, ag_z, ag_s, ag_a, agS_o, agS_d, agA_c, ↓ags_nil, ↓ags_cons, res_d, res_n, res_f, res_a, resA_n, resA_s, resA_a, ↓callP_eq, sh_nil, sh_d, sh_n, sh_f, sh_z, sh_s, sh_a, di_0, di_1, di_2, di_2a, di_2b, di_2c, rv_d, rv_n, rv_f, rv_sl, rv_a, rvS_o, rvS_d, rvA_c, shp_nil, shp_cc, shp_d, shp_f, shp_z, ownS_no, ownS_d, own_nil, own_cons, ↓bindW_eq, ↓wip_nil, ↓wip_cons, ↓rest_nil, ↓rest_cons, startW, slsFrom, slOf, cvOf, isT, List.length_cons, List.length_nil, List.replicate, List.append, List.cons_append, List.nil_append, List.map, List.map_cons, List.map_nil, Option.getD_some, Nat.reduceAdd, Nat.reduceSub, Nat.reduceMul, Nat.reduceEqDiff, Nat.zero_add, Nat.reduceLeDiff, Nat.reduceLT, Nat.reduceBEq, Int.reduceAdd, Int.reduceSub, Int.reduceMul, Int.reduceNeg, Int.reduceLT, Int.reduceLE, Int.reduceEq, Int.reducePow, Int.cast_ofNat_Int, decide_eq_true_eq, decide_true, decide_false, Bool.not_true, Bool.not_false, Bool.not_eq_true', decide_eq_false_iff_not, Bool.false_eq_true, Bool.true_eq_false, eq_self, ne_eq, not_false_eq_true, not_true_eq_false, reduceIte, true_and, and_true, bne_self_eq_false, Bool.false_bne, Bool.true_bne, Bool.cond_true, Bool.cond_false, sizeLine_eq, varS_x, ↓x_isx, ↓isxP_x, ↓x_cnt, ↓x_idx, ↓cntP_l, ↓idxP_l, ↓z_tryx, ↓z_augIx, ↓bindP_x, ↓isNP_x, ag_x, sh_x, shp_x, ↓x_sumL, ↓x_noneIn, ↓noneInP_l, itmD_l, itmD_t, ↓b_repr, ↓sumLP_eq])
local macro_rules | `(tactic| push_cast only [$as,*]) => `(tactic| simp (config := {dsimp := false}) only [↓h1_eq, ↓h2_eq, ↓h3_eq, ↓h4_eq, goR_eq, goX_eq, br_t, br_f, g0, gS, s0, sS, ↓varP_eq, varS_d, varS_o, varS_a, varS_f, varS_z, rdS_eq, ↓optP_eq, ↓rdP_d, ↓rdP_n, ↓rdP_s, ↓rdP_a, dat_l, dat_m, slotDat_d, slotDat_o, argDat_c, ↓x_v, ↓x_k, ↓x_g, ↓x_fn, ↓x_bin, ↓x_neg, ↓x_cmp, ↓x_chain, ↓x_isN, ↓x_isB, ↓x_and, ↓x_or, ↓x_not, ↓x_ife, ↓x_tup, ↓x_lst, ↓x_dic0, ↓x_dic1, ↓x_ix, zS_eq, ↓x_zlen, ↓x_zix, ↓x_sl, ↓x_rv, ↓x_call, fS_eq, ↓x_callv, ↓x_bi, ↓x_app, ↓x_pop, ↓x_ext, ↓x_join, ↓x_upper, ↓x_lc, ↓y_e, ↓y_tr, ↓y_not, ↓y_and, ↓y_or, ↓a_nil', ↓a_cons', ↓d_nil', ↓d_cons', ↓o_no', ↓o_so', ↓j_seq, ↓j_str, ↓j_rng1, ↓j_rng2, ↓c_no', ↓c_so', ↓q_nil, ↓q_cons, ↓z_asg, ↓z_par, ↓z_aug, ↓z_put, ↓z_ex, ↓z_ret, ↓z_retN, ↓z_ite, ↓z_for, ↓z_whl, ↓z_pass, ↓z_brk, ↓z_cont, ↓z_rais, ↓dEnds_mk, ↓bindP_d, ↓bindP_n, ↓bindP_f, bindA_eq, ↓bindP_a, bindS_o, bindS_d, ↓bindP_s, ↓tgV_v, ↓tgV_t, ↓tgP_v, ↓tgP_t, ↓tgsP_nil, ↓tgsP_cons, ↓datP_d, ↓datP_n, datS_o, datS_d, ↓datP_s, ↓valP_n, ↓valP_d, ↓valP_s, seqA_eq, ↓seqP_a, ↓seqD_l, ↓seqD_t, ↓seqP_d, ↓seqP_n, ↓seqP_s, ↓isNP_none, ↓isNP_bool, ↓isNP_int, ↓isNP_str, ↓isNP_list, ↓isNP_tuple, ↓isNP_dict, ↓isNP_n, ↓isNP_f, getS_eq, getA_eq, ↓getCP_s, ↓getCP_a, ↓isNP_s, ↓isNP_a, ↓putP_s, ↓putP_a, lisP_eq, ↓appP_eq, lisD_eq, ↓extP_eq, ↓popP_eq, ↓putIxP_eq, ↓putP_n, ↓putP_d, ↓bin_add_i, ↓bin_add_s, ↓bin_add_t, ↓bin_add_l, ↓bin_sub_i, ↓bin_mul_i, ↓bin_mul_l, ↓bin_mul_t, ↓bin_fdiv_i, ↓bin_mod_i, ↓bin_pow_i, ↓aug_add, ↓aug_sub, ↓cmp_lt, ↓cmp_le, ↓cmp_gt, ↓cmp_ge, ↓cmp_lts, ↓cmp_eq, ↓cmp_ne, ↓cmp_in, ↓cmp_notin, ↓in_t, ↓in_l, ↓in_s1, fl_n, fl_b, fl_i, fl_s, fl_t, fl_l, fl_d, List.all_cons, List.all_nil, Bool.and_true, Bool.true_and, Int.reduceToNat, eo_i, eo_s, eo_b, eo_is, eo_si, ev_i, ev_s, ev_b, ev_is, ev_si, ↓ix_l, ↓ix_t, ↓ix_s, atI_0, atI_1, atI_2, atI_3, ixN_0, ixN_1, ixN_2, ixN_3, ↓sl_l, ↓sl_t, ↓sl_s, ↓rv_l, ↓rv_t, ↓rv_s, eo_ln, eo_tn, ev_ll, ev_tt, ea_n, ea_nc, ea_cc, List.isEmpty_nil, List.isEmpty_cons, ↓intP_eq, ↓strP_eq, ↓tru_b, ↓truA_b, ↓truA_i, ↓truA_s, ↓truA_l, ↓truA_t, ↓truA_n, ↓lstP_eq, ↓rds_nil, ↓rds_cons, ↓b_len_s, ↓b_len_t, ↓b_len_l, ↓b_abs, ↓b_min2, ↓b_max2, ↓b_int_i, ↓b_int_b, ↓b_str, ↓b_isi, ↓b_isiLT, ↓b_tup_l, ↓b_tup_t, ↓b_lst_l, ↓b_lst_t, ↓b_sum, ↓backs_nil, ↓backs_s, ↓backs_n, ag_d, ag_n, ag_f, ag_z, ag_s, ag_a, agS_o, agS_d, agA_c, ↓ags_nil, ↓ags_cons, res_d, res_n, res_f, res_a, resA_n, resA_s, resA_a, ↓callP_eq, sh_nil, sh_d, sh_n, sh_f, sh_z, sh_s, sh_a, di_0, di_1, di_2, di_2a, di_2b, di_2c, rv_d, rv_n, rv_f, rv_sl, rv_a, rvS_o, rvS_d, rvA_c, shp_nil, shp_cc, shp_d, shp_f, shp_z, ownS_no, ownS_d, own_nil, own_cons, ↓bindW_eq, ↓wip_nil, ↓wip_cons, ↓rest_nil, ↓rest_cons, startW, slsFrom, slOf, cvOf, isT, List.length_cons, List.length_nil, List.replicate, List.append, List.cons_append, List.nil_append, List.map, List.map_cons, List.map_nil, Option.getD_some, Nat.reduceAdd, Nat.reduceSub, Nat.reduceMul, Nat.reduceEqDiff, Nat.zero_add, Nat.reduceLeDiff, Nat.reduceLT, Nat.reduceBEq, Int.reduceAdd, Int.reduceSub, Int.reduceMul, Int.reduceNeg, Int.reduceLT, Int.reduceLE, Int.reduceEq, Int.reducePow, Int.cast_ofNat_Int, decide_eq_true_eq, decide_true, decide_false, Bool.not_true, Bool.not_false, Bool.not_eq_true', decide_eq_false_iff_not, Bool.false_eq_true, Bool.true_eq_false, eq_self, ne_eq, not_false_eq_true, not_true_eq_false, reduceIte, true_and, and_true, bne_self_eq_false, Bool.false_bne, Bool.true_bne, Bool.cond_true, Bool.cond_false, sizeLine_eq, varS_x, ↓x_isx, ↓isxP_x, ↓x_cnt, ↓x_idx, ↓cntP_l, ↓idxP_l, ↓z_tryx, ↓z_augIx, ↓bindP_x, ↓isNP_x, ag_x, sh_x, shp_x, ↓x_sumL, ↓x_noneIn, ↓noneInP_l, itmD_l, itmD_t, ↓b_repr, ↓sumLP_eq, $as,*])
variable {T : Str → Option Df} {con : Str → Option PyData} {k : Nat} {Q : QT} {E : ET}
/-- the class's word -/
def CW : List (Str × Str) := [("NoProgram", "program"), ("NoMachine", "machine"), ("NoKind", "kind"), ("NoState", "state"), ("NoGuess", "guess"), ("NoDeed", "deed"), ("NoPaper", "paper"), ("NoBook", "book"), ("NoInput", "input"), ("NoPlace", "place"), ("TooMany", "many"), ("NoText", "text")]
def markL (c : Str) : List PyData := [.bool (subX c "NoProgram"), .bool (subX c "NoMachine"), .bool (subX c "NoKind"), .bool (subX c "NoState"), .bool (subX c "NoGuess"), .bool (subX c "NoDeed"), .bool (subX c "NoPaper"), .bool (subX c "NoBook"), .bool (subX c "NoInput"), .bool (subX c "NoPlace"), .bool (subX c "TooMany"), .bool (subX c "NoText")]
def wordL : List PyData := [.str "program", .str "machine", .str "kind", .str "state", .str "guess", .str "deed", .str "paper", .str "book", .str "input", .str "place", .str "many", .str "text"]
theorem cw_facts {c w : Str} (h : (c, w) ∈ CW) : c ∈ XCL ∧ subX c "ValueError" = true ∧ subX c "BeatError" = true ∧ (markL c).countP (eqFlat (.bool true)) = 1 ∧ ∃ j : Nat, (markL c).findIdx? (eqFlat (.bool true)) = some j ∧ atI wordL (j : Int) = some (.str w) := by
  simp only [CW, List.mem_cons, Prod.mk.injEq, List.not_mem_nil, or_false] at h
  rcases h with ⟨rfl, rfl⟩ | ⟨rfl, rfl⟩ | ⟨rfl, rfl⟩ | ⟨rfl, rfl⟩ | ⟨rfl, rfl⟩ | ⟨rfl, rfl⟩ | ⟨rfl, rfl⟩ | ⟨rfl, rfl⟩ | ⟨rfl, rfl⟩ | ⟨rfl, rfl⟩ | ⟨rfl, rfl⟩ | ⟨rfl, rfl⟩
  · exact ⟨by decide +kernel, by decide +kernel, by decide +kernel, by decide +kernel, 0, by decide +kernel, rfl⟩
  · exact ⟨by decide +kernel, by decide +kernel, by decide +kernel, by decide +kernel, 1, by decide +kernel, rfl⟩
  · exact ⟨by decide +kernel, by decide +kernel, by decide +kernel, by decide +kernel, 2, by decide +kernel, rfl⟩
  · exact ⟨by decide +kernel, by decide +kernel, by decide +kernel, by decide +kernel, 3, by decide +kernel, rfl⟩
  · exact ⟨by decide +kernel, by decide +kernel, by decide +kernel, by decide +kernel, 4, by decide +kernel, rfl⟩
  · exact ⟨by decide +kernel, by decide +kernel, by decide +kernel, by decide +kernel, 5, by decide +kernel, rfl⟩
  · exact ⟨by decide +kernel, by decide +kernel, by decide +kernel, by decide +kernel, 6, by decide +kernel, rfl⟩
  · exact ⟨by decide +kernel, by decide +kernel, by decide +kernel, by decide +kernel, 7, by decide +kernel, rfl⟩
  · exact ⟨by decide +kernel, by decide +kernel, by decide +kernel, by decide +kernel, 8, by decide +kernel, rfl⟩
  · exact ⟨by decide +kernel, by decide +kernel, by decide +kernel, by decide +kernel, 9, by decide +kernel, rfl⟩
  · exact ⟨by decide +kernel, by decide +kernel, by decide +kernel, by decide +kernel, 10, by decide +kernel, rfl⟩
  · exact ⟨by decide +kernel, by decide +kernel, by decide +kernel, by decide +kernel, 11, by decide +kernel, rfl⟩
theorem sp_class (h1 : T "_law_class" = some w__law_class) {c w : Str} (hc : (c, w) ∈ CW) (h : Q (.d (.str w)) [none]) : sem T con (k + 1) "_law_class" [.x ⟨c, .none⟩] Q E := by
  obtain ⟨hx, hv, _, e1, j, e2, e3⟩ := cw_facts hc
  refine sem_go h1 rfl ?_
  unfold w__law_class
  unfold markL at e1 e2
  unfold wordL at e3
  push_cast only [hx, hv, e1, e2, e3, b__law_class_1, b__law_class_0]
  exact h
theorem sp_tried (h1 : T "_law_class" = some w__law_class) (h2 : T "_law_tried" = some w__law_tried) {f : Str} {x : PyData} (hf : XCL.contains f = false)
    (hw : ∀ (Q' : QT) (E' : ET), (∀ y : PyData, Q (.n (.l [y])) [none, none] → Q' (.d y) [none]) → (∀ c w : Str, (c, w) ∈ CW → Q (.d (.str w)) [none, none] → E' ⟨c, .none⟩ [none]) → sem T con (k + 1) f [.d x] Q' E') :
    sem T con (k + 2) "_law_tried" [.f f, .d x] Q E := by
  refine sem_go h2 rfl ?_
  unfold w__law_tried
  push_cast only [b__law_tried_0, hf]
  refine hw _ _ (fun y hy => ?_) fun c w hc hq => ?_
  · push_cast only [b__law_tried_2]
    exact hy
  · obtain ⟨hx, hv, hb, _⟩ := cw_facts hc
    push_cast only [hb, b__law_tried_1, b__law_tried_2]
    refine sp_class h1 hc ?_
    walk_at "lb"
    exact hq
end Cm
set_option maxHeartbeats 1000000
/-! ## Lb20 -/
/-! Lb20: None in xs, as a test. -/
namespace Lb
open PySem PySem.Spec L2
section
variable {X : Cx} {Γ : Sg} {fp : Fp} {Wx : WX}
theorem t_noneIn (hu : X.A.units + 64 < cLine) {b : Expr} {sb : SE} {j : Nat} {pos pos2 : Pos} (hb : PE X b (tE X.K Γ fp Wx sb)) (hm : behindInMarks .In b = false := by rfl) :
    PT X (.Compare (.Constant .none j pos) [.In] [b] pos2) (tT X.K Γ fp Wx (.e (.noneIn sb))) :=
  PT.imp (pt_cmpR (op_noneIn hu) pe_non hb hm) fun σ H Q ⟨L, w, ex, k, S, ec, h, ep⟩ => one S ec h fun u w2 y L2 H2 hk S2 n r2 _ => by
    obtain ⟨p, e, hk⟩ := rdP_some hk
    obtain ⟨ys, rfl, h1, hk⟩ := noneInP_some hk
    obtain ⟨a, vs, rfl, ha, r⟩ := (VR.rd S2 r2 e).lst
    obtain ⟨i1, i2⟩ := r.nl h1
    exact ⟨rfl, a, vs, rfl, ha, i1, by rw [i2]; exact ⟨_, rfl, ep _ w2 L2 H2 hk S2 n⟩⟩
end
end Lb
set_option maxHeartbeats 4000000
/-! ## Cm8 -/
/-! Cm8: the law's own rows: _law_inner, _law_measure. -/
namespace Cm
open PySem L2 Lb
local macro_rules | `(tactic| walk_at "lb") => `(tactic| simp (config := {dsimp := false}) only [↓h1_eq, ↓h2_eq, ↓h3_eq, ↓h4_eq, goR_eq, goX_eq, br_t, br_f, g0, gS, s0, sS, ↓varP_eq, varS_d, varS_o, varS_a, varS_f, varS_z, rdS_eq, ↓optP_eq, ↓rdP_d, ↓rdP_n, ↓rdP_s, ↓rdP_a, dat_l, dat_m, slotDat_d, slotDat_o, argDat_c, ↓x_v, ↓x_k, ↓x_g, ↓x_fn, ↓x_bin, ↓x_neg, ↓x_cmp, ↓x_chain, ↓x_isN, ↓x_isB, ↓x_and, ↓x_or, ↓x_not, ↓x_ife, ↓x_tup, ↓x_lst, ↓x_dic0, ↓x_dic1, ↓x_ix, zS_eq, ↓x_zlen, ↓x_zix, ↓x_sl, ↓x_rv, ↓x_call, fS_eq, ↓x_callv, ↓x_bi, ↓x_app, ↓x_pop, ↓x_ext, ↓x_join, ↓x_upper, ↓x_lc, ↓y_e, ↓y_tr, ↓y_not, ↓y_and, ↓y_or, ↓a_nil', ↓a_cons', ↓d_nil', ↓d_cons', ↓o_no', ↓o_so', ↓j_seq, ↓j_str, ↓j_rng1, ↓j_rng2, ↓c_no', ↓c_so', ↓q_nil, ↓q_cons, ↓z_asg, ↓z_par, ↓z_aug, ↓z_put, ↓z_ex, ↓z_ret, ↓z_retN, ↓z_ite, ↓z_for, ↓z_whl, ↓z_pass, ↓z_brk, ↓z_cont, ↓z_rais, ↓dEnds_mk, ↓bindP_d, ↓bindP_n, ↓bindP_f, bindA_eq, ↓bindP_a, bindS_o, bindS_d, ↓bindP_s, ↓tgV_v, ↓tgV_t, ↓tgP_v, ↓tgP_t, ↓tgsP_nil, ↓tgsP_cons, ↓datP_d, ↓datP_n, datS_o, datS_d, ↓datP_s, ↓valP_n, ↓valP_d, ↓valP_s, seqA_eq, ↓seqP_a, ↓seqD_l, ↓seqD_t, ↓seqP_d, ↓seqP_n, ↓seqP_s, ↓isNP_none, ↓isNP_bool, ↓isNP_int, ↓isNP_str, ↓isNP_list, ↓isNP_tuple, ↓isNP_dict, ↓isNP_n, ↓isNP_f, getS_eq, getA_eq, ↓getCP_s, ↓getCP_a, ↓isNP_s, ↓isNP_a, ↓putP_s, ↓putP_a, lisP_eq, ↓appP_eq, lisD_eq, ↓extP_eq, ↓popP_eq, ↓putIxP_eq, ↓putP_n, ↓putP_d, ↓bin_add_i, ↓bin_add_s, ↓bin_add_t, ↓bin_add_l, ↓bin_sub_i, ↓bin_mul_i, ↓bin_mul_l, ↓bin_mul_t, ↓bin_fdiv_i, ↓bin_mod_i, ↓bin_pow_i, ↓aug_add, ↓aug_sub, ↓cmp_lt, ↓cmp_le, ↓cmp_gt, ↓cmp_ge, ↓cmp_lts, ↓cmp_eq, ↓cmp_ne, ↓cmp_in, ↓cmp_notin, ↓in_t, ↓in_l, ↓in_s1, fl_n, fl_b, fl_i, fl_s, fl_t, fl_l, fl_d, List.all_cons, List.all_nil, Bool.and_true, Bool.true_and, Int.reduceToNat, eo_i, eo_s, eo_b, eo_is, eo_si, ev_i, ev_s, ev_b, ev_is, ev_si, ↓ix_l, ↓ix_t, ↓ix_s, atI_0, atI_1, atI_2, atI_3, ixN_0, ixN_1, ixN_2, ixN_3, ↓sl_l, ↓sl_t, ↓sl_s, ↓rv_l, ↓rv_t, ↓rv_s, eo_ln, eo_tn, ev_ll, ev_tt, ea_n, ea_nc, ea_cc, List.isEmpty_nil, List.isEmpty_cons, ↓intP_eq, ↓strP_eq, ↓tru_b, ↓truA_b, ↓truA_i, ↓truA_s, ↓truA_l, ↓truA_t, ↓truA_n, ↓lstP_eq, ↓rds_nil, ↓rds_cons, ↓b_len_s, ↓b_len_t, ↓b_len_l, ↓b_abs, ↓b_min2, ↓b_max2, ↓b_int_i, ↓b_int_b, ↓b_str, ↓b_isi, ↓b_isiLT, ↓b_tup_l, ↓b_tup_t, ↓b_lst_l, ↓b_lst_t, ↓b_sum, ↓backs_nil, ↓backs_s, ↓backs_n, ag_d, ag_n, ag_f, ag_z, ag_s, ag_a, agS_o, agS_d, agA_c, ↓ags_nil, ↓ags_cons, res_d, res_n, res_f, res_a, resA_n, resA_s, resA_a, ↓callP_eq, sh_nil, sh_d, sh_n, sh_f, sh_z, sh_s, sh_a, di_0, di_1, di_2, di_2a, di_2b, di_2c, rv_d, rv_n, rv_f, rv_sl, rv_a, rvS_o, rvS_d, rvA_c, shp_nil, shp_cc, shp_d, shp_f, shp_z, ownS_no, ownS_d, own_nil, own_cons, ↓bindW_eq, ↓wip_nil, ↓wip_cons, ↓rest_nil, ↓rest_cons, startW, slsFrom, slOf, cvOf, isT, List.length_cons, List.length_nil, List.replicate, List.append, List.cons_append, List.nil_append, List.map, List.map_cons, List.map_nil, Option.getD_some, Nat.reduceAdd, Nat.reduceSub, Nat.reduceMul, Nat.reduceEqDiff, Nat.zero_add, Nat.reduceLeDiff, Nat.reduceLT, Nat.reduceBEq, Int.reduceAdd, Int.reduceSub, Int.reduceMul, Int.reduceNeg, Int.reduceLT, Int.reduceLE, Int.reduceEq, Int.reducePow, Int.cast_ofNat_Int, decide_eq_true_eq, decide_true, decide_false, Bool.not_true, Bool.not_false, Bool.not_eq_true', decide_eq_false_iff_not, Bool.false_eq_true, Bool.true_eq_false, eq_self, ne_eq, not_false_eq_true, not_true_eq_false, reduceIte, true_and, and_true, bne_self_eq_false, Bool.false_bne, Bool.true_bne, Bool.cond_true, Bool.cond_false, sizeLine_eq, varS_x, ↓x_isx, ↓isxP_x, ↓x_cnt, ↓x_idx, ↓cntP_l, ↓idxP_l, ↓z_tryx, ↓z_augIx, ↓bindP_x, ↓isNP_x, ag_x, sh_x, shp_x, ↓x_sumL, ↓x_noneIn, ↓noneInP_l, itmD_l, itmD_t, ↓b_repr, ↓sumLP_eq])
local macro_rules | `(tactic| push_cast only [$as,*]) => `(tactic| simp (config := {dsimp := false}) only [↓h1_eq, ↓h2_eq, ↓h3_eq, ↓h4_eq, goR_eq, goX_eq, br_t, br_f, g0, gS, s0, sS, ↓varP_eq, varS_d, varS_o, varS_a, varS_f, varS_z, rdS_eq, ↓optP_eq, ↓rdP_d, ↓rdP_n, ↓rdP_s, ↓rdP_a, dat_l, dat_m, slotDat_d, slotDat_o, argDat_c, ↓x_v, ↓x_k, ↓x_g, ↓x_fn, ↓x_bin, ↓x_neg, ↓x_cmp, ↓x_chain, ↓x_isN, ↓x_isB, ↓x_and, ↓x_or, ↓x_not, ↓x_ife, ↓x_tup, ↓x_lst, ↓x_dic0, ↓x_dic1, ↓x_ix, zS_eq, ↓x_zlen, ↓x_zix, ↓x_sl, ↓x_rv, ↓x_call, fS_eq, ↓x_callv, ↓x_bi, ↓x_app, ↓x_pop, ↓x_ext, ↓x_join, ↓x_upper, ↓x_lc, ↓y_e, ↓y_tr, ↓y_not, ↓y_and, ↓y_or, ↓a_nil', ↓a_cons', ↓d_nil', ↓d_cons', ↓o_no', ↓o_so', ↓j_seq, ↓j_str, ↓j_rng1, ↓j_rng2, ↓c_no', ↓c_so', ↓q_nil, ↓q_cons, ↓z_asg, ↓z_par, ↓z_aug, ↓z_put, ↓z_ex, ↓z_ret, ↓z_retN, ↓z_ite, ↓z_for, ↓z_whl, ↓z_pass, ↓z_brk, ↓z_cont, ↓z_rais, ↓dEnds_mk, ↓bindP_d, ↓bindP_n, ↓bindP_f, bindA_eq, ↓bindP_a, bindS_o, bindS_d, ↓bindP_s, ↓tgV_v, ↓tgV_t, ↓tgP_v, ↓tgP_t, ↓tgsP_nil, ↓tgsP_cons, ↓datP_d, ↓datP_n, datS_o, datS_d, ↓datP_s, ↓valP_n, ↓valP_d, ↓valP_s, seqA_eq, ↓seqP_a, ↓seqD_l, ↓seqD_t, ↓seqP_d, ↓seqP_n, ↓seqP_s, ↓isNP_none, ↓isNP_bool, ↓isNP_int, ↓isNP_str, ↓isNP_list, ↓isNP_tuple, ↓isNP_dict, ↓isNP_n, ↓isNP_f, getS_eq, getA_eq, ↓getCP_s, ↓getCP_a, ↓isNP_s, ↓isNP_a, ↓putP_s, ↓putP_a, lisP_eq, ↓appP_eq, lisD_eq, ↓extP_eq, ↓popP_eq, ↓putIxP_eq, ↓putP_n, ↓putP_d, ↓bin_add_i, ↓bin_add_s, ↓bin_add_t, ↓bin_add_l, ↓bin_sub_i, ↓bin_mul_i, ↓bin_mul_l, ↓bin_mul_t, ↓bin_fdiv_i, ↓bin_mod_i, ↓bin_pow_i, ↓aug_add, ↓aug_sub, ↓cmp_lt, ↓cmp_le, ↓cmp_gt, ↓cmp_ge, ↓cmp_lts, ↓cmp_eq, ↓cmp_ne, ↓cmp_in, ↓cmp_notin, ↓in_t, ↓in_l, ↓in_s1, fl_n, fl_b, fl_i, fl_s, fl_t, fl_l, fl_d, List.all_cons, List.all_nil, Bool.and_true, Bool.true_and, Int.reduceToNat, eo_i, eo_s, eo_b, eo_is, eo_si, ev_i, ev_s, ev_b, ev_is, ev_si, ↓ix_l, ↓ix_t, ↓ix_s, atI_0, atI_1, atI_2, atI_3, ixN_0, ixN_1, ixN_2, ixN_3, ↓sl_l, ↓sl_t, ↓sl_s, ↓rv_l, ↓rv_t, ↓rv_s, eo_ln, eo_tn, ev_ll, ev_tt, ea_n, ea_nc, ea_cc, List.isEmpty_nil, List.isEmpty_cons, ↓intP_eq, ↓strP_eq, ↓tru_b, ↓truA_b, ↓truA_i, ↓truA_s, ↓truA_l, ↓truA_t, ↓truA_n, ↓lstP_eq, ↓rds_nil, ↓rds_cons, ↓b_len_s, ↓b_len_t, ↓b_len_l, ↓b_abs, ↓b_min2, ↓b_max2, ↓b_int_i, ↓b_int_b, ↓b_str, ↓b_isi, ↓b_isiLT, ↓b_tup_l, ↓b_tup_t, ↓b_lst_l, ↓b_lst_t, ↓b_sum, ↓backs_nil, ↓backs_s, ↓backs_n, ag_d, ag_n, ag_f, ag_z, ag_s, ag_a, agS_o, agS_d, agA_c, ↓ags_nil, ↓ags_cons, res_d, res_n, res_f, res_a, resA_n, resA_s, resA_a, ↓callP_eq, sh_nil, sh_d, sh_n, sh_f, sh_z, sh_s, sh_a, di_0, di_1, di_2, di_2a, di_2b, di_2c, rv_d, rv_n, rv_f, rv_sl, rv_a, rvS_o, rvS_d, rvA_c, shp_nil, shp_cc, shp_d, shp_f, shp_z, ownS_no, ownS_d, own_nil, own_cons, ↓bindW_eq, ↓wip_nil, ↓wip_cons, ↓rest_nil, ↓rest_cons, startW, slsFrom, slOf, cvOf, isT, List.length_cons, List.length_nil, List.replicate, List.append, List.cons_append, List.nil_append, List.map, List.map_cons, List.map_nil, Option.getD_some, Nat.reduceAdd, Nat.reduceSub, Nat.reduceMul, Nat.reduceEqDiff, Nat.zero_add, Nat.reduceLeDiff, Nat.reduceLT, Nat.reduceBEq, Int.reduceAdd, Int.reduceSub, Int.reduceMul, Int.reduceNeg, Int.reduceLT, Int.reduceLE, Int.reduceEq, Int.reducePow, Int.cast_ofNat_Int, decide_eq_true_eq, decide_true, decide_false, Bool.not_true, Bool.not_false, Bool.not_eq_true', decide_eq_false_iff_not, Bool.false_eq_true, Bool.true_eq_false, eq_self, ne_eq, not_false_eq_true, not_true_eq_false, reduceIte, true_and, and_true, bne_self_eq_false, Bool.false_bne, Bool.true_bne, Bool.cond_true, Bool.cond_false, sizeLine_eq, varS_x, ↓x_isx, ↓isxP_x, ↓x_cnt, ↓x_idx, ↓cntP_l, ↓idxP_l, ↓z_tryx, ↓z_augIx, ↓bindP_x, ↓isNP_x, ag_x, sh_x, shp_x, ↓x_sumL, ↓x_noneIn, ↓noneInP_l, itmD_l, itmD_t, ↓b_repr, ↓sumLP_eq, $as,*])
/-- _law_inner: 0 _law_word -/
def b__law_inner_0 : List SS := [(.ret (.lst .nil))]
def b__law_inner_1 : List SS := [(.ret (.ife (.and (.e (.bi (.isi .tuple) (.cons (.ix (.v 0) (.k (.int 1))) .nil))) (.e (.chain .le .le (.k (.int 1)) (.bi .len (.cons (.ix (.v 0) (.k (.int 1))) .nil)) (.k (.int 9))))) (.bi .listOf (.cons (.ix (.v 0) (.k (.int 1))) .nil)) (.k .none)))]
def b__law_inner_2 : List SS := [(.ret (.k .none))]
def b__law_inner_3 : List SS := [(.ret (.ife (.e (.cmp .le (.ix (.v 0) (.k (.int 1))) (.ix (.v 0) (.k (.int 2))))) (.lst (.cons (.ix (.v 0) (.k (.int 3))) .nil)) (.k .none)))]
def b__law_inner_4 : List SS := (.ite (.or (.not (.e (.call "_law_is_of" (.cons (.v 0) (.cons (.k (.str "times")) (.cons (.k (.int 4)) .nil)))))) (.or (.not (.e (.call "_law_is_number" (.cons (.ix (.v 0) (.k (.int 1))) (.cons (.k (.int 0)) (.cons (.k (.int 9)) .nil)))))) (.not (.e (.call "_law_is_number" (.cons (.ix (.v 0) (.k (.int 2))) (.cons (.k (.int 0)) (.cons (.k (.int 9)) .nil)))))))) b__law_inner_2 []) :: b__law_inner_3
def b__law_inner_5 : List SS := (.ite (.e (.call "_law_is_of" (.cons (.v 0) (.cons (.k (.str "among")) (.cons (.k (.int 2)) .nil))))) b__law_inner_1 []) :: b__law_inner_4
def w__law_inner : Df := ⟨1, 1,
  (.ite (.or (.e (.call "_law_is_deed" (.cons (.v 0) .nil))) (.and (.e (.call "_law_is_of" (.cons (.v 0) (.cons (.k (.str "call")) (.cons (.k (.int 2)) .nil))))) (.e (.call "_law_is_name" (.cons (.ix (.v 0) (.k (.int 1))) .nil))))) b__law_inner_0 []) :: b__law_inner_5⟩
/-- _law_measure: 0 _law_thing, 1 _law_rows, 2 _law_amount, 3 _law_far, 4 _law_words, 5 _law_row_here, 6 _law_inner_here, 7 _law_word -/
def b__law_measure_0 : List SS := [(.ret (.k .none))]
def b__law_measure_1 : List SS := [(.ex (.ext (.v 4) (.v 5)))]
def b__law_measure_2 : List SS := (.ite (.or (.not (.e (.bi (.isi .tuple) (.cons (.v 5) .nil)))) (.e (.cmp .gt (.bin .add (.bin .add (.v 2) (.bi .len (.cons (.v 4) .nil))) (.bi .len (.cons (.v 5) .nil))) (.k (.int 300))))) b__law_measure_0 []) :: b__law_measure_1
def e__law_measure_3 : SE := (.call "_law_inner" (.cons (.v 7) .nil))
def b__law_measure_4 : List SS := [(.ret (.k .none))]
def b__law_measure_5 : List SS := [(.asg (.v 1) (.sumL (.cons (.v 6) (.cons (.lst .nil) .nil))))]
def b__law_measure_6 : List SS := (.ite (.or (.e (.cmp .gt (.v 3) (.k (.int 12)))) (.e (.noneIn (.v 6)))) b__law_measure_4 []) :: b__law_measure_5
def b__law_measure_7 : List SS := (.aug 2 .add (.bi .len (.cons (.v 4) .nil))) :: (.asg (.v 6) (.lc [7] e__law_measure_3 (.v 7) (.seq (.v 4)) .no)) :: b__law_measure_6
def b__law_measure_8 : List SS := (.aug 3 .add (.k (.int 1))) :: (.asg (.v 4) (.lst .nil)) :: (.for (.v 5) (.seq (.v 1)) b__law_measure_2) :: b__law_measure_7
def b__law_measure_9 : List SS := [(.ret (.tup (.cons (.v 2) (.cons (.v 3) .nil))))]
def w__law_measure : Df := ⟨8, 1,
  (.asg (.v 1) (.lst (.cons (.v 0) .nil))) :: (.asg (.t (.cons (.v 2) (.cons (.v 3) .nil))) (.tup (.cons (.k (.int 0)) (.cons (.k (.int 0)) .nil)))) :: (.whl (.e (.cmp .ne (.v 1) (.lst .nil))) b__law_measure_8) :: b__law_measure_9⟩
/-! ### level by level -/
def lens (Ws : List (List PyData)) : Nat := (Ws.map (·.length)).sum
def lvl (rs : Option (List PyData)) (f n : Nat) : Option (Nat × Nat) := (rs.bind fun r => measW (meas f) r).map fun p => (n + p.1, 1 + p.2)
theorem lvl_comb (a b : Option (List PyData)) (f n m : Nat) : comb (lvl a f n) (lvl b f m) = lvl (a.bind fun x => b.map fun y => x ++ y) f (n + m) := by
  rcases a with _ | a
  · rfl
  · rcases b with _ | b
    · show comb (lvl (some a) f n) none = _
      unfold lvl
      rcases h : (some a).bind (fun r => measW (meas f) r) with _ | p <;> rfl
    · show comb ((measW (meas f) a).map _) ((measW (meas f) b).map _) = (measW (meas f) (a ++ b)).map _
      rw [measW_app]
      rcases measW (meas f) a with _ | ⟨n1, d1⟩
      · rfl
      · rcases measW (meas f) b with _ | ⟨n2, d2⟩
        · rfl
        · simp [comb]
          omega
theorem measW_lvl (f : Nat) : ∀ (W : List PyData) (Ws : List (List PyData)), measW (meas (f + 1)) ((W :: Ws).map .tuple) = lvl (inn (W :: Ws).flatten) f (lens (W :: Ws))
  | W, [] => by
    show comb (meas (f + 1) (.tuple W)) (some (0, 0)) = _
    rw [comb_z, meas]
    show _ = lvl (inn (W ++ [])) f (W.length + 0)
    rw [List.append_nil]
    unfold lvl
    cases inn W <;> rfl
  | W, V :: Ws => by
    have ih := measW_lvl f V Ws
    rw [List.map_cons, measW, ih]
    have e2 : (W :: V :: Ws).flatten = W ++ (V :: Ws).flatten := rfl
    rw [e2, inn_app]
    have e : meas (f + 1) (.tuple W) = lvl (inn W) f W.length := by
      rw [meas]
      unfold lvl
      cases inn W <;> rfl
    rw [e, lvl_comb]
    rfl
theorem measW_none {m : PyData → Option (Nat × Nat)} {x : PyData} (hx : m x = none) : ∀ {rs : List PyData}, x ∈ rs → measW m rs = none
  | r :: rs, h => by
    rw [measW]
    rcases List.mem_cons.mp h with rfl | h
    · rw [hx]
      rfl
    · rw [measW_none hx h]
      cases m r <;> rfl
theorem inn_map : ∀ {ws : List PyData}, inn ws = if (ws.map rowsOf).any Option.isNone = true then none else some ((ws.filterMap rowsOf).flatten)
  | [] => rfl
  | w :: ws => by
    rw [inn, inn_map (ws := ws), List.map_cons, List.any_cons, List.filterMap_cons]
    cases rowsOf w with
    | none => simp
    | some a =>
      by_cases q : (ws.map rowsOf).any Option.isNone = true
      · simp [q]
      · simp [q]
/-- what is left of the reckoning at a level -/
def lef (R : List PyData) (m l : Nat) : Option (Nat × Nat) := (measW (meas (12 - l)) R).bind fun p => if m + p.1 ≤ 300 then some (m + p.1, l + p.2) else none
theorem lef_0 (x : PyData) : lef [x] 0 0 = measD x := by
  unfold lef measD Cm.bound
  show (comb (meas 12 x) (some (0, 0))).bind _ = _
  rw [comb_z]
  cases meas 12 x <;> simp
theorem lef_nil {m l : Nat} (h : m ≤ 300) : lef [] m l = some (m, l) := by
  show (if m + 0 ≤ 300 then some (m + 0, l + 0) else none) = _
  rw [if_pos (by omega)]
  rfl
theorem lef_bad {R : List PyData} {x : PyData} {m l : Nat} (hx : x ∈ R) (h : isT .tuple x = false) : lef R m l = none := by
  unfold lef
  rw [measW_none (meas_not h _) hx]
  rfl
theorem lef_many {R q : List PyData} {Ws : List (List PyData)} {m l : Nat} (e : R = Ws.map .tuple ++ q) (h : 300 < m + lens Ws) : lef R m l = none := by
  subst e
  unfold lef
  cases Ws with
  | nil =>
    show ((measW (meas (12 - l)) q).bind _) = none
    rcases measW (meas (12 - l)) q with _ | p
    · rfl
    · show (if m + p.1 ≤ 300 then _ else none) = none
      have : lens [] = 0 := rfl
      rw [if_neg (by omega)]
  | cons W Ws =>
    cases hf : 12 - l with
    | zero =>
      rw [measW_none (x := .tuple W) rfl (by simp)]
      rfl
    | succ f =>
      rw [measW_app, measW_lvl]
      rcases e1 : lvl (inn (W :: Ws).flatten) f (lens (W :: Ws)) with _ | ⟨n1, d1⟩
      · rfl
      · have : lens (W :: Ws) ≤ n1 := by
          unfold lvl at e1
          obtain ⟨p, _, e1⟩ := Option.map_eq_some_iff.mp e1
          cases e1
          omega
        rcases measW (meas (f + 1)) q with _ | ⟨n2, d2⟩
        · rfl
        · show (if m + (n1 + n2) ≤ 300 then _ else none) = none
          rw [if_neg (by omega)]
theorem lef_step {Ws : List (List PyData)} {rs : List PyData} {m l : Nat} (hn : Ws ≠ []) (hl : l < 12) (hi : inn Ws.flatten = some rs) : lef rs (m + lens Ws) (l + 1) = lef (Ws.map .tuple) m l := by
  cases Ws with
  | nil => exact absurd rfl hn
  | cons W Ws =>
    unfold lef
    rw [show 12 - l = (12 - (l + 1)) + 1 by omega, measW_lvl, hi]
    show _ = ((measW (meas (12 - (l + 1))) rs).map _).bind _
    rcases measW (meas (12 - (l + 1))) rs with _ | ⟨n, d⟩
    · rfl
    · show (if _ then _ else _) = (if _ then _ else _)
      simp only [Nat.add_assoc]
theorem lef_inn {Ws : List (List PyData)} {m l : Nat} (hn : Ws ≠ []) (hi : inn Ws.flatten = none) : lef (Ws.map .tuple) m l = none := by
  cases Ws with
  | nil => exact absurd rfl hn
  | cons W Ws =>
    unfold lef
    cases hf : 12 - l with
    | zero =>
      rw [measW_none (x := .tuple W) rfl (by simp)]
      rfl
    | succ f =>
      rw [measW_lvl, hi]
      rfl
theorem lef_deep {Ws : List (List PyData)} {m l : Nat} (hn : Ws ≠ []) (hl : 12 ≤ l) : lef (Ws.map .tuple) m l = none := by
  cases Ws with
  | nil => exact absurd rfl hn
  | cons W Ws =>
    unfold lef
    rw [show 12 - l = 0 by omega, measW_none (x := .tuple W) rfl (by simp)]
    rfl
/-! ### the walk -/
variable {T : Str → Option Df} {con : Str → Option PyData} {k : Nat} {Q : QT} {E : ET}
structure LRow (T : Str → Option Df) : Prop where
  deed : T "_law_is_deed" = some w__law_is_deed
  of : T "_law_is_of" = some w__law_is_of
  name : T "_law_is_name" = some w__law_is_name
  kept : T "_law_kept" = some w__law_kept
  num : T "_law_is_number" = some w__law_is_number
  inner : T "_law_inner" = some w__law_inner
  meas : T "_law_measure" = some w__law_measure
theorem sp_inner (L : LRow T) {x : PyData} (h : Q (rvRows (rowsOf x)) [none]) : sem T con (k + 4) "_law_inner" [.d x] Q E := by
  refine sem_go L.inner rfl ?_
  unfold w__law_inner
  have rest : (isDeed x = true ∨ (isW "call" 2 x = true ∧ isName (at1 x) = true) → False) → evSs ⟨sem T con (k + 3), con⟩ b__law_inner_5 ⟨[.d x], [none]⟩ (dEnds [.d x] Q E) := fun n1 => by
    unfold rowsOf at h
    rw [if_neg (fun z => n1 (.inl z)), if_neg (fun z => n1 (.inr z))] at h
    push_cast only [b__law_inner_5]
    refine sp_lis_of L.of (n := 2) (by decide) ?_
    walk_at "lb"
    refine br_split (fun q => ?_) (fun q => ?_)
    · obtain ⟨xs, rfl, e⟩ := isW_get q
      obtain ⟨y, rfl⟩ := two_of e
      have h : Q (rvRows (amongOf y)) [none] := by
        have e0 : at1 (.tuple [.str "among", y]) = y := rfl
        have e1 : isW "times" 4 (.tuple [.str "among", y]) = false := isW_other (by decide +kernel)
        rw [e0, q, e1] at h
        cases e2 : amongOf y with
        | none => rw [e2] at h; exact h
        | some zs => rw [e2] at h; exact h
      cases y with
      | tuple ys =>
        rw [amongOf_t] at h
        push_cast only [b__law_inner_1]
        refine br_split (fun q1 => ?_) (fun q1 => ?_)
        · walk_at "lb"
          refine br_split (fun q2 => ?_) (fun q2 => ?_)
          · walk_at "lb"
            rw [if_pos ⟨by omega, by omega⟩] at h
            exact h
          · walk_at "lb"
            rw [if_neg (fun z => q2 (by omega))] at h
            exact h
        · walk_at "lb"
          rw [if_neg (fun z => q1 (by omega))] at h
          exact h
      | _ =>
        push_cast only [b__law_inner_1]
        exact h
    · push_cast only [b__law_inner_4]
      refine sp_lis_of L.of (n := 4) (by decide) ?_
      walk_at "lb"
      rw [if_neg (fun z => q z.1)] at h
      refine br_split (fun q3 => ?_) (fun q3 => ?_)
      · rw [if_neg (fun z => by rw [q3] at z; exact absurd z.1 Bool.false_ne_true)] at h
        push_cast only [b__law_inner_2]
        exact h
      · have q3 : isW "times" 4 x = true := by simpa using q3
        obtain ⟨xs, rfl, e⟩ := isW_get q3
        obtain ⟨y, z, u, rfl⟩ := four_of e
        have h : Q (rvRows (if isW "times" 4 (.tuple [.str "times", y, z, u]) = true ∧ isNum 0 9 y = true ∧ isNum 0 9 z = true then (if leD y z = true then some [u] else none) else none)) [none] := h
        walk_at "lb"
        refine sp_lis_number L.num ?_
        walk_at "lb"
        refine br_split (fun q4 => ?_) (fun q4 => ?_)
        · rw [if_neg (fun z => by rw [q4] at z; exact absurd z.2.1 Bool.false_ne_true)] at h
          push_cast only [b__law_inner_2]
          exact h
        · have q4 : isNum 0 9 y = true := by simpa using q4
          walk_at "lb"
          refine sp_lis_number L.num ?_
          walk_at "lb"
          refine br_split (fun q5 => ?_) (fun q5 => ?_)
          · rw [if_neg (fun z => by rw [q5] at z; exact absurd z.2.2 Bool.false_ne_true)] at h
            push_cast only [b__law_inner_2]
            exact h
          · have q5 : isNum 0 9 z = true := by simpa using q5
            rw [if_pos ⟨q3, q4, q5⟩] at h
            unfold isNum at q4 q5
            cases y with
            | int i =>
              cases z with
              | int j =>
                have h : Q (rvRows (if decide (i ≤ j) = true then some [u] else none)) [none] := h
                push_cast only [b__law_inner_3]
                refine br_split (fun q6 => ?_) (fun q6 => ?_)
                · walk_at "lb"
                  rw [if_pos (decide_eq_true q6)] at h
                  exact h
                · walk_at "lb"
                  rw [if_neg (by simpa using q6)] at h
                  exact h
              | _ => cases q5
            | _ => cases q4
  walk_at "lb"
  refine sp_lis_deed' L.deed L.of L.name L.kept L.num ?_
  walk_at "lb"
  refine br_split (fun q => ?_) (fun q => ?_)
  · unfold rowsOf at h
    rw [if_pos q] at h
    push_cast only [b__law_inner_0]
    exact h
  · walk_at "lb"
    refine sp_lis_of L.of (n := 2) (by decide) ?_
    walk_at "lb"
    refine br_split (fun q1 => ?_) (fun q1 => ?_)
    · obtain ⟨xs, rfl, e⟩ := isW_get q1
      obtain ⟨y, rfl⟩ := two_of e
      walk_at "lb"
      refine sp_lis_name' L.name L.kept ?_
      walk_at "lb"
      refine br_split (fun q2 => ?_) (fun q2 => ?_)
      · unfold rowsOf at h
        rw [if_neg q, if_pos ⟨q1, q2⟩] at h
        push_cast only [b__law_inner_0]
        exact h
      · simp only [q_nil, h1_eq]
        exact rest fun z => z.elim q fun z => q2 z.2
    · walk_at "lb"
      exact rest fun z => z.elim q fun z => q1 z.1
/-! ### _law_measure -/
def innD (w : PyData) : PyData := match rowsOf w with
  | some ys => .list ys
  | none => .none
theorem innD_ag {w : PyData} : (∃ ys, rowsOf w = some ys ∧ innD w = .list ys) ∨ (rowsOf w = none ∧ innD w = .none) := by
  unfold innD
  cases rowsOf w with
  | none => exact .inr ⟨rfl, rfl⟩
  | some ys => exact .inl ⟨ys, rfl, rfl⟩
theorem innD_nl : ∀ ws : List PyData, (ws.map innD).all nlD = true
  | [] => rfl
  | w :: ws => by
    rw [List.map_cons, List.all_cons, innD_nl ws]
    rcases innD_ag (w := w) with ⟨ys, _, e⟩ | ⟨_, e⟩ <;> rw [e] <;> rfl
theorem innD_any : ∀ ws : List PyData, (ws.map innD).any nnD = (inn ws).isNone
  | [] => rfl
  | w :: ws => by
    rw [List.map_cons, List.any_cons, innD_any ws, inn]
    rcases innD_ag (w := w) with ⟨ys, e1, e⟩ | ⟨e1, e⟩
    · rw [e, e1]
      cases inn ws <;> rfl
    · rw [e, e1]
      cases inn ws <;> rfl
theorem innD_lsts : ∀ {ws rs : List PyData}, inn ws = some rs → ∃ zs, lstsD (ws.map innD) = some zs ∧ zs.flatten = rs
  | [], rs, h => by cases h; exact ⟨[], rfl, rfl⟩
  | w :: ws, rs, h => by
    rw [inn] at h
    rcases innD_ag (w := w) with ⟨ys, e1, e⟩ | ⟨e1, e⟩
    · rw [e1] at h
      cases q : inn ws with
      | none => rw [q] at h; cases h
      | some b =>
        rw [q] at h
        cases h
        obtain ⟨zs, h1, h2⟩ := innD_lsts q
        refine ⟨ys :: zs, ?_, by rw [List.flatten_cons, h2]⟩
        rw [List.map_cons, e, lstsD, h1]
        rfl
    · rw [e1] at h
      cases inn ws <;> cases h
theorem lens_flat : ∀ Ws : List (List PyData), Ws.flatten.length = lens Ws
  | [] => rfl
  | W :: Ws => by
    rw [List.flatten_cons, List.length_append, lens_flat Ws]
    rfl
theorem lens_app (Ws : List (List PyData)) (V : List PyData) : lens (Ws ++ [V]) = lens Ws + V.length := by
  rw [← lens_flat, ← lens_flat, List.flatten_append, List.length_append]
  simp
theorem sp_measure (L : LRow T) {x : PyData} (h : Q (.d (msD (measD x))) [none]) : sem T con (k + 5) "_law_measure" [.d x] Q E := by
  refine sem_go L.meas rfl ?_
  unfold w__law_measure
  walk_at "lb"
  refine while_inv (fun n w => ∃ (R : List PyData) (m l : Nat) (s4 s5 s6 : Sl), m ≤ 300 ∧ l ≤ 12 ∧ lef R m l = measD x ∧ n = 12 - l ∧
    w = ⟨[.d x, .o (.l R), .d (.int (m : Nat)), .d (.int (l : Nat)), s4, s5, s6, .no], [none]⟩) (fun n w hi k' hk' => ?_) _ _ ⟨[x], 0, 0, .no, .no, .no, by omega, by omega, lef_0 x, rfl, rfl⟩
  obtain ⟨R, m, l, s4, s5, s6, hm, hl, hr, rfl, rfl⟩ := hi
  have none_ : lef R m l = none → Q (.d .none) [none] := fun e => by rw [← hr, e] at h; exact h
  cases R with
  | nil =>
    push_cast only [b__law_measure_9]
    rw [← hr, lef_nil hm] at h
    exact h
  | cons r0 R0 =>
    generalize hR : r0 :: R0 = R at *
    have hne : R ≠ [] := fun e => by rw [← hR] at e; cases e
    have hE : R.isEmpty = false := by rw [← hR]; rfl
    push_cast only [hE, b__law_measure_8]
    refine walk_pre (all := R) (fun p w => ∃ (Ws : List (List PyData)) (s5 : Sl), p = Ws.map .tuple ∧ m + lens Ws ≤ 300 ∧ w = ⟨[.d x, .d (.list R), .d (.int (m : Nat)), .d (.int ((l : Int) + 1)), .o (.l Ws.flatten), s5, s6, .no], [none]⟩) (fun _ _ _ => trivial) (fun w => ?_) (fun p row q e w hw k2 hk2 => ?_) _ [] _ rfl ⟨[], _, rfl, hm, rfl⟩
    · rintro ⟨Ws, s5, hp, hb, rfl⟩
      have hW : Ws ≠ [] := fun e => hne (by rw [hp, e]; rfl)
      have hfl : Ws.flatten.length = lens Ws := lens_flat Ws
      push_cast only [b__law_measure_7]
      refine walkC_map innD trivial _ _ (fun c hc ky hk => ?_) ?_ ?_
      · push_cast only [e__law_measure_3]
        refine sp_inner L ?_
        rcases innD_ag (w := c) with ⟨ys, e1, e2⟩ | ⟨e1, e2⟩
        · rw [e2] at hk
          rw [e1]
          dsimp only [rvRows]
          walk_at "lb"
          exact hk
        · rw [e2] at hk
          rw [e1]
          dsimp only [rvRows]
          walk_at "lb"
          exact hk
      · rw [sizeLine_eq, List.length_nil, hfl]
        omega
      · rw [List.nil_append]
        push_cast only [b__law_measure_6]
        refine br_split (fun q1 => ?_) (fun q1 => ?_)
        · push_cast only [b__law_measure_4]
          exact none_ (by rw [hp]; exact lef_deep hW (by omega))
        · cases q2 : inn Ws.flatten with
          | none =>
            push_cast only [innD_any, innD_nl, q2, Option.isNone_none, b__law_measure_4]
            exact none_ (by rw [hp]; exact lef_inn hW q2)
          | some rs =>
            obtain ⟨zs, z1, z2⟩ := innD_lsts q2
            have zl := inn_len q2
            push_cast only [innD_any, innD_nl, q2, Option.isNone_some, b__law_measure_5, z1]
            refine ⟨by rw [z2]; omega, ?_⟩
            exact hk' (12 - (l + 1)) _ (by omega) ⟨zs.flatten, m + lens Ws, l + 1, _, _, _, hb, by omega, by rw [z2, lef_step hW (by omega) q2, ← hp]; exact hr, rfl, by rw [hfl, Int.natCast_add]; rfl⟩
    · obtain ⟨Ws, s5, rfl, hb, rfl⟩ := hw
      have hfl := lens_flat Ws
      by_cases q1 : isT .tuple row = true
      · obtain ⟨ws, rfl⟩ : ∃ ws, row = .tuple ws := by cases row <;> first | exact ⟨_, rfl⟩ | cases q1
        push_cast only [b__law_measure_2]
        refine br_split (fun q2 => ?_) (fun q2 => ?_)
        · push_cast only [b__law_measure_0]
          exact none_ (lef_many (Ws := Ws ++ [ws]) (q := q) (by rw [e]; simp) (by rw [lens_app]; omega))
        · push_cast only [b__law_measure_1]
          refine ⟨by omega, ?_⟩
          exact hk2 _ ⟨Ws ++ [ws], _, by simp, by rw [lens_app]; omega, by rw [List.flatten_append]; simp; rfl⟩
      · have q1 : isT .tuple row = false := by simpa using q1
        have none2 := none_ (lef_bad (x := row) (by rw [e]; simp) q1)
        cases row with
        | tuple ws => cases q1
        | _ =>
          push_cast only [b__law_measure_2, b__law_measure_0]
          exact none2
end Cm
set_option maxHeartbeats 4000000
/-! ## K3g -/
namespace Lk03
open PySem PySem.Spec L2 Lb
open PyProof.Rows (envOfC)
/-! ### the text of law_k03_rows_known: its places and its words (printed by gen.py) -/
def at_ (i : Nat) : Stmt := PySem.Challenge.pw_longbeat_k03_rows_known.main.body.getD i (.Pass ⟨0, 0, 0, 0⟩)
abbrev p_is_name : Stmt := at_ 17
abbrev p_is_number : Stmt := at_ 18
abbrev p_is_word_of : Stmt := at_ 22
abbrev p_is_deed : Stmt := at_ 23
abbrev p_rows_of : Stmt := at_ 24
abbrev p_measured : Stmt := at_ 25
abbrev p_is_row : Stmt := at_ 26
abbrev p_need_measured : Stmt := at_ 27
abbrev p_words_in : Stmt := at_ 28
abbrev p_deep : Stmt := at_ 29
abbrev p__law_state : Stmt := at_ 31
abbrev p__law_next : Stmt := at_ 32
abbrev p__law_pick : Stmt := at_ 33
abbrev p__law_kept : Stmt := at_ 34
abbrev p__law_name : Stmt := at_ 35
abbrev p__law_is_name : Stmt := at_ 36
abbrev p__law_deed : Stmt := at_ 37
abbrev p__law_is_number : Stmt := at_ 38
abbrev p__law_is_of : Stmt := at_ 39
abbrev p__law_is_deed : Stmt := at_ 40
abbrev p__law_odd : Stmt := at_ 41
abbrev p__law_row : Stmt := at_ 42
abbrev p__law_inner : Stmt := at_ 43
abbrev p__law_measure : Stmt := at_ 44
abbrev p__law_class : Stmt := at_ 45
abbrev p__law_tried : Stmt := at_ 46
abbrev p__law_bent : Stmt := at_ 47
abbrev p__law_right : Stmt := at_ 48
abbrev p_law : Stmt := at_ 49
abbrev w_is_name : Df := Cm.w_is_name
abbrev w_is_number : Df := Cm.w_is_number
abbrev w_is_word_of : Df := Cm.w_is_word_of
abbrev w_is_deed : Df := Cm.w_is_deed
abbrev w_rows_of : Df := Cm.w_rows_of
abbrev w_measured : Df := Cm.w_measured
abbrev w_is_row : Df := Cm.w_is_row
abbrev w_need_measured : Df := Cm.w_need_measured
abbrev w_words_in : Df := Cm.w_words_in
abbrev w_deep : Df := Cm.w_deep
abbrev w__law_state : Df := Cm.w__law_state
abbrev w__law_next : Df := Cm.w__law_next
abbrev w__law_pick : Df := Cm.w__law_pick
abbrev w__law_kept : Df := Cm.w__law_kept
abbrev w__law_name : Df := Cm.w__law_name
abbrev w__law_is_name : Df := Cm.w__law_is_name
abbrev w__law_deed : Df := Cm.w__law_deed
abbrev w__law_is_number : Df := Cm.w__law_is_number
abbrev w__law_is_of : Df := Cm.w__law_is_of
abbrev w__law_is_deed : Df := Cm.w__law_is_deed
abbrev w__law_odd : Df := Cm.w__law_odd
/-- _law_row: 0 _law_state_here, 1 _law_names, 2 _law_parts, 3 _law_room, 4 _law_level, 5 _law_found, 6 _law_k, 7 _law_way, 8 _law_rows, 9 _law_least, 10 _law_most, 11 _law_one -/
def b__law_row_0 : List SS := [.cont]
def b__law_row_1 : List SS := [(.ex (.app (.v 5) (.call "_law_deed" (.cons (.v 0) (.cons (.v 1) .nil)))))]
def e__law_row_2 : SE := (.call "_law_row" (.cons (.v 0) (.cons (.v 1) (.cons (.v 2) (.cons (.v 3) (.cons (.bin .sub (.v 4) (.k (.int 1))) .nil))))))
def b__law_row_3 : List SS := [(.ex (.app (.v 5) (.tup (.cons (.k (.str "among")) (.cons (.bi .tupleOf (.cons (.v 8) .nil)) .nil)))))]
def b__law_row_4 : List SS := (.asg (.v 8) (.lc [11] e__law_row_2 (.v 11) (.rng1 (.bin .add (.k (.int 1)) (.call "_law_next" (.cons (.v 0) (.cons (.k (.int 3)) .nil))))) .no)) :: b__law_row_3
def b__law_row_5 : List SS := [(.ex (.app (.v 5) (.tup (.cons (.k (.str "times")) (.cons (.v 9) (.cons (.v 10) (.cons (.call "_law_row" (.cons (.v 0) (.cons (.v 1) (.cons (.lst .nil) (.cons (.v 3) (.cons (.bin .sub (.v 4) (.k (.int 1))) .nil)))))) .nil)))))))]
def b__law_row_6 : List SS := (.asg (.v 10) (.bin .add (.v 9) (.call "_law_next" (.cons (.v 0) (.cons (.k (.int 3)) .nil))))) :: b__law_row_5
def b__law_row_7 : List SS := (.asg (.v 9) (.call "_law_next" (.cons (.v 0) (.cons (.k (.int 4)) .nil)))) :: b__law_row_6
def b__law_row_8 : List SS := [(.ex (.app (.v 5) (.ife (.e (.cmp .ne (.v 2) (.lst .nil))) (.tup (.cons (.k (.str "call")) (.cons (.call "_law_pick" (.cons (.v 0) (.cons (.v 2) .nil))) .nil))) (.call "_law_deed" (.cons (.v 0) (.cons (.v 1) .nil))))))]
def b__law_row_9 : List SS := [(.ite (.e (.cmp .eq (.v 7) (.k (.int 4)))) b__law_row_7 b__law_row_8)]
def b__law_row_10 : List SS := [(.ite (.e (.cmp .eq (.v 7) (.k (.int 3)))) b__law_row_4 b__law_row_9)]
def b__law_row_11 : List SS := [(.augIx (.v 3) (.k (.int 0)) .sub (.k (.int 1))), (.ite (.or (.e (.cmp .lt (.v 7) (.k (.int 3)))) (.e (.cmp .eq (.v 4) (.k (.int 0))))) b__law_row_1 b__law_row_10)]
def b__law_row_12 : List SS := (.ite (.e (.cmp .lt (.ix (.v 3) (.k (.int 0))) (.k (.int 1)))) b__law_row_0 []) :: b__law_row_11
def b__law_row_13 : List SS := (.asg (.v 7) (.call "_law_next" (.cons (.v 0) (.cons (.k (.int 6)) .nil)))) :: b__law_row_12
def b__law_row_14 : List SS := [(.ret (.bi .tupleOf (.cons (.v 5) .nil)))]
def w__law_row : Df := ⟨12, 5,
  (.asg (.v 5) (.lst .nil)) :: (.for (.v 6) (.rng1 (.call "_law_next" (.cons (.v 0) (.cons (.k (.int 4)) .nil)))) b__law_row_13) :: b__law_row_14⟩
abbrev w__law_inner : Df := Cm.w__law_inner
abbrev w__law_measure : Df := Cm.w__law_measure
abbrev w__law_class : Df := Cm.w__law_class
abbrev w__law_tried : Df := Cm.w__law_tried
/-- _law_bent: 0 _law_state_here, 1 _law_thing, 2 _law_way, 3 _law_at -/
def b__law_bent_0 : List SS := [(.ret (.ife (.e (.cmp .ne (.v 1) (.tup .nil))) (.call "_law_odd" (.cons (.v 0) (.cons (.v 1) .nil))) (.call "_law_pick" (.cons (.v 0) (.cons (.lst (.cons (.k .none) (.cons (.lst .nil) (.cons .dic0 (.cons (.k (.str "")) (.cons (.k (.int 0)) (.cons (.tup (.cons (.tup .nil) .nil)) (.cons (.tup (.cons (.k (.str "")) .nil)) .nil)))))))) .nil)))))]
def b__law_bent_1 : List SS := [(.ret (.bin .add (.sl (.v 1) .no (.so (.v 3))) (.sl (.v 1) (.so (.bin .add (.v 3) (.k (.int 1)))) .no)))]
def b__law_bent_2 : List SS := [(.ret (.bin .add (.sl (.v 1) .no (.so (.bin .add (.v 3) (.k (.int 1))))) (.sl (.v 1) (.so (.v 3)) .no)))]
def b__law_bent_3 : List SS := [(.ret (.bin .add (.bin .add (.sl (.v 1) .no (.so (.v 3))) (.tup (.cons (.call "_law_bent" (.cons (.v 0) (.cons (.ix (.v 1) (.v 3)) .nil))) .nil))) (.sl (.v 1) (.so (.bin .add (.v 3) (.k (.int 1)))) .no)))]
def b__law_bent_4 : List SS := (.ite (.e (.cmp .eq (.v 2) (.k (.int 2)))) b__law_bent_2 []) :: b__law_bent_3
def b__law_bent_5 : List SS := (.ite (.e (.cmp .eq (.v 2) (.k (.int 1)))) b__law_bent_1 []) :: b__law_bent_4
def b__law_bent_6 : List SS := (.asg (.v 3) (.call "_law_next" (.cons (.v 0) (.cons (.bi .len (.cons (.v 1) .nil)) .nil)))) :: b__law_bent_5
def b__law_bent_7 : List SS := (.ite (.or (.not (.e (.bi (.isi .tuple) (.cons (.v 1) .nil)))) (.or (.e (.cmp .eq (.v 1) (.tup .nil))) (.e (.cmp .eq (.v 2) (.k (.int 0)))))) b__law_bent_0 []) :: b__law_bent_6
def w__law_bent : Df := ⟨4, 2,
  (.asg (.v 2) (.call "_law_next" (.cons (.v 0) (.cons (.k (.int 8)) .nil)))) :: b__law_bent_7⟩
/-- _law_right: 0 _law_thing, 1 _law_due, 2 _law_found, 3 _law_told -/
def b__law_right_0 : List SS := [(.ret (.k (.bool false)))]
def b__law_right_1 : List SS := [(.ret (.cmp .eq (.v 3) (.lst (.cons (.k (.str "program")) (.cons (.k (.str "program")) .nil)))))]
def b__law_right_2 : List SS := [(.ret (.cmp .eq (.bi .reprOf (.cons (.v 3) .nil)) (.bi .reprOf (.cons (.lst (.cons (.lst (.cons (.ix (.v 1) (.k (.int 0))) .nil)) (.cons (.lst (.cons (.ix (.v 1) (.k (.int 1))) .nil)) .nil))) .nil))))]
def b__law_right_3 : List SS := (.ite (.e (.isN false (.v 1))) b__law_right_1 []) :: b__law_right_2
def b__law_right_4 : List SS := (.asg (.v 3) (.lst (.cons (.call "_law_tried" (.cons (.fn "words_in") (.cons (.v 0) .nil))) (.cons (.call "_law_tried" (.cons (.fn "deep") (.cons (.v 0) .nil))) .nil)))) :: b__law_right_3
def b__law_right_5 : List SS := (.ite (.or (.not (.e (.bi (.isi .bool) (.cons (.v 2) .nil)))) (.e (.cmp .ne (.v 2) (.isN true (.v 1))))) b__law_right_0 []) :: b__law_right_4
def b__law_right_6 : List SS := (.asg (.v 2) (.call "is_row" (.cons (.v 0) .nil))) :: b__law_right_5
def w__law_right : Df := ⟨4, 1,
  (.asg (.v 1) (.call "_law_measure" (.cons (.v 0) .nil))) :: b__law_right_6⟩
/-- law: 0 _law_script, 1 _law_k, 2 _law_state_here, 3 _law_names, 4 _law_row_here, 5 _law_thing, 6 _law_turn -/
def e_law_0 : SE := (.call "_law_bent" (.cons (.v 2) (.cons (.v 4) .nil)))
def b_law_1 : List SS := [(.ret (.k (.bool false)))]
def b_law_2 : List SS := [(.ite (.not (.e (.call "_law_right" (.cons (.v 5) .nil)))) b_law_1 [])]
def b_law_3 : List SS := [(.for (.v 5) (.seq (.bin .add (.bin .add (.lst (.cons (.v 4) .nil)) (.lc [6] e_law_0 (.v 6) (.rng1 (.k (.int 4))) .no)) (.lst (.cons (.v 4) .nil)))) b_law_2)]
def b_law_4 : List SS := (.asg (.v 4) (.call "_law_row" (.cons (.v 2) (.cons (.v 3) (.cons (.sl (.v 3) .no (.so (.k (.int 1)))) (.cons (.lst (.cons (.k (.int 14)) .nil)) (.cons (.k (.int 3)) .nil))))))) :: b_law_3
def b_law_5 : List SS := (.asg (.v 3) (.lst (.cons (.call "_law_name" (.cons (.v 2) .nil)) (.cons (.call "_law_name" (.cons (.v 2) .nil)) .nil)))) :: b_law_4
def b_law_6 : List SS := (.asg (.v 2) (.call "_law_state" (.cons (.v 0) (.cons (.v 1) .nil)))) :: b_law_5
def b_law_7 : List SS := [(.ret (.k (.bool true)))]
def w_law : Df := ⟨7, 1,
  (.for (.v 1) (.rng1 (.bin .add (.bi .min2 (.cons (.zlen 0) (.cons (.k (.int 8)) .nil))) (.k (.int 1)))) b_law_6) :: b_law_7⟩
def TL : List (Str × Df) := [("is_name", w_is_name), ("is_number", w_is_number), ("is_word_of", w_is_word_of), ("is_deed", w_is_deed), ("rows_of", w_rows_of), ("measured", w_measured), ("is_row", w_is_row), ("need_measured", w_need_measured), ("words_in", w_words_in), ("deep", w_deep), ("_law_state", w__law_state), ("_law_next", w__law_next), ("_law_pick", w__law_pick), ("_law_kept", w__law_kept), ("_law_name", w__law_name), ("_law_is_name", w__law_is_name), ("_law_deed", w__law_deed), ("_law_is_number", w__law_is_number), ("_law_is_of", w__law_is_of), ("_law_is_deed", w__law_is_deed), ("_law_odd", w__law_odd), ("_law_row", w__law_row), ("_law_inner", w__law_inner), ("_law_measure", w__law_measure), ("_law_class", w__law_class), ("_law_tried", w__law_tried), ("_law_bent", w__law_bent), ("_law_right", w__law_right), ("law", w_law)]
def CL : List (Str × PyData) := [("LETTERS", (.str "abcdefghijklmnopqrstuvwxyz")), ("KEPT", (.tuple [(.str "work"), (.str "touch"), (.str "way"), (.str "among"), (.str "or"), (.str "times"), (.str "call"), (.str "part"), (.str "main"), (.str "end")])), ("MOST_WORDS", (.int 300)), ("MOST_DEEP", (.int 12))]
def T : Str → Option Df := fun x => TL.lookup x
def con : Str → Option PyData := fun x => CL.lookup x
/-! ### the derivations -/
def XN : List Str := ["BeatError", "NoProgram", "NoMachine", "NoKind", "NoState", "NoGuess", "NoDeed", "NoPaper", "NoBook", "NoPlace", "TooMany", "NoInput", "NoText"]
def fa (mg : Str → Option Value) : Str → Option Addr := fun x => match mg x with
  | some (.ref a) => if (T x).isSome || XN.contains x then some a else none
  | _ => none
def xlOf (cs : Nat → Addr) : List (Str × Addr) := [("BeatError", cs 0), ("NoProgram", cs 1), ("NoMachine", cs 2), ("NoKind", cs 3), ("NoState", cs 4), ("NoGuess", cs 5), ("NoDeed", cs 6), ("NoPaper", cs 7), ("NoBook", cs 8), ("NoPlace", cs 9), ("TooMany", cs 10), ("NoInput", cs 11), ("NoText", cs 12)]
/-- what the top has bound -/
structure Mods (K : PySem.W.Frag) (mg : Str → Option Value) (cs : Nat → Addr) : Prop where
  xs : Xcs K mg (fa mg) (xlOf cs)
  x_BeatError : (("BeatError" : Str), cs 0) ∈ xlOf cs
  x_NoProgram : (("NoProgram" : Str), cs 1) ∈ xlOf cs
  r_NoProgram : PySem.W.excIn K (cs 1) veT "ValueError.__new__" = true
  x_NoMachine : (("NoMachine" : Str), cs 2) ∈ xlOf cs
  x_NoKind : (("NoKind" : Str), cs 3) ∈ xlOf cs
  x_NoState : (("NoState" : Str), cs 4) ∈ xlOf cs
  x_NoGuess : (("NoGuess" : Str), cs 5) ∈ xlOf cs
  x_NoDeed : (("NoDeed" : Str), cs 6) ∈ xlOf cs
  x_NoPaper : (("NoPaper" : Str), cs 7) ∈ xlOf cs
  x_NoBook : (("NoBook" : Str), cs 8) ∈ xlOf cs
  x_NoPlace : (("NoPlace" : Str), cs 9) ∈ xlOf cs
  x_TooMany : (("TooMany" : Str), cs 10) ∈ xlOf cs
  x_NoInput : (("NoInput" : Str), cs 11) ∈ xlOf cs
  x_NoText : (("NoText" : Str), cs 12) ∈ xlOf cs
  b_ValueError : mg "ValueError" = none
  b_abs : mg "abs" = none
  b_bool : mg "bool" = none
  b_int : mg "int" = none
  b_isinstance : mg "isinstance" = none
  b_len : mg "len" = none
  b_list : mg "list" = none
  b_max : mg "max" = none
  b_min : mg "min" = none
  b_range : mg "range" = none
  b_repr : mg "repr" = none
  b_str : mg "str" = none
  b_sum : mg "sum" = none
  b_tuple : mg "tuple" = none
  g_KEPT : ∀ {X : Cx} {Γ : Sg} {fp : Fp} {Wx : WX} {pos : Pos}, X.K = K → X.mg = mg → Gl X "KEPT" → Γ.con = con → PE X (.Name "KEPT" pos) (tE X.K Γ fp Wx (.g "KEPT"))
  g_LETTERS : ∀ {X : Cx} {Γ : Sg} {fp : Fp} {Wx : WX} {pos : Pos}, X.K = K → X.mg = mg → Gl X "LETTERS" → Γ.con = con → PE X (.Name "LETTERS" pos) (tE X.K Γ fp Wx (.g "LETTERS"))
  g_MOST_DEEP : ∀ {X : Cx} {Γ : Sg} {fp : Fp} {Wx : WX} {pos : Pos}, X.K = K → X.mg = mg → Gl X "MOST_DEEP" → Γ.con = con → PE X (.Name "MOST_DEEP" pos) (tE X.K Γ fp Wx (.g "MOST_DEEP"))
  g_MOST_WORDS : ∀ {X : Cx} {Γ : Sg} {fp : Fp} {Wx : WX} {pos : Pos}, X.K = K → X.mg = mg → Gl X "MOST_WORDS" → Γ.con = con → PE X (.Name "MOST_WORDS" pos) (tE X.K Γ fp Wx (.g "MOST_WORDS"))
section
variable {P : Program} {w : World} {K : PySem.W.Frag} {mg : Str → Option Value} {cs : Nat → Addr} {base : Heap} {f : Addr} {cdv : Value} {A : Around} {outer : List Env} {s : Shared} {H : Hp} {E : XK} {vs : List V} {Wx : WX} {k : Nat}
theorem sc_is_name : FnScope ["thing", "sign"] ["thing"] (defScope p_is_name) := ⟨rfl, rfl, rfl, by decide +kernel, rfl, by decide +kernel, by decide +kernel⟩
theorem d_is_name (M : Mods K mg cs) (C : Cond (cxOf (L2.CX P w) P w K mg base ["thing", "sign"] "is_name" (defScope p_is_name) f cdv A outer s H E) ⟨sem T con k, con⟩ ⟨fa mg, vs, H⟩ Wx k T)
    (po : PassesOwn (model P w) (A.deeper (envOfC "is_name" (defScope p_is_name) s.heap.objs.size f cdv)) (envOfC "is_name" (defScope p_is_name) s.heap.objs.size f cdv) (cxOf (L2.CX P w) P w K mg base ["thing", "sign"] "is_name" (defScope p_is_name) f cdv A outer s H E).xe) :
    PSs (cxOf (L2.CX P w) P w K mg base ["thing", "sign"] "is_name" (defScope p_is_name) f cdv A outer s H E) (defBody p_is_name) (tSs K ⟨sem T con k, con⟩ ⟨fa mg, vs, H⟩ Wx w_is_name.body) :=
  (ss_cons (s_if (t_or (t_not (t_e (r_isi .str (by rfl) M.b_isinstance (by rfl) M.b_str (by rfl) (r_v (i := 0) (by rfl))))) (t_or (t_cmp C.hu .inn (r_v (i := 0) (by rfl)) (M.g_KEPT (by rfl) (by rfl) (by rfl) (by rfl))) (t_or1 (t_not (t_chain C.hu .le .le r_int (r_len (by rfl) M.b_len (a_cons (r_v (i := 0) (by rfl)) a_nil)) r_int))))).pt (ss_cons (s_ret r_bool)
    ss_nil) ss_nil)
    (ss_cons (s_ret (r_cmp C.hu .eq (r_lc (own := [("sign", 1)]) (by rfl) sc_is_name.nd (i_str (r_v (i := 0) (by rfl))) (blkOk_by (by rfl)) (fun _ _ _ _ _ => (g_v (i := 1) sc_is_name.nd rfl (by first | exact Or.inl rfl | exact Or.inr rfl))) (fun _ _ _ _ _ => (c_so (t_cmp (C.blk _ _ _ _ _).hu .notin (r_v (i := 1) (by rfl)) (M.g_LETTERS (by rfl) (by rfl) (by rfl) (by rfl))))) (fun _ _ _ _ _ => (r_v (i := 1) (by rfl))) (by decide)) (r_lst d_nil)))
    ss_nil))
theorem sc_is_number : FnScope ["thing", "least", "most"] ["thing", "least", "most"] (defScope p_is_number) := ⟨rfl, rfl, rfl, by decide +kernel, rfl, by decide +kernel, by decide +kernel⟩
theorem d_is_number (M : Mods K mg cs) (C : Cond (cxOf (L2.CX P w) P w K mg base ["thing", "least", "most"] "is_number" (defScope p_is_number) f cdv A outer s H E) ⟨sem T con k, con⟩ ⟨fa mg, vs, H⟩ Wx k T)
    (po : PassesOwn (model P w) (A.deeper (envOfC "is_number" (defScope p_is_number) s.heap.objs.size f cdv)) (envOfC "is_number" (defScope p_is_number) s.heap.objs.size f cdv) (cxOf (L2.CX P w) P w K mg base ["thing", "least", "most"] "is_number" (defScope p_is_number) f cdv A outer s H E).xe) :
    PSs (cxOf (L2.CX P w) P w K mg base ["thing", "least", "most"] "is_number" (defScope p_is_number) f cdv A outer s H E) (defBody p_is_number) (tSs K ⟨sem T con k, con⟩ ⟨fa mg, vs, H⟩ Wx w_is_number.body) :=
  (ss_cons (s_ret (r_and (r_isi .int (by rfl) M.b_isinstance (by rfl) M.b_int (by rfl) (r_v (i := 0) (by rfl))) (r_and (r_not (r_isi .bool (by rfl) M.b_isinstance (by rfl) M.b_bool (by rfl) (r_v (i := 0) (by rfl)))) (r_one (r_chain C.hu .le .le (r_v (i := 1) (by rfl)) (r_v (i := 0) (by rfl)) (r_v (i := 2) (by rfl)))))))
    ss_nil)
theorem sc_is_word_of : FnScope ["thing", "word", "many"] ["thing", "word", "many"] (defScope p_is_word_of) := ⟨rfl, rfl, rfl, by decide +kernel, rfl, by decide +kernel, by decide +kernel⟩
theorem d_is_word_of (M : Mods K mg cs) (C : Cond (cxOf (L2.CX P w) P w K mg base ["thing", "word", "many"] "is_word_of" (defScope p_is_word_of) f cdv A outer s H E) ⟨sem T con k, con⟩ ⟨fa mg, vs, H⟩ Wx k T)
    (po : PassesOwn (model P w) (A.deeper (envOfC "is_word_of" (defScope p_is_word_of) s.heap.objs.size f cdv)) (envOfC "is_word_of" (defScope p_is_word_of) s.heap.objs.size f cdv) (cxOf (L2.CX P w) P w K mg base ["thing", "word", "many"] "is_word_of" (defScope p_is_word_of) f cdv A outer s H E).xe) :
    PSs (cxOf (L2.CX P w) P w K mg base ["thing", "word", "many"] "is_word_of" (defScope p_is_word_of) f cdv A outer s H E) (defBody p_is_word_of) (tSs K ⟨sem T con k, con⟩ ⟨fa mg, vs, H⟩ Wx w_is_word_of.body) :=
  (ss_cons (s_ret (r_and (r_isi .tuple (by rfl) M.b_isinstance (by rfl) M.b_tuple (by rfl) (r_v (i := 0) (by rfl))) (r_and (r_cmp C.hu .eq (r_len (by rfl) M.b_len (a_cons (r_v (i := 0) (by rfl)) a_nil)) (r_v (i := 2) (by rfl))) (r_and (r_isi .str (by rfl) M.b_isinstance (by rfl) M.b_str (by rfl) (r_ix (r_v (i := 0) (by rfl)) r_int)) (r_one (r_cmp C.hu .eq (r_ix (r_v (i := 0) (by rfl)) r_int) (r_v (i := 1) (by rfl))))))))
    ss_nil)
theorem sc_is_deed : FnScope ["thing"] ["thing"] (defScope p_is_deed) := ⟨rfl, rfl, rfl, by decide +kernel, rfl, by decide +kernel, by decide +kernel⟩
theorem d_is_deed (M : Mods K mg cs) (C : Cond (cxOf (L2.CX P w) P w K mg base ["thing"] "is_deed" (defScope p_is_deed) f cdv A outer s H E) ⟨sem T con k, con⟩ ⟨fa mg, vs, H⟩ Wx k T)
    (po : PassesOwn (model P w) (A.deeper (envOfC "is_deed" (defScope p_is_deed) s.heap.objs.size f cdv)) (envOfC "is_deed" (defScope p_is_deed) s.heap.objs.size f cdv) (cxOf (L2.CX P w) P w K mg base ["thing"] "is_deed" (defScope p_is_deed) f cdv A outer s H E).xe) :
    PSs (cxOf (L2.CX P w) P w K mg base ["thing"] "is_deed" (defScope p_is_deed) f cdv A outer s H E) (defBody p_is_deed) (tSs K ⟨sem T con k, con⟩ ⟨fa mg, vs, H⟩ Wx w_is_deed.body) :=
  (ss_cons (s_if (t_e (r_call (C.kn "is_word_of" _ (by rfl)) C.gd C.rm C.tk (by rfl) (a_cons (r_v (i := 0) (by rfl)) (a_cons r_str (a_cons r_int a_nil))))) (ss_cons (s_ret (r_call (C.kn "is_name" _ (by rfl)) C.gd C.rm C.tk (by rfl) (a_cons (r_ix (r_v (i := 0) (by rfl)) r_int) a_nil)))
    ss_nil) ss_nil)
    (ss_cons (s_if (t_e (r_call (C.kn "is_word_of" _ (by rfl)) C.gd C.rm C.tk (by rfl) (a_cons (r_v (i := 0) (by rfl)) (a_cons r_str (a_cons r_int a_nil))))) (ss_cons (s_ret (r_call (C.kn "is_number" _ (by rfl)) C.gd C.rm C.tk (by rfl) (a_cons (r_ix (r_v (i := 0) (by rfl)) r_int) (a_cons r_int (a_cons r_int a_nil)))))
    ss_nil) ss_nil)
    (ss_cons (s_ret (r_and (r_call (C.kn "is_word_of" _ (by rfl)) C.gd C.rm C.tk (by rfl) (a_cons (r_v (i := 0) (by rfl)) (a_cons r_str (a_cons r_int a_nil)))) (r_and (r_call (C.kn "is_name" _ (by rfl)) C.gd C.rm C.tk (by rfl) (a_cons (r_ix (r_v (i := 0) (by rfl)) r_int) a_nil)) (r_one (r_call (C.kn "is_number" _ (by rfl)) C.gd C.rm C.tk (by rfl) (a_cons (r_ix (r_v (i := 0) (by rfl)) r_int) (a_cons r_int (a_cons r_int a_nil))))))))
    ss_nil)))
theorem sc_rows_of : FnScope ["thing"] ["thing"] (defScope p_rows_of) := ⟨rfl, rfl, rfl, by decide +kernel, rfl, by decide +kernel, by decide +kernel⟩
theorem d_rows_of (M : Mods K mg cs) (C : Cond (cxOf (L2.CX P w) P w K mg base ["thing"] "rows_of" (defScope p_rows_of) f cdv A outer s H E) ⟨sem T con k, con⟩ ⟨fa mg, vs, H⟩ Wx k T)
    (po : PassesOwn (model P w) (A.deeper (envOfC "rows_of" (defScope p_rows_of) s.heap.objs.size f cdv)) (envOfC "rows_of" (defScope p_rows_of) s.heap.objs.size f cdv) (cxOf (L2.CX P w) P w K mg base ["thing"] "rows_of" (defScope p_rows_of) f cdv A outer s H E).xe) :
    PSs (cxOf (L2.CX P w) P w K mg base ["thing"] "rows_of" (defScope p_rows_of) f cdv A outer s H E) (defBody p_rows_of) (tSs K ⟨sem T con k, con⟩ ⟨fa mg, vs, H⟩ Wx w_rows_of.body) :=
  (ss_cons (s_if (t_or (t_e (r_call (C.kn "is_deed" _ (by rfl)) C.gd C.rm C.tk (by rfl) (a_cons (r_v (i := 0) (by rfl)) a_nil))) (t_or1 (t_and (t_e (r_call (C.kn "is_word_of" _ (by rfl)) C.gd C.rm C.tk (by rfl) (a_cons (r_v (i := 0) (by rfl)) (a_cons r_str (a_cons r_int a_nil))))) (t_and1 (t_e (r_call (C.kn "is_name" _ (by rfl)) C.gd C.rm C.tk (by rfl) (a_cons (r_ix (r_v (i := 0) (by rfl)) r_int) a_nil))))).pt)).pt (ss_cons (s_ret (r_lst d_nil))
    ss_nil) ss_nil)
    (ss_cons (s_if (t_and (t_e (r_call (C.kn "is_word_of" _ (by rfl)) C.gd C.rm C.tk (by rfl) (a_cons (r_v (i := 0) (by rfl)) (a_cons r_str (a_cons r_int a_nil))))) (t_and (t_e (r_isi .tuple (by rfl) M.b_isinstance (by rfl) M.b_tuple (by rfl) (r_ix (r_v (i := 0) (by rfl)) r_int))) (t_and1 (t_chain C.hu .le .le r_int (r_len (by rfl) M.b_len (a_cons (r_ix (r_v (i := 0) (by rfl)) r_int) a_nil)) r_int)))).pt (ss_cons (s_ret (r_list1 (by rfl) M.b_list (a_cons (r_ix (r_v (i := 0) (by rfl)) r_int) a_nil)))
    ss_nil) ss_nil)
    (ss_cons (s_if (t_and (t_e (r_call (C.kn "is_word_of" _ (by rfl)) C.gd C.rm C.tk (by rfl) (a_cons (r_v (i := 0) (by rfl)) (a_cons r_str (a_cons r_int a_nil))))) (t_and (t_e (r_call (C.kn "is_number" _ (by rfl)) C.gd C.rm C.tk (by rfl) (a_cons (r_ix (r_v (i := 0) (by rfl)) r_int) (a_cons r_int (a_cons r_int a_nil))))) (t_and1 (t_e (r_call (C.kn "is_number" _ (by rfl)) C.gd C.rm C.tk (by rfl) (a_cons (r_ix (r_v (i := 0) (by rfl)) r_int) (a_cons r_int (a_cons r_int a_nil)))))))).pt (ss_cons (s_ret (r_ife (t_cmp C.hu .le (r_ix (r_v (i := 0) (by rfl)) r_int) (r_ix (r_v (i := 0) (by rfl)) r_int)) (r_lst (d_cons (r_ix (r_v (i := 0) (by rfl)) r_int) d_nil)) r_none))
    ss_nil) ss_nil)
    (ss_cons (s_ret r_none)
    ss_nil))))
theorem sc_measured : FnScope ["thing", "left", "many", "far", "row", "level", "word", "inner", "one"] ["thing"] (defScope p_measured) := ⟨rfl, rfl, rfl, by decide +kernel, rfl, by decide +kernel, by decide +kernel⟩
theorem d_measured (M : Mods K mg cs) (C : Cond (cxOf (L2.CX P w) P w K mg base ["thing", "left", "many", "far", "row", "level", "word", "inner", "one"] "measured" (defScope p_measured) f cdv A outer s H E) ⟨sem T con k, con⟩ ⟨fa mg, vs, H⟩ Wx k T)
    (po : PassesOwn (model P w) (A.deeper (envOfC "measured" (defScope p_measured) s.heap.objs.size f cdv)) (envOfC "measured" (defScope p_measured) s.heap.objs.size f cdv) (cxOf (L2.CX P w) P w K mg base ["thing", "left", "many", "far", "row", "level", "word", "inner", "one"] "measured" (defScope p_measured) f cdv A outer s H E).xe) :
    PSs (cxOf (L2.CX P w) P w K mg base ["thing", "left", "many", "far", "row", "level", "word", "inner", "one"] "measured" (defScope p_measured) f cdv A outer s H E) (defBody p_measured) (tSs K ⟨sem T con k, con⟩ ⟨fa mg, vs, H⟩ Wx w_measured.body) :=
  (ss_cons (s_set (i := 1) sc_measured.nd rfl (by first | exact Or.inl rfl | exact Or.inr rfl) (r_lst (d_cons (r_tup (d_cons (r_v (i := 0) (by rfl)) (d_cons r_int d_nil))) d_nil)))
    (ss_cons (s_setT (r_tup (d_cons r_int (d_cons r_int d_nil))) (g_tup rfl (g_cons (g_v (i := 2) sc_measured.nd rfl (by first | exact Or.inl rfl | exact Or.inr rfl)) (g_cons (g_v (i := 3) sc_measured.nd rfl (by first | exact Or.inl rfl | exact Or.inr rfl)) g_nil))))
    (ss_cons (s_while po (t_cmp C.hu .ne (r_v (i := 1) (by rfl)) (r_lst d_nil)) (ss_cons (s_setT (r_pop (r_v (i := 1) (by rfl))) (g_tup rfl (g_cons (g_v (i := 4) sc_measured.nd rfl (by first | exact Or.inl rfl | exact Or.inr rfl)) (g_cons (g_v (i := 5) sc_measured.nd rfl (by first | exact Or.inl rfl | exact Or.inr rfl)) g_nil))))
    (ss_cons (s_if (t_or (t_not (t_e (r_isi .tuple (by rfl) M.b_isinstance (by rfl) M.b_tuple (by rfl) (r_v (i := 4) (by rfl))))) (t_or (t_cmp C.hu .gt (r_v (i := 5) (by rfl)) (M.g_MOST_DEEP (by rfl) (by rfl) (by rfl) (by rfl))) (t_or1 (t_cmp C.hu .gt (r_bin .add (r_v (i := 2) (by rfl)) (r_len (by rfl) M.b_len (a_cons (r_v (i := 4) (by rfl)) a_nil))) (M.g_MOST_WORDS (by rfl) (by rfl) (by rfl) (by rfl)))))).pt (ss_cons (s_ret r_none)
    ss_nil) ss_nil)
    (ss_cons (s_aug .add (i := 2) sc_measured.nd rfl (by first | exact Or.inl rfl | exact Or.inr rfl) (r_len (by rfl) M.b_len (a_cons (r_v (i := 4) (by rfl)) a_nil)))
    (ss_cons (s_set (i := 3) sc_measured.nd rfl (by first | exact Or.inl rfl | exact Or.inr rfl) (r_max2 (by rfl) (by rfl) M.b_max (a_cons (r_v (i := 3) (by rfl)) (a_cons (r_v (i := 5) (by rfl)) a_nil))))
    (ss_cons (s_for po rfl (i_seq (r_v (i := 4) (by rfl))) (g_v (i := 6) sc_measured.nd rfl (by first | exact Or.inl rfl | exact Or.inr rfl)) (ss_cons (s_set (i := 7) sc_measured.nd rfl (by first | exact Or.inl rfl | exact Or.inr rfl) (r_call (C.kn "rows_of" _ (by rfl)) C.gd C.rm C.tk (by rfl) (a_cons (r_v (i := 6) (by rfl)) a_nil)))
    (ss_cons (s_if (t_isN (r_v (i := 7) (by rfl))) (ss_cons (s_ret r_none)
    ss_nil) ss_nil)
    (ss_cons (s_set (i := 1) sc_measured.nd rfl (by first | exact Or.inl rfl | exact Or.inr rfl) (r_bin .add (r_v (i := 1) (by rfl)) (r_lc (own := [("one", 8)]) (by rfl) sc_measured.nd (i_seq (r_v (i := 7) (by rfl))) (blkOk_by (by rfl)) (fun _ _ _ _ _ => (g_v (i := 8) sc_measured.nd rfl (by first | exact Or.inl rfl | exact Or.inr rfl))) (fun _ _ _ _ _ => c_no) (fun _ _ _ _ _ => (r_tup (d_cons (r_v (i := 8) (by rfl)) (d_cons (r_bin .add (r_v (i := 5) (by rfl)) r_int) d_nil)))) (by decide))))
    ss_nil))))
    ss_nil))))))
    (ss_cons (s_ret (r_tup (d_cons (r_v (i := 2) (by rfl)) (d_cons (r_v (i := 3) (by rfl)) d_nil))))
    ss_nil))))
theorem sc_is_row : FnScope ["thing"] ["thing"] (defScope p_is_row) := ⟨rfl, rfl, rfl, by decide +kernel, rfl, by decide +kernel, by decide +kernel⟩
theorem d_is_row (M : Mods K mg cs) (C : Cond (cxOf (L2.CX P w) P w K mg base ["thing"] "is_row" (defScope p_is_row) f cdv A outer s H E) ⟨sem T con k, con⟩ ⟨fa mg, vs, H⟩ Wx k T)
    (po : PassesOwn (model P w) (A.deeper (envOfC "is_row" (defScope p_is_row) s.heap.objs.size f cdv)) (envOfC "is_row" (defScope p_is_row) s.heap.objs.size f cdv) (cxOf (L2.CX P w) P w K mg base ["thing"] "is_row" (defScope p_is_row) f cdv A outer s H E).xe) :
    PSs (cxOf (L2.CX P w) P w K mg base ["thing"] "is_row" (defScope p_is_row) f cdv A outer s H E) (defBody p_is_row) (tSs K ⟨sem T con k, con⟩ ⟨fa mg, vs, H⟩ Wx w_is_row.body) :=
  (ss_cons (s_ret (r_notN (r_call (C.kn "measured" _ (by rfl)) C.gd C.rm C.tk (by rfl) (a_cons (r_v (i := 0) (by rfl)) a_nil))))
    ss_nil)
theorem sc_need_measured : FnScope ["row", "found"] ["row"] (defScope p_need_measured) := ⟨rfl, rfl, rfl, by decide +kernel, rfl, by decide +kernel, by decide +kernel⟩
theorem d_need_measured (M : Mods K mg cs) (C : Cond (cxOf (L2.CX P w) P w K mg base ["row", "found"] "need_measured" (defScope p_need_measured) f cdv A outer s H E) ⟨sem T con k, con⟩ ⟨fa mg, vs, H⟩ Wx k T)
    (po : PassesOwn (model P w) (A.deeper (envOfC "need_measured" (defScope p_need_measured) s.heap.objs.size f cdv)) (envOfC "need_measured" (defScope p_need_measured) s.heap.objs.size f cdv) (cxOf (L2.CX P w) P w K mg base ["row", "found"] "need_measured" (defScope p_need_measured) f cdv A outer s H E).xe) :
    PSs (cxOf (L2.CX P w) P w K mg base ["row", "found"] "need_measured" (defScope p_need_measured) f cdv A outer s H E) (defBody p_need_measured) (tSs K ⟨sem T con k, con⟩ ⟨fa mg, vs, H⟩ Wx w_need_measured.body) :=
  (ss_cons (s_set (i := 1) sc_need_measured.nd rfl (by first | exact Or.inl rfl | exact Or.inr rfl) (r_call (C.kn "measured" _ (by rfl)) C.gd C.rm C.tk (by rfl) (a_cons (r_v (i := 0) (by rfl)) a_nil)))
    (ss_cons (s_if (t_isN (r_v (i := 1) (by rfl))) (ss_cons (s_rais rfl C.tk M.xs M.x_NoProgram (by decide) M.r_NoProgram (by rfl))
    ss_nil) ss_nil)
    (ss_cons (s_ret (r_v (i := 1) (by rfl)))
    ss_nil)))
theorem sc_words_in : FnScope ["row"] ["row"] (defScope p_words_in) := ⟨rfl, rfl, rfl, by decide +kernel, rfl, by decide +kernel, by decide +kernel⟩
theorem d_words_in (M : Mods K mg cs) (C : Cond (cxOf (L2.CX P w) P w K mg base ["row"] "words_in" (defScope p_words_in) f cdv A outer s H E) ⟨sem T con k, con⟩ ⟨fa mg, vs, H⟩ Wx k T)
    (po : PassesOwn (model P w) (A.deeper (envOfC "words_in" (defScope p_words_in) s.heap.objs.size f cdv)) (envOfC "words_in" (defScope p_words_in) s.heap.objs.size f cdv) (cxOf (L2.CX P w) P w K mg base ["row"] "words_in" (defScope p_words_in) f cdv A outer s H E).xe) :
    PSs (cxOf (L2.CX P w) P w K mg base ["row"] "words_in" (defScope p_words_in) f cdv A outer s H E) (defBody p_words_in) (tSs K ⟨sem T con k, con⟩ ⟨fa mg, vs, H⟩ Wx w_words_in.body) :=
  (ss_cons (s_ret (r_ix (r_call (C.kn "need_measured" _ (by rfl)) C.gd C.rm C.tk (by rfl) (a_cons (r_v (i := 0) (by rfl)) a_nil)) r_int))
    ss_nil)
theorem sc_deep : FnScope ["row"] ["row"] (defScope p_deep) := ⟨rfl, rfl, rfl, by decide +kernel, rfl, by decide +kernel, by decide +kernel⟩
theorem d_deep (M : Mods K mg cs) (C : Cond (cxOf (L2.CX P w) P w K mg base ["row"] "deep" (defScope p_deep) f cdv A outer s H E) ⟨sem T con k, con⟩ ⟨fa mg, vs, H⟩ Wx k T)
    (po : PassesOwn (model P w) (A.deeper (envOfC "deep" (defScope p_deep) s.heap.objs.size f cdv)) (envOfC "deep" (defScope p_deep) s.heap.objs.size f cdv) (cxOf (L2.CX P w) P w K mg base ["row"] "deep" (defScope p_deep) f cdv A outer s H E).xe) :
    PSs (cxOf (L2.CX P w) P w K mg base ["row"] "deep" (defScope p_deep) f cdv A outer s H E) (defBody p_deep) (tSs K ⟨sem T con k, con⟩ ⟨fa mg, vs, H⟩ Wx w_deep.body) :=
  (ss_cons (s_ret (r_ix (r_call (C.kn "need_measured" _ (by rfl)) C.gd C.rm C.tk (by rfl) (a_cons (r_v (i := 0) (by rfl)) a_nil)) r_int))
    ss_nil)
theorem sc__law_state : FnScope ["_law_script", "_law_k", "_law_cell", "_law_found", "_law_j", "_law_one"] ["_law_script", "_law_k"] (defScope p__law_state) := ⟨rfl, rfl, rfl, by decide +kernel, rfl, by decide +kernel, by decide +kernel⟩
theorem d__law_state (M : Mods K mg cs) (C : Cond (cxOf (L2.CX P w) P w K mg base ["_law_script", "_law_k", "_law_cell", "_law_found", "_law_j", "_law_one"] "_law_state" (defScope p__law_state) f cdv A outer s H E) ⟨sem T con k, con⟩ ⟨fa mg, vs, H⟩ Wx k T)
    (po : PassesOwn (model P w) (A.deeper (envOfC "_law_state" (defScope p__law_state) s.heap.objs.size f cdv)) (envOfC "_law_state" (defScope p__law_state) s.heap.objs.size f cdv) (cxOf (L2.CX P w) P w K mg base ["_law_script", "_law_k", "_law_cell", "_law_found", "_law_j", "_law_one"] "_law_state" (defScope p__law_state) f cdv A outer s H E).xe) :
    PSs (cxOf (L2.CX P w) P w K mg base ["_law_script", "_law_k", "_law_cell", "_law_found", "_law_j", "_law_one"] "_law_state" (defScope p__law_state) f cdv A outer s H E) (defBody p__law_state) (tSs K ⟨sem T con k, con⟩ ⟨fa mg, vs, H⟩ Wx w__law_state.body) :=
  (ss_cons (s_set (i := 2) sc__law_state.nd rfl (by first | exact Or.inl rfl | exact Or.inr rfl) (r_ife (t_cmp C.hu .lt (r_v (i := 1) (by rfl)) (r_zlen (i := 0) (by rfl) M.b_len (by rfl))) (r_abs (by rfl) M.b_abs (a_cons (r_zix (i := 0) (by rfl) (r_v (i := 1) (by rfl))) a_nil)) r_int))
    (ss_cons (s_if (t_cmp C.hu .ge (r_v (i := 2) (by rfl)) (r_bin .pow r_int r_int)) (ss_cons (s_ret (r_lst (d_cons (r_bin .sub (r_v (i := 2) (by rfl)) (r_bin .pow r_int r_int)) d_nil)))
    ss_nil) ss_nil)
    (ss_cons (s_set (i := 3) sc__law_state.nd rfl (by first | exact Or.inl rfl | exact Or.inr rfl) r_int)
    (ss_cons (s_for po rfl (i_rng1 (by rfl) M.b_range r_int) (g_v (i := 4) sc__law_state.nd rfl (by first | exact Or.inl rfl | exact Or.inr rfl)) (ss_cons (s_set (i := 5) sc__law_state.nd rfl (by first | exact Or.inl rfl | exact Or.inr rfl) (r_bin .mod (r_bin .mul (r_bin .add (r_v (i := 2) (by rfl)) (r_bin .mul r_int (r_bin .add (r_bin .add (r_bin .mul r_int (r_v (i := 1) (by rfl))) (r_v (i := 4) (by rfl))) r_int))) r_int) r_int))
    (ss_cons (s_set (i := 3) sc__law_state.nd rfl (by first | exact Or.inl rfl | exact Or.inr rfl) (r_bin .add (r_bin .mul (r_v (i := 3) (by rfl)) r_int) (r_bin .mod (r_bin .mul (r_v (i := 5) (by rfl)) (r_bin .add (r_bin .add (r_v (i := 5) (by rfl)) (r_bin .mul r_int (r_v (i := 4) (by rfl)))) r_int)) r_int)))
    ss_nil)))
    (ss_cons (s_ret (r_lst (d_cons (r_v (i := 3) (by rfl)) d_nil)))
    ss_nil)))))
theorem sc__law_next : FnScope ["_law_state_here", "_law_amount", "_law_found"] ["_law_state_here", "_law_amount"] (defScope p__law_next) := ⟨rfl, rfl, rfl, by decide +kernel, rfl, by decide +kernel, by decide +kernel⟩
theorem d__law_next (M : Mods K mg cs) (C : Cond (cxOf (L2.CX P w) P w K mg base ["_law_state_here", "_law_amount", "_law_found"] "_law_next" (defScope p__law_next) f cdv A outer s H E) ⟨sem T con k, con⟩ ⟨fa mg, vs, H⟩ Wx k T)
    (po : PassesOwn (model P w) (A.deeper (envOfC "_law_next" (defScope p__law_next) s.heap.objs.size f cdv)) (envOfC "_law_next" (defScope p__law_next) s.heap.objs.size f cdv) (cxOf (L2.CX P w) P w K mg base ["_law_state_here", "_law_amount", "_law_found"] "_law_next" (defScope p__law_next) f cdv A outer s H E).xe) :
    PSs (cxOf (L2.CX P w) P w K mg base ["_law_state_here", "_law_amount", "_law_found"] "_law_next" (defScope p__law_next) f cdv A outer s H E) (defBody p__law_next) (tSs K ⟨sem T con k, con⟩ ⟨fa mg, vs, H⟩ Wx w__law_next.body) :=
  (ss_cons (s_set (i := 2) sc__law_next.nd rfl (by first | exact Or.inl rfl | exact Or.inr rfl) (r_bin .mod (r_ix (r_v (i := 0) (by rfl)) r_int) (r_v (i := 1) (by rfl))))
    (ss_cons (s_put (r_v (i := 0) (by rfl)) r_int (r_bin .fdiv (r_ix (r_v (i := 0) (by rfl)) r_int) (r_v (i := 1) (by rfl))))
    (ss_cons (s_ret (r_v (i := 2) (by rfl)))
    ss_nil)))
theorem sc__law_pick : FnScope ["_law_state_here", "_law_some"] ["_law_state_here", "_law_some"] (defScope p__law_pick) := ⟨rfl, rfl, rfl, by decide +kernel, rfl, by decide +kernel, by decide +kernel⟩
theorem d__law_pick (M : Mods K mg cs) (C : Cond (cxOf (L2.CX P w) P w K mg base ["_law_state_here", "_law_some"] "_law_pick" (defScope p__law_pick) f cdv A outer s H E) ⟨sem T con k, con⟩ ⟨fa mg, vs, H⟩ Wx k T)
    (po : PassesOwn (model P w) (A.deeper (envOfC "_law_pick" (defScope p__law_pick) s.heap.objs.size f cdv)) (envOfC "_law_pick" (defScope p__law_pick) s.heap.objs.size f cdv) (cxOf (L2.CX P w) P w K mg base ["_law_state_here", "_law_some"] "_law_pick" (defScope p__law_pick) f cdv A outer s H E).xe) :
    PSs (cxOf (L2.CX P w) P w K mg base ["_law_state_here", "_law_some"] "_law_pick" (defScope p__law_pick) f cdv A outer s H E) (defBody p__law_pick) (tSs K ⟨sem T con k, con⟩ ⟨fa mg, vs, H⟩ Wx w__law_pick.body) :=
  (ss_cons (s_ret (r_ix (r_v (i := 1) (by rfl)) (r_call (C.kn "_law_next" _ (by rfl)) C.gd C.rm C.tk (by rfl) (a_cons (r_v (i := 0) (by rfl)) (a_cons (r_len (by rfl) M.b_len (a_cons (r_v (i := 1) (by rfl)) a_nil)) a_nil)))))
    ss_nil)
theorem sc__law_kept : FnScope [] [] (defScope p__law_kept) := ⟨rfl, rfl, rfl, by decide +kernel, rfl, by decide +kernel, by decide +kernel⟩
theorem d__law_kept (M : Mods K mg cs) (C : Cond (cxOf (L2.CX P w) P w K mg base [] "_law_kept" (defScope p__law_kept) f cdv A outer s H E) ⟨sem T con k, con⟩ ⟨fa mg, vs, H⟩ Wx k T)
    (po : PassesOwn (model P w) (A.deeper (envOfC "_law_kept" (defScope p__law_kept) s.heap.objs.size f cdv)) (envOfC "_law_kept" (defScope p__law_kept) s.heap.objs.size f cdv) (cxOf (L2.CX P w) P w K mg base [] "_law_kept" (defScope p__law_kept) f cdv A outer s H E).xe) :
    PSs (cxOf (L2.CX P w) P w K mg base [] "_law_kept" (defScope p__law_kept) f cdv A outer s H E) (defBody p__law_kept) (tSs K ⟨sem T con k, con⟩ ⟨fa mg, vs, H⟩ Wx w__law_kept.body) :=
  (ss_cons (s_ret (r_lst (d_cons r_str (d_cons r_str (d_cons r_str (d_cons r_str (d_cons r_str (d_cons r_str (d_cons r_str (d_cons r_str (d_cons r_str (d_cons r_str d_nil))))))))))))
    ss_nil)
theorem sc__law_name : FnScope ["_law_state_here", "_law_letters", "_law_found", "_law_close", "_law_way", "_law_k"] ["_law_state_here"] (defScope p__law_name) := ⟨rfl, rfl, rfl, by decide +kernel, rfl, by decide +kernel, by decide +kernel⟩
theorem d__law_name (M : Mods K mg cs) (C : Cond (cxOf (L2.CX P w) P w K mg base ["_law_state_here", "_law_letters", "_law_found", "_law_close", "_law_way", "_law_k"] "_law_name" (defScope p__law_name) f cdv A outer s H E) ⟨sem T con k, con⟩ ⟨fa mg, vs, H⟩ Wx k T)
    (po : PassesOwn (model P w) (A.deeper (envOfC "_law_name" (defScope p__law_name) s.heap.objs.size f cdv)) (envOfC "_law_name" (defScope p__law_name) s.heap.objs.size f cdv) (cxOf (L2.CX P w) P w K mg base ["_law_state_here", "_law_letters", "_law_found", "_law_close", "_law_way", "_law_k"] "_law_name" (defScope p__law_name) f cdv A outer s H E).xe) :
    PSs (cxOf (L2.CX P w) P w K mg base ["_law_state_here", "_law_letters", "_law_found", "_law_close", "_law_way", "_law_k"] "_law_name" (defScope p__law_name) f cdv A outer s H E) (defBody p__law_name) (tSs K ⟨sem T con k, con⟩ ⟨fa mg, vs, H⟩ Wx w__law_name.body) :=
  (ss_cons (s_set (i := 1) sc__law_name.nd rfl (by first | exact Or.inl rfl | exact Or.inr rfl) r_str)
    (ss_cons (s_set (i := 2) sc__law_name.nd rfl (by first | exact Or.inl rfl | exact Or.inr rfl) (r_join r_str (r_lc (own := [("_law_k", 5)]) (by rfl) sc__law_name.nd (i_rng1 (by rfl) M.b_range (r_bin .add r_int (r_call (C.kn "_law_next" _ (by rfl)) C.gd C.rm C.tk (by rfl) (a_cons (r_v (i := 0) (by rfl)) (a_cons r_int a_nil))))) (blkOk_by (by rfl)) (fun _ _ _ _ _ => (g_v (i := 5) sc__law_name.nd rfl (by first | exact Or.inl rfl | exact Or.inr rfl))) (fun _ _ _ _ _ => c_no) (fun _ _ _ _ _ => (r_ix (r_v (i := 1) (by rfl)) (r_call ((C.blk _ _ _ _ _).kn "_law_next" _ (by rfl)) (C.blk _ _ _ _ _).gd (C.blk _ _ _ _ _).rm (takes_blk rfl) (by rfl) (a_cons (r_v (i := 0) (by rfl)) (a_cons r_int a_nil))))) (by decide))))
    (ss_cons (s_set (i := 3) sc__law_name.nd rfl (by first | exact Or.inl rfl | exact Or.inr rfl) (r_call (C.kn "_law_pick" _ (by rfl)) C.gd C.rm C.tk (by rfl) (a_cons (r_v (i := 0) (by rfl)) (a_cons (r_call0 (C.kn "_law_kept" _ (by rfl)) C.gd C.rm C.tk (by rfl)) a_nil))))
    (ss_cons (s_set (i := 4) sc__law_name.nd rfl (by first | exact Or.inl rfl | exact Or.inr rfl) (r_call (C.kn "_law_next" _ (by rfl)) C.gd C.rm C.tk (by rfl) (a_cons (r_v (i := 0) (by rfl)) (a_cons r_int a_nil))))
    (ss_cons (s_if (t_cmp C.hu .lt (r_v (i := 4) (by rfl)) r_int) (ss_cons (s_set (i := 2) sc__law_name.nd rfl (by first | exact Or.inl rfl | exact Or.inr rfl) (r_sl (r_ix (r_lst (d_cons (r_sl (r_v (i := 3) (by rfl)) o_no (o_so (r_neg r_int))) (d_cons (r_bin .add (r_v (i := 3) (by rfl)) (r_sl (r_v (i := 2) (by rfl)) o_no (o_so r_int))) (d_cons (r_rv (r_v (i := 3) (by rfl))) d_nil)))) (r_v (i := 4) (by rfl))) o_no (o_so r_int)))
    ss_nil) ss_nil)
    (ss_cons (s_ret (r_ife (t_cmp C.hu .notin (r_v (i := 2) (by rfl)) (r_call0 (C.kn "_law_kept" _ (by rfl)) C.gd C.rm C.tk (by rfl))) (r_v (i := 2) (by rfl)) (r_bin .add r_str (r_sl (r_v (i := 2) (by rfl)) o_no (o_so r_int)))))
    ss_nil))))))
theorem sc__law_is_name : FnScope ["_law_thing", "_law_sign"] ["_law_thing"] (defScope p__law_is_name) := ⟨rfl, rfl, rfl, by decide +kernel, rfl, by decide +kernel, by decide +kernel⟩
theorem d__law_is_name (M : Mods K mg cs) (C : Cond (cxOf (L2.CX P w) P w K mg base ["_law_thing", "_law_sign"] "_law_is_name" (defScope p__law_is_name) f cdv A outer s H E) ⟨sem T con k, con⟩ ⟨fa mg, vs, H⟩ Wx k T)
    (po : PassesOwn (model P w) (A.deeper (envOfC "_law_is_name" (defScope p__law_is_name) s.heap.objs.size f cdv)) (envOfC "_law_is_name" (defScope p__law_is_name) s.heap.objs.size f cdv) (cxOf (L2.CX P w) P w K mg base ["_law_thing", "_law_sign"] "_law_is_name" (defScope p__law_is_name) f cdv A outer s H E).xe) :
    PSs (cxOf (L2.CX P w) P w K mg base ["_law_thing", "_law_sign"] "_law_is_name" (defScope p__law_is_name) f cdv A outer s H E) (defBody p__law_is_name) (tSs K ⟨sem T con k, con⟩ ⟨fa mg, vs, H⟩ Wx w__law_is_name.body) :=
  (ss_cons (s_if (t_or (t_not (t_e (r_isi .str (by rfl) M.b_isinstance (by rfl) M.b_str (by rfl) (r_v (i := 0) (by rfl))))) (t_or (t_cmp C.hu .eq (r_len (by rfl) M.b_len (a_cons (r_v (i := 0) (by rfl)) a_nil)) r_int) (t_or (t_cmp C.hu .gt (r_len (by rfl) M.b_len (a_cons (r_v (i := 0) (by rfl)) a_nil)) r_int) (t_or1 (t_cmp C.hu .inn (r_v (i := 0) (by rfl)) (r_call0 (C.kn "_law_kept" _ (by rfl)) C.gd C.rm C.tk (by rfl))))))).pt (ss_cons (s_ret r_bool)
    ss_nil) ss_nil)
    (ss_cons (s_ret (r_cmp C.hu .eq (r_lc (own := [("_law_sign", 1)]) (by rfl) sc__law_is_name.nd (i_str (r_v (i := 0) (by rfl))) (blkOk_by (by rfl)) (fun _ _ _ _ _ => (g_v (i := 1) sc__law_is_name.nd rfl (by first | exact Or.inl rfl | exact Or.inr rfl))) (fun _ _ _ _ _ => (c_so (t_cmp (C.blk _ _ _ _ _).hu .notin (r_v (i := 1) (by rfl)) r_str))) (fun _ _ _ _ _ => (r_v (i := 1) (by rfl))) (by decide)) (r_lst d_nil)))
    ss_nil))
theorem sc__law_deed : FnScope ["_law_state_here", "_law_names", "_law_way"] ["_law_state_here", "_law_names"] (defScope p__law_deed) := ⟨rfl, rfl, rfl, by decide +kernel, rfl, by decide +kernel, by decide +kernel⟩
theorem d__law_deed (M : Mods K mg cs) (C : Cond (cxOf (L2.CX P w) P w K mg base ["_law_state_here", "_law_names", "_law_way"] "_law_deed" (defScope p__law_deed) f cdv A outer s H E) ⟨sem T con k, con⟩ ⟨fa mg, vs, H⟩ Wx k T)
    (po : PassesOwn (model P w) (A.deeper (envOfC "_law_deed" (defScope p__law_deed) s.heap.objs.size f cdv)) (envOfC "_law_deed" (defScope p__law_deed) s.heap.objs.size f cdv) (cxOf (L2.CX P w) P w K mg base ["_law_state_here", "_law_names", "_law_way"] "_law_deed" (defScope p__law_deed) f cdv A outer s H E).xe) :
    PSs (cxOf (L2.CX P w) P w K mg base ["_law_state_here", "_law_names", "_law_way"] "_law_deed" (defScope p__law_deed) f cdv A outer s H E) (defBody p__law_deed) (tSs K ⟨sem T con k, con⟩ ⟨fa mg, vs, H⟩ Wx w__law_deed.body) :=
  (ss_cons (s_set (i := 2) sc__law_deed.nd rfl (by first | exact Or.inl rfl | exact Or.inr rfl) (r_call (C.kn "_law_next" _ (by rfl)) C.gd C.rm C.tk (by rfl) (a_cons (r_v (i := 0) (by rfl)) (a_cons r_int a_nil))))
    (ss_cons (s_if (t_cmp C.hu .eq (r_v (i := 2) (by rfl)) r_int) (ss_cons (s_ret (r_tup (d_cons r_str (d_cons (r_call (C.kn "_law_pick" _ (by rfl)) C.gd C.rm C.tk (by rfl) (a_cons (r_v (i := 0) (by rfl)) (a_cons (r_v (i := 1) (by rfl)) a_nil))) d_nil))))
    ss_nil) ss_nil)
    (ss_cons (s_if (t_cmp C.hu .eq (r_v (i := 2) (by rfl)) r_int) (ss_cons (s_ret (r_tup (d_cons r_str (d_cons (r_call (C.kn "_law_pick" _ (by rfl)) C.gd C.rm C.tk (by rfl) (a_cons (r_v (i := 0) (by rfl)) (a_cons (r_lst (d_cons r_int (d_cons r_int (d_cons r_int (d_cons r_int (d_cons (r_call (C.kn "_law_next" _ (by rfl)) C.gd C.rm C.tk (by rfl) (a_cons (r_v (i := 0) (by rfl)) (a_cons r_int a_nil))) d_nil)))))) a_nil))) d_nil))))
    ss_nil) ss_nil)
    (ss_cons (s_ret (r_tup (d_cons r_str (d_cons (r_call (C.kn "_law_pick" _ (by rfl)) C.gd C.rm C.tk (by rfl) (a_cons (r_v (i := 0) (by rfl)) (a_cons (r_v (i := 1) (by rfl)) a_nil))) (d_cons (r_call (C.kn "_law_next" _ (by rfl)) C.gd C.rm C.tk (by rfl) (a_cons (r_v (i := 0) (by rfl)) (a_cons r_int a_nil))) d_nil)))))
    ss_nil))))
theorem sc__law_is_number : FnScope ["_law_thing", "_law_least", "_law_most"] ["_law_thing", "_law_least", "_law_most"] (defScope p__law_is_number) := ⟨rfl, rfl, rfl, by decide +kernel, rfl, by decide +kernel, by decide +kernel⟩
theorem d__law_is_number (M : Mods K mg cs) (C : Cond (cxOf (L2.CX P w) P w K mg base ["_law_thing", "_law_least", "_law_most"] "_law_is_number" (defScope p__law_is_number) f cdv A outer s H E) ⟨sem T con k, con⟩ ⟨fa mg, vs, H⟩ Wx k T)
    (po : PassesOwn (model P w) (A.deeper (envOfC "_law_is_number" (defScope p__law_is_number) s.heap.objs.size f cdv)) (envOfC "_law_is_number" (defScope p__law_is_number) s.heap.objs.size f cdv) (cxOf (L2.CX P w) P w K mg base ["_law_thing", "_law_least", "_law_most"] "_law_is_number" (defScope p__law_is_number) f cdv A outer s H E).xe) :
    PSs (cxOf (L2.CX P w) P w K mg base ["_law_thing", "_law_least", "_law_most"] "_law_is_number" (defScope p__law_is_number) f cdv A outer s H E) (defBody p__law_is_number) (tSs K ⟨sem T con k, con⟩ ⟨fa mg, vs, H⟩ Wx w__law_is_number.body) :=
  (ss_cons (s_ret (r_and (r_isi .int (by rfl) M.b_isinstance (by rfl) M.b_int (by rfl) (r_v (i := 0) (by rfl))) (r_and (r_not (r_isi .bool (by rfl) M.b_isinstance (by rfl) M.b_bool (by rfl) (r_v (i := 0) (by rfl)))) (r_one (r_chain C.hu .le .le (r_v (i := 1) (by rfl)) (r_v (i := 0) (by rfl)) (r_v (i := 2) (by rfl)))))))
    ss_nil)
theorem sc__law_is_of : FnScope ["_law_thing", "_law_word", "_law_amount"] ["_law_thing", "_law_word", "_law_amount"] (defScope p__law_is_of) := ⟨rfl, rfl, rfl, by decide +kernel, rfl, by decide +kernel, by decide +kernel⟩
theorem d__law_is_of (M : Mods K mg cs) (C : Cond (cxOf (L2.CX P w) P w K mg base ["_law_thing", "_law_word", "_law_amount"] "_law_is_of" (defScope p__law_is_of) f cdv A outer s H E) ⟨sem T con k, con⟩ ⟨fa mg, vs, H⟩ Wx k T)
    (po : PassesOwn (model P w) (A.deeper (envOfC "_law_is_of" (defScope p__law_is_of) s.heap.objs.size f cdv)) (envOfC "_law_is_of" (defScope p__law_is_of) s.heap.objs.size f cdv) (cxOf (L2.CX P w) P w K mg base ["_law_thing", "_law_word", "_law_amount"] "_law_is_of" (defScope p__law_is_of) f cdv A outer s H E).xe) :
    PSs (cxOf (L2.CX P w) P w K mg base ["_law_thing", "_law_word", "_law_amount"] "_law_is_of" (defScope p__law_is_of) f cdv A outer s H E) (defBody p__law_is_of) (tSs K ⟨sem T con k, con⟩ ⟨fa mg, vs, H⟩ Wx w__law_is_of.body) :=
  (ss_cons (s_ret (r_and (r_isi .tuple (by rfl) M.b_isinstance (by rfl) M.b_tuple (by rfl) (r_v (i := 0) (by rfl))) (r_and (r_cmp C.hu .eq (r_len (by rfl) M.b_len (a_cons (r_v (i := 0) (by rfl)) a_nil)) (r_v (i := 2) (by rfl))) (r_and (r_isi .str (by rfl) M.b_isinstance (by rfl) M.b_str (by rfl) (r_ix (r_v (i := 0) (by rfl)) r_int)) (r_one (r_cmp C.hu .eq (r_ix (r_v (i := 0) (by rfl)) r_int) (r_v (i := 1) (by rfl))))))))
    ss_nil)
theorem sc__law_is_deed : FnScope ["_law_thing"] ["_law_thing"] (defScope p__law_is_deed) := ⟨rfl, rfl, rfl, by decide +kernel, rfl, by decide +kernel, by decide +kernel⟩
theorem d__law_is_deed (M : Mods K mg cs) (C : Cond (cxOf (L2.CX P w) P w K mg base ["_law_thing"] "_law_is_deed" (defScope p__law_is_deed) f cdv A outer s H E) ⟨sem T con k, con⟩ ⟨fa mg, vs, H⟩ Wx k T)
    (po : PassesOwn (model P w) (A.deeper (envOfC "_law_is_deed" (defScope p__law_is_deed) s.heap.objs.size f cdv)) (envOfC "_law_is_deed" (defScope p__law_is_deed) s.heap.objs.size f cdv) (cxOf (L2.CX P w) P w K mg base ["_law_thing"] "_law_is_deed" (defScope p__law_is_deed) f cdv A outer s H E).xe) :
    PSs (cxOf (L2.CX P w) P w K mg base ["_law_thing"] "_law_is_deed" (defScope p__law_is_deed) f cdv A outer s H E) (defBody p__law_is_deed) (tSs K ⟨sem T con k, con⟩ ⟨fa mg, vs, H⟩ Wx w__law_is_deed.body) :=
  (ss_cons (s_if (t_e (r_call (C.kn "_law_is_of" _ (by rfl)) C.gd C.rm C.tk (by rfl) (a_cons (r_v (i := 0) (by rfl)) (a_cons r_str (a_cons r_int a_nil))))) (ss_cons (s_ret (r_call (C.kn "_law_is_name" _ (by rfl)) C.gd C.rm C.tk (by rfl) (a_cons (r_ix (r_v (i := 0) (by rfl)) r_int) a_nil)))
    ss_nil) ss_nil)
    (ss_cons (s_if (t_e (r_call (C.kn "_law_is_of" _ (by rfl)) C.gd C.rm C.tk (by rfl) (a_cons (r_v (i := 0) (by rfl)) (a_cons r_str (a_cons r_int a_nil))))) (ss_cons (s_ret (r_call (C.kn "_law_is_number" _ (by rfl)) C.gd C.rm C.tk (by rfl) (a_cons (r_ix (r_v (i := 0) (by rfl)) r_int) (a_cons r_int (a_cons r_int a_nil)))))
    ss_nil) ss_nil)
    (ss_cons (s_ret (r_and (r_call (C.kn "_law_is_of" _ (by rfl)) C.gd C.rm C.tk (by rfl) (a_cons (r_v (i := 0) (by rfl)) (a_cons r_str (a_cons r_int a_nil)))) (r_and (r_call (C.kn "_law_is_name" _ (by rfl)) C.gd C.rm C.tk (by rfl) (a_cons (r_ix (r_v (i := 0) (by rfl)) r_int) a_nil)) (r_one (r_call (C.kn "_law_is_number" _ (by rfl)) C.gd C.rm C.tk (by rfl) (a_cons (r_ix (r_v (i := 0) (by rfl)) r_int) (a_cons r_int (a_cons r_int a_nil))))))))
    ss_nil)))
theorem sc__law_odd : FnScope ["_law_state_here", "_law_thing", "_law_some"] ["_law_state_here", "_law_thing"] (defScope p__law_odd) := ⟨rfl, rfl, rfl, by decide +kernel, rfl, by decide +kernel, by decide +kernel⟩
theorem d__law_odd (M : Mods K mg cs) (C : Cond (cxOf (L2.CX P w) P w K mg base ["_law_state_here", "_law_thing", "_law_some"] "_law_odd" (defScope p__law_odd) f cdv A outer s H E) ⟨sem T con k, con⟩ ⟨fa mg, vs, H⟩ Wx k T)
    (po : PassesOwn (model P w) (A.deeper (envOfC "_law_odd" (defScope p__law_odd) s.heap.objs.size f cdv)) (envOfC "_law_odd" (defScope p__law_odd) s.heap.objs.size f cdv) (cxOf (L2.CX P w) P w K mg base ["_law_state_here", "_law_thing", "_law_some"] "_law_odd" (defScope p__law_odd) f cdv A outer s H E).xe) :
    PSs (cxOf (L2.CX P w) P w K mg base ["_law_state_here", "_law_thing", "_law_some"] "_law_odd" (defScope p__law_odd) f cdv A outer s H E) (defBody p__law_odd) (tSs K ⟨sem T con k, con⟩ ⟨fa mg, vs, H⟩ Wx w__law_odd.body) :=
  (ss_cons (s_if (t_and (t_e (r_isi .int (by rfl) M.b_isinstance (by rfl) M.b_int (by rfl) (r_v (i := 1) (by rfl)))) (t_and1 (t_not (t_e (r_isi .bool (by rfl) M.b_isinstance (by rfl) M.b_bool (by rfl) (r_v (i := 1) (by rfl))))))).pt (ss_cons (s_set (i := 2) sc__law_odd.nd rfl (by first | exact Or.inl rfl | exact Or.inr rfl) (r_lst (d_cons (r_bin .add (r_v (i := 1) (by rfl)) r_int) (d_cons (r_bin .sub (r_v (i := 1) (by rfl)) r_int) (d_cons (r_neg r_int) (d_cons r_int (d_cons (r_bin .add (r_v (i := 1) (by rfl)) (r_bin .pow r_int r_int)) (d_cons r_bool (d_cons r_bool (d_cons r_none (d_cons (r_str1 (by rfl) M.b_str (a_cons (r_v (i := 1) (by rfl)) a_nil)) (d_cons (r_tup (d_cons (r_v (i := 1) (by rfl)) d_nil)) (d_cons (r_lst (d_cons (r_v (i := 1) (by rfl)) d_nil)) d_nil)))))))))))))
    (ss_cons (s_ret (r_call (C.kn "_law_pick" _ (by rfl)) C.gd C.rm C.tk (by rfl) (a_cons (r_v (i := 0) (by rfl)) (a_cons (r_v (i := 2) (by rfl)) a_nil))))
    ss_nil)) ss_nil)
    (ss_cons (s_if (t_e (r_isi .str (by rfl) M.b_isinstance (by rfl) M.b_str (by rfl) (r_v (i := 1) (by rfl)))) (ss_cons (s_set (i := 2) sc__law_odd.nd rfl (by first | exact Or.inl rfl | exact Or.inr rfl) (r_lst (d_cons (r_bin .add (r_v (i := 1) (by rfl)) r_str) (d_cons (r_sl (r_v (i := 1) (by rfl)) o_no (o_so (r_neg r_int))) (d_cons (r_sl (r_v (i := 1) (by rfl)) (o_so r_int) o_no) (d_cons r_str (d_cons (r_upper (r_v (i := 1) (by rfl))) (d_cons r_none (d_cons r_int (d_cons r_bool (d_cons (r_tup (d_cons (r_v (i := 1) (by rfl)) d_nil)) (d_cons (r_lst (d_cons (r_v (i := 1) (by rfl)) d_nil)) (d_cons (r_dic1 (r_v (i := 1) (by rfl)) r_int) d_nil)))))))))))))
    (ss_cons (s_ret (r_call (C.kn "_law_pick" _ (by rfl)) C.gd C.rm C.tk (by rfl) (a_cons (r_v (i := 0) (by rfl)) (a_cons (r_bin .add (r_v (i := 2) (by rfl)) (r_call0 (C.kn "_law_kept" _ (by rfl)) C.gd C.rm C.tk (by rfl))) a_nil))))
    ss_nil)) ss_nil)
    (ss_cons (s_set (i := 2) sc__law_odd.nd rfl (by first | exact Or.inl rfl | exact Or.inr rfl) (r_lst (d_cons (r_list1 (by rfl) M.b_list (a_cons (r_v (i := 1) (by rfl)) a_nil)) (d_cons (r_bin .add (r_v (i := 1) (by rfl)) (r_tup (d_cons r_str d_nil))) (d_cons (r_sl (r_v (i := 1) (by rfl)) o_no (o_so (r_neg r_int))) (d_cons (r_rv (r_v (i := 1) (by rfl))) (d_cons (r_bin .add (r_v (i := 1) (by rfl)) (r_sl (r_v (i := 1) (by rfl)) (o_so (r_neg r_int)) o_no)) (d_cons (r_tup d_nil) (d_cons (r_tup (d_cons (r_v (i := 1) (by rfl)) d_nil)) (d_cons (r_lst (d_cons (r_v (i := 1) (by rfl)) d_nil)) d_nil))))))))))
    (ss_cons (s_ret (r_call (C.kn "_law_pick" _ (by rfl)) C.gd C.rm C.tk (by rfl) (a_cons (r_v (i := 0) (by rfl)) (a_cons (r_bin .add (r_v (i := 2) (by rfl)) (r_lst (d_cons r_none (d_cons r_int (d_cons r_bool (d_cons r_str (d_cons r_str (d_cons r_dic0 (d_cons (r_dic1 r_str (r_v (i := 1) (by rfl))) (d_cons (r_bin .add (r_v (i := 1) (by rfl)) (r_tup (d_cons r_none d_nil))) d_nil)))))))))) a_nil))))
    ss_nil))))
theorem sc__law_row : FnScope ["_law_state_here", "_law_names", "_law_parts", "_law_room", "_law_level", "_law_found", "_law_k", "_law_way", "_law_rows", "_law_least", "_law_most", "_law_one"] ["_law_state_here", "_law_names", "_law_parts", "_law_room", "_law_level"] (defScope p__law_row) := ⟨rfl, rfl, rfl, by decide +kernel, rfl, by decide +kernel, by decide +kernel⟩
theorem d__law_row (M : Mods K mg cs) (C : Cond (cxOf (L2.CX P w) P w K mg base ["_law_state_here", "_law_names", "_law_parts", "_law_room", "_law_level", "_law_found", "_law_k", "_law_way", "_law_rows", "_law_least", "_law_most", "_law_one"] "_law_row" (defScope p__law_row) f cdv A outer s H E) ⟨sem T con k, con⟩ ⟨fa mg, vs, H⟩ Wx k T)
    (po : PassesOwn (model P w) (A.deeper (envOfC "_law_row" (defScope p__law_row) s.heap.objs.size f cdv)) (envOfC "_law_row" (defScope p__law_row) s.heap.objs.size f cdv) (cxOf (L2.CX P w) P w K mg base ["_law_state_here", "_law_names", "_law_parts", "_law_room", "_law_level", "_law_found", "_law_k", "_law_way", "_law_rows", "_law_least", "_law_most", "_law_one"] "_law_row" (defScope p__law_row) f cdv A outer s H E).xe) :
    PSs (cxOf (L2.CX P w) P w K mg base ["_law_state_here", "_law_names", "_law_parts", "_law_room", "_law_level", "_law_found", "_law_k", "_law_way", "_law_rows", "_law_least", "_law_most", "_law_one"] "_law_row" (defScope p__law_row) f cdv A outer s H E) (defBody p__law_row) (tSs K ⟨sem T con k, con⟩ ⟨fa mg, vs, H⟩ Wx w__law_row.body) :=
  (ss_cons (s_set (i := 5) sc__law_row.nd rfl (by first | exact Or.inl rfl | exact Or.inr rfl) (r_lst d_nil))
    (ss_cons (s_for po rfl (i_rng1 (by rfl) M.b_range (r_call (C.kn "_law_next" _ (by rfl)) C.gd C.rm C.tk (by rfl) (a_cons (r_v (i := 0) (by rfl)) (a_cons r_int a_nil)))) (g_v (i := 6) sc__law_row.nd rfl (by first | exact Or.inl rfl | exact Or.inr rfl)) (ss_cons (s_set (i := 7) sc__law_row.nd rfl (by first | exact Or.inl rfl | exact Or.inr rfl) (r_call (C.kn "_law_next" _ (by rfl)) C.gd C.rm C.tk (by rfl) (a_cons (r_v (i := 0) (by rfl)) (a_cons r_int a_nil))))
    (ss_cons (s_if (t_cmp C.hu .lt (r_ix (r_v (i := 3) (by rfl)) r_int) r_int) (ss_cons s_cont
    ss_nil) ss_nil)
    (ss_cons (s_augIx .sub (r_v (i := 3) (by rfl)) r_int r_int)
    (ss_cons (s_if (t_or (t_cmp C.hu .lt (r_v (i := 7) (by rfl)) r_int) (t_or1 (t_cmp C.hu .eq (r_v (i := 4) (by rfl)) r_int))).pt (ss_cons (s_ex (r_app (r_v (i := 5) (by rfl)) (r_call (C.kn "_law_deed" _ (by rfl)) C.gd C.rm C.tk (by rfl) (a_cons (r_v (i := 0) (by rfl)) (a_cons (r_v (i := 1) (by rfl)) a_nil)))))
    ss_nil) (ss_cons (s_if (t_cmp C.hu .eq (r_v (i := 7) (by rfl)) r_int) (ss_cons (s_setLc (i := 8) (hy := rfl) (hyl := rfl) (hsw := sw_true rfl rfl rfl rfl) (hc := rfl) (hN := sc__law_row.nd) (own := [("_law_one", 11)]) (i_rng1 (by rfl) M.b_range (r_bin .add r_int (r_call (C.kn "_law_next" _ (by rfl)) C.gd C.rm C.tk (by rfl) (a_cons (r_v (i := 0) (by rfl)) (a_cons r_int a_nil))))) (blkOk_by (by rfl)) (fun _ _ _ _ _ => (g_v (i := 11) sc__law_row.nd rfl (by first | exact Or.inl rfl | exact Or.inr rfl))) (fun _ _ _ _ _ => c_no) (fun _ _ _ _ _ => (r_call ((C.blk _ _ _ _ _).kn "_law_row" _ (by rfl)) (C.blk _ _ _ _ _).gd (C.blk _ _ _ _ _).rm (takes_blk rfl) (by rfl) (a_cons (r_v (i := 0) (by rfl)) (a_cons (r_v (i := 1) (by rfl)) (a_cons (r_v (i := 2) (by rfl)) (a_cons (r_v (i := 3) (by rfl)) (a_cons (r_bin .sub (r_v (i := 4) (by rfl)) r_int) a_nil))))))) (by decide))
    (ss_cons (s_ex (r_app (r_v (i := 5) (by rfl)) (r_tup (d_cons r_str (d_cons (r_tuple1 (by rfl) M.b_tuple (a_cons (r_v (i := 8) (by rfl)) a_nil)) d_nil)))))
    ss_nil)) (ss_cons (s_if (t_cmp C.hu .eq (r_v (i := 7) (by rfl)) r_int) (ss_cons (s_set (i := 9) sc__law_row.nd rfl (by first | exact Or.inl rfl | exact Or.inr rfl) (r_call (C.kn "_law_next" _ (by rfl)) C.gd C.rm C.tk (by rfl) (a_cons (r_v (i := 0) (by rfl)) (a_cons r_int a_nil))))
    (ss_cons (s_set (i := 10) sc__law_row.nd rfl (by first | exact Or.inl rfl | exact Or.inr rfl) (r_bin .add (r_v (i := 9) (by rfl)) (r_call (C.kn "_law_next" _ (by rfl)) C.gd C.rm C.tk (by rfl) (a_cons (r_v (i := 0) (by rfl)) (a_cons r_int a_nil)))))
    (ss_cons (s_ex (r_app (r_v (i := 5) (by rfl)) (r_tup (d_cons r_str (d_cons (r_v (i := 9) (by rfl)) (d_cons (r_v (i := 10) (by rfl)) (d_cons (r_call (C.kn "_law_row" _ (by rfl)) C.gd C.rm C.tk (by rfl) (a_cons (r_v (i := 0) (by rfl)) (a_cons (r_v (i := 1) (by rfl)) (a_cons (r_lst d_nil) (a_cons (r_v (i := 3) (by rfl)) (a_cons (r_bin .sub (r_v (i := 4) (by rfl)) r_int) a_nil)))))) d_nil)))))))
    ss_nil))) (ss_cons (s_ex (r_app (r_v (i := 5) (by rfl)) (r_ife (t_cmp C.hu .ne (r_v (i := 2) (by rfl)) (r_lst d_nil)) (r_tup (d_cons r_str (d_cons (r_call (C.kn "_law_pick" _ (by rfl)) C.gd C.rm C.tk (by rfl) (a_cons (r_v (i := 0) (by rfl)) (a_cons (r_v (i := 2) (by rfl)) a_nil))) d_nil))) (r_call (C.kn "_law_deed" _ (by rfl)) C.gd C.rm C.tk (by rfl) (a_cons (r_v (i := 0) (by rfl)) (a_cons (r_v (i := 1) (by rfl)) a_nil))))))
    ss_nil))
    ss_nil))
    ss_nil))
    ss_nil)))))
    (ss_cons (s_ret (r_tuple1 (by rfl) M.b_tuple (a_cons (r_v (i := 5) (by rfl)) a_nil)))
    ss_nil)))
theorem sc__law_inner : FnScope ["_law_word"] ["_law_word"] (defScope p__law_inner) := ⟨rfl, rfl, rfl, by decide +kernel, rfl, by decide +kernel, by decide +kernel⟩
theorem d__law_inner (M : Mods K mg cs) (C : Cond (cxOf (L2.CX P w) P w K mg base ["_law_word"] "_law_inner" (defScope p__law_inner) f cdv A outer s H E) ⟨sem T con k, con⟩ ⟨fa mg, vs, H⟩ Wx k T)
    (po : PassesOwn (model P w) (A.deeper (envOfC "_law_inner" (defScope p__law_inner) s.heap.objs.size f cdv)) (envOfC "_law_inner" (defScope p__law_inner) s.heap.objs.size f cdv) (cxOf (L2.CX P w) P w K mg base ["_law_word"] "_law_inner" (defScope p__law_inner) f cdv A outer s H E).xe) :
    PSs (cxOf (L2.CX P w) P w K mg base ["_law_word"] "_law_inner" (defScope p__law_inner) f cdv A outer s H E) (defBody p__law_inner) (tSs K ⟨sem T con k, con⟩ ⟨fa mg, vs, H⟩ Wx w__law_inner.body) :=
  (ss_cons (s_if (t_or (t_e (r_call (C.kn "_law_is_deed" _ (by rfl)) C.gd C.rm C.tk (by rfl) (a_cons (r_v (i := 0) (by rfl)) a_nil))) (t_or1 (t_and (t_e (r_call (C.kn "_law_is_of" _ (by rfl)) C.gd C.rm C.tk (by rfl) (a_cons (r_v (i := 0) (by rfl)) (a_cons r_str (a_cons r_int a_nil))))) (t_and1 (t_e (r_call (C.kn "_law_is_name" _ (by rfl)) C.gd C.rm C.tk (by rfl) (a_cons (r_ix (r_v (i := 0) (by rfl)) r_int) a_nil))))).pt)).pt (ss_cons (s_ret (r_lst d_nil))
    ss_nil) ss_nil)
    (ss_cons (s_if (t_e (r_call (C.kn "_law_is_of" _ (by rfl)) C.gd C.rm C.tk (by rfl) (a_cons (r_v (i := 0) (by rfl)) (a_cons r_str (a_cons r_int a_nil))))) (ss_cons (s_ret (r_ife (t_and (t_e (r_isi .tuple (by rfl) M.b_isinstance (by rfl) M.b_tuple (by rfl) (r_ix (r_v (i := 0) (by rfl)) r_int))) (t_and1 (t_chain C.hu .le .le r_int (r_len (by rfl) M.b_len (a_cons (r_ix (r_v (i := 0) (by rfl)) r_int) a_nil)) r_int))).pt (r_list1 (by rfl) M.b_list (a_cons (r_ix (r_v (i := 0) (by rfl)) r_int) a_nil)) r_none))
    ss_nil) ss_nil)
    (ss_cons (s_if (t_or (t_not (t_e (r_call (C.kn "_law_is_of" _ (by rfl)) C.gd C.rm C.tk (by rfl) (a_cons (r_v (i := 0) (by rfl)) (a_cons r_str (a_cons r_int a_nil)))))) (t_or (t_not (t_e (r_call (C.kn "_law_is_number" _ (by rfl)) C.gd C.rm C.tk (by rfl) (a_cons (r_ix (r_v (i := 0) (by rfl)) r_int) (a_cons r_int (a_cons r_int a_nil)))))) (t_or1 (t_not (t_e (r_call (C.kn "_law_is_number" _ (by rfl)) C.gd C.rm C.tk (by rfl) (a_cons (r_ix (r_v (i := 0) (by rfl)) r_int) (a_cons r_int (a_cons r_int a_nil))))))))).pt (ss_cons (s_ret r_none)
    ss_nil) ss_nil)
    (ss_cons (s_ret (r_ife (t_cmp C.hu .le (r_ix (r_v (i := 0) (by rfl)) r_int) (r_ix (r_v (i := 0) (by rfl)) r_int)) (r_lst (d_cons (r_ix (r_v (i := 0) (by rfl)) r_int) d_nil)) r_none))
    ss_nil))))
theorem sc__law_measure : FnScope ["_law_thing", "_law_rows", "_law_amount", "_law_far", "_law_words", "_law_row_here", "_law_inner_here", "_law_word"] ["_law_thing"] (defScope p__law_measure) := ⟨rfl, rfl, rfl, by decide +kernel, rfl, by decide +kernel, by decide +kernel⟩
theorem d__law_measure (M : Mods K mg cs) (C : Cond (cxOf (L2.CX P w) P w K mg base ["_law_thing", "_law_rows", "_law_amount", "_law_far", "_law_words", "_law_row_here", "_law_inner_here", "_law_word"] "_law_measure" (defScope p__law_measure) f cdv A outer s H E) ⟨sem T con k, con⟩ ⟨fa mg, vs, H⟩ Wx k T)
    (po : PassesOwn (model P w) (A.deeper (envOfC "_law_measure" (defScope p__law_measure) s.heap.objs.size f cdv)) (envOfC "_law_measure" (defScope p__law_measure) s.heap.objs.size f cdv) (cxOf (L2.CX P w) P w K mg base ["_law_thing", "_law_rows", "_law_amount", "_law_far", "_law_words", "_law_row_here", "_law_inner_here", "_law_word"] "_law_measure" (defScope p__law_measure) f cdv A outer s H E).xe) :
    PSs (cxOf (L2.CX P w) P w K mg base ["_law_thing", "_law_rows", "_law_amount", "_law_far", "_law_words", "_law_row_here", "_law_inner_here", "_law_word"] "_law_measure" (defScope p__law_measure) f cdv A outer s H E) (defBody p__law_measure) (tSs K ⟨sem T con k, con⟩ ⟨fa mg, vs, H⟩ Wx w__law_measure.body) :=
  (ss_cons (s_set (i := 1) sc__law_measure.nd rfl (by first | exact Or.inl rfl | exact Or.inr rfl) (r_lst (d_cons (r_v (i := 0) (by rfl)) d_nil)))
    (ss_cons (s_setT (r_tup (d_cons r_int (d_cons r_int d_nil))) (g_tup rfl (g_cons (g_v (i := 2) sc__law_measure.nd rfl (by first | exact Or.inl rfl | exact Or.inr rfl)) (g_cons (g_v (i := 3) sc__law_measure.nd rfl (by first | exact Or.inl rfl | exact Or.inr rfl)) g_nil))))
    (ss_cons (s_while po (t_cmp C.hu .ne (r_v (i := 1) (by rfl)) (r_lst d_nil)) (ss_cons (s_aug .add (i := 3) sc__law_measure.nd rfl (by first | exact Or.inl rfl | exact Or.inr rfl) r_int)
    (ss_cons (s_set (i := 4) sc__law_measure.nd rfl (by first | exact Or.inl rfl | exact Or.inr rfl) (r_lst d_nil))
    (ss_cons (s_for po rfl (i_seq (r_v (i := 1) (by rfl))) (g_v (i := 5) sc__law_measure.nd rfl (by first | exact Or.inl rfl | exact Or.inr rfl)) (ss_cons (s_if (t_or (t_not (t_e (r_isi .tuple (by rfl) M.b_isinstance (by rfl) M.b_tuple (by rfl) (r_v (i := 5) (by rfl))))) (t_or1 (t_cmp C.hu .gt (r_bin .add (r_bin .add (r_v (i := 2) (by rfl)) (r_len (by rfl) M.b_len (a_cons (r_v (i := 4) (by rfl)) a_nil))) (r_len (by rfl) M.b_len (a_cons (r_v (i := 5) (by rfl)) a_nil))) r_int))).pt (ss_cons (s_ret r_none)
    ss_nil) ss_nil)
    (ss_cons (s_ex (r_ext (r_v (i := 4) (by rfl)) (r_v (i := 5) (by rfl))))
    ss_nil)))
    (ss_cons (s_aug .add (i := 2) sc__law_measure.nd rfl (by first | exact Or.inl rfl | exact Or.inr rfl) (r_len (by rfl) M.b_len (a_cons (r_v (i := 4) (by rfl)) a_nil)))
    (ss_cons (s_setLc (i := 6) (hy := rfl) (hyl := rfl) (hsw := sw_true rfl rfl rfl rfl) (hc := rfl) (hN := sc__law_measure.nd) (own := [("_law_word", 7)]) (i_seq (r_v (i := 4) (by rfl))) (blkOk_by (by rfl)) (fun _ _ _ _ _ => (g_v (i := 7) sc__law_measure.nd rfl (by first | exact Or.inl rfl | exact Or.inr rfl))) (fun _ _ _ _ _ => c_no) (fun _ _ _ _ _ => (r_call ((C.blk _ _ _ _ _).kn "_law_inner" _ (by rfl)) (C.blk _ _ _ _ _).gd (C.blk _ _ _ _ _).rm (takes_blk rfl) (by rfl) (a_cons (r_v (i := 7) (by rfl)) a_nil))) (by decide))
    (ss_cons (s_if (t_or (t_cmp C.hu .gt (r_v (i := 3) (by rfl)) r_int) (t_or1 (t_noneIn C.hu (r_v (i := 6) (by rfl))))).pt (ss_cons (s_ret r_none)
    ss_nil) ss_nil)
    (ss_cons (s_set (i := 1) sc__law_measure.nd rfl (by first | exact Or.inl rfl | exact Or.inr rfl) (r_sumL (by rfl) (by rfl) M.b_sum (a_cons (r_v (i := 6) (by rfl)) (a_cons (r_lst d_nil) a_nil))))
    ss_nil))))))))
    (ss_cons (s_ret (r_tup (d_cons (r_v (i := 2) (by rfl)) (d_cons (r_v (i := 3) (by rfl)) d_nil))))
    ss_nil))))
theorem sc__law_class : FnScope ["_law_e", "_law_marks", "_law_words"] ["_law_e"] (defScope p__law_class) := ⟨rfl, rfl, rfl, by decide +kernel, rfl, by decide +kernel, by decide +kernel⟩
theorem d__law_class (M : Mods K mg cs) (C : Cond (cxOf (L2.CX P w) P w K mg base ["_law_e", "_law_marks", "_law_words"] "_law_class" (defScope p__law_class) f cdv A outer s H E) ⟨sem T con k, con⟩ ⟨fa mg, vs, H⟩ Wx k T)
    (po : PassesOwn (model P w) (A.deeper (envOfC "_law_class" (defScope p__law_class) s.heap.objs.size f cdv)) (envOfC "_law_class" (defScope p__law_class) s.heap.objs.size f cdv) (cxOf (L2.CX P w) P w K mg base ["_law_e", "_law_marks", "_law_words"] "_law_class" (defScope p__law_class) f cdv A outer s H E).xe) :
    PSs (cxOf (L2.CX P w) P w K mg base ["_law_e", "_law_marks", "_law_words"] "_law_class" (defScope p__law_class) f cdv A outer s H E) (defBody p__law_class) (tSs K ⟨sem T con k, con⟩ ⟨fa mg, vs, H⟩ Wx w__law_class.body) :=
  (ss_cons (s_set (i := 1) sc__law_class.nd rfl (by first | exact Or.inl rfl | exact Or.inr rfl) (r_lst (d_cons (r_isx (fp := ⟨fa mg, vs, H⟩) M.xs M.x_NoProgram (by rfl) M.b_isinstance (by rfl) (r_v (i := 0) (by rfl))) (d_cons (r_isx (fp := ⟨fa mg, vs, H⟩) M.xs M.x_NoMachine (by rfl) M.b_isinstance (by rfl) (r_v (i := 0) (by rfl))) (d_cons (r_isx (fp := ⟨fa mg, vs, H⟩) M.xs M.x_NoKind (by rfl) M.b_isinstance (by rfl) (r_v (i := 0) (by rfl))) (d_cons (r_isx (fp := ⟨fa mg, vs, H⟩) M.xs M.x_NoState (by rfl) M.b_isinstance (by rfl) (r_v (i := 0) (by rfl))) d_nil))))))
    (ss_cons (s_set (i := 1) sc__law_class.nd rfl (by first | exact Or.inl rfl | exact Or.inr rfl) (r_bin .add (r_v (i := 1) (by rfl)) (r_lst (d_cons (r_isx (fp := ⟨fa mg, vs, H⟩) M.xs M.x_NoGuess (by rfl) M.b_isinstance (by rfl) (r_v (i := 0) (by rfl))) (d_cons (r_isx (fp := ⟨fa mg, vs, H⟩) M.xs M.x_NoDeed (by rfl) M.b_isinstance (by rfl) (r_v (i := 0) (by rfl))) (d_cons (r_isx (fp := ⟨fa mg, vs, H⟩) M.xs M.x_NoPaper (by rfl) M.b_isinstance (by rfl) (r_v (i := 0) (by rfl))) (d_cons (r_isx (fp := ⟨fa mg, vs, H⟩) M.xs M.x_NoBook (by rfl) M.b_isinstance (by rfl) (r_v (i := 0) (by rfl))) d_nil)))))))
    (ss_cons (s_set (i := 1) sc__law_class.nd rfl (by first | exact Or.inl rfl | exact Or.inr rfl) (r_bin .add (r_v (i := 1) (by rfl)) (r_lst (d_cons (r_isx (fp := ⟨fa mg, vs, H⟩) M.xs M.x_NoInput (by rfl) M.b_isinstance (by rfl) (r_v (i := 0) (by rfl))) (d_cons (r_isx (fp := ⟨fa mg, vs, H⟩) M.xs M.x_NoPlace (by rfl) M.b_isinstance (by rfl) (r_v (i := 0) (by rfl))) (d_cons (r_isx (fp := ⟨fa mg, vs, H⟩) M.xs M.x_TooMany (by rfl) M.b_isinstance (by rfl) (r_v (i := 0) (by rfl))) (d_cons (r_isx (fp := ⟨fa mg, vs, H⟩) M.xs M.x_NoText (by rfl) M.b_isinstance (by rfl) (r_v (i := 0) (by rfl))) d_nil)))))))
    (ss_cons (s_set (i := 2) sc__law_class.nd rfl (by first | exact Or.inl rfl | exact Or.inr rfl) (r_lst (d_cons r_str (d_cons r_str (d_cons r_str (d_cons r_str (d_cons r_str (d_cons r_str (d_cons r_str (d_cons r_str (d_cons r_str (d_cons r_str (d_cons r_str d_nil)))))))))))))
    (ss_cons (s_ex (r_app (r_v (i := 2) (by rfl)) r_str))
    (ss_cons (s_if (t_or (t_cmp C.hu .ne (r_cnt (r_v (i := 1) (by rfl)) r_bool) r_int) (t_or1 (t_not (t_e (r_isxV (fp := ⟨fa mg, vs, H⟩) M.xs (by rfl) M.b_isinstance (by rfl) M.b_ValueError (r_v (i := 0) (by rfl))))))).pt (ss_cons (s_ret r_str)
    ss_nil) ss_nil)
    (ss_cons (s_ret (r_ix (r_v (i := 2) (by rfl)) (r_idx (r_v (i := 1) (by rfl)) r_bool)))
    ss_nil)))))))
theorem sc__law_tried : FnScope ["_law_work", "_law_thing", "_law_found", "_law_caught", "_law_e"] ["_law_work", "_law_thing"] (defScope p__law_tried) := ⟨rfl, rfl, rfl, by decide +kernel, rfl, by decide +kernel, by decide +kernel⟩
theorem d__law_tried (M : Mods K mg cs) (C : Cond (cxOf (L2.CX P w) P w K mg base ["_law_work", "_law_thing", "_law_found", "_law_caught", "_law_e"] "_law_tried" (defScope p__law_tried) f cdv A outer s H E) ⟨sem T con k, con⟩ ⟨fa mg, vs, H⟩ Wx k T)
    (po : PassesOwn (model P w) (A.deeper (envOfC "_law_tried" (defScope p__law_tried) s.heap.objs.size f cdv)) (envOfC "_law_tried" (defScope p__law_tried) s.heap.objs.size f cdv) (cxOf (L2.CX P w) P w K mg base ["_law_work", "_law_thing", "_law_found", "_law_caught", "_law_e"] "_law_tried" (defScope p__law_tried) f cdv A outer s H E).xe) :
    PSs (cxOf (L2.CX P w) P w K mg base ["_law_work", "_law_thing", "_law_found", "_law_caught", "_law_e"] "_law_tried" (defScope p__law_tried) f cdv A outer s H E) (defBody p__law_tried) (tSs K ⟨sem T con k, con⟩ ⟨fa mg, vs, H⟩ Wx w__law_tried.body) :=
  (ss_cons (s_set (i := 2) sc__law_tried.nd rfl (by first | exact Or.inl rfl | exact Or.inr rfl) r_none)
    (ss_cons (s_set (i := 3) sc__law_tried.nd rfl (by first | exact Or.inl rfl | exact Or.inr rfl) r_none)
    (ss_cons (s_try (i := 4) rfl rfl rfl sc__law_tried.nd rfl rfl M.xs M.x_BeatError (by rfl) C.tk (fun _ _ _ tk0 po0 => (ss_cons (s_set (i := 2) sc__law_tried.nd rfl (by first | exact Or.inl rfl | exact Or.inr rfl) (r_callv (C.tr tk0).kv (C.tr tk0).gd (C.tr tk0).rm (C.tr tk0).tk (i := 0) rfl (Or.inl rfl) (a_cons (r_v (i := 1) (by rfl)) a_nil)))
    ss_nil)) (fun _ _ => (ss_cons (s_set (i := 3) sc__law_tried.nd rfl (by first | exact Or.inl rfl | exact Or.inr rfl) (r_v (i := 4) (by rfl)))
    ss_nil)))
    (ss_cons (s_ret (r_ife (t_isN (r_v (i := 3) (by rfl))) (r_lst (d_cons (r_v (i := 2) (by rfl)) d_nil)) (r_call (C.kn "_law_class" _ (by rfl)) C.gd C.rm C.tk (by rfl) (a_cons (r_v (i := 3) (by rfl)) a_nil))))
    ss_nil))))
theorem sc__law_bent : FnScope ["_law_state_here", "_law_thing", "_law_way", "_law_at"] ["_law_state_here", "_law_thing"] (defScope p__law_bent) := ⟨rfl, rfl, rfl, by decide +kernel, rfl, by decide +kernel, by decide +kernel⟩
theorem d__law_bent (M : Mods K mg cs) (C : Cond (cxOf (L2.CX P w) P w K mg base ["_law_state_here", "_law_thing", "_law_way", "_law_at"] "_law_bent" (defScope p__law_bent) f cdv A outer s H E) ⟨sem T con k, con⟩ ⟨fa mg, vs, H⟩ Wx k T)
    (po : PassesOwn (model P w) (A.deeper (envOfC "_law_bent" (defScope p__law_bent) s.heap.objs.size f cdv)) (envOfC "_law_bent" (defScope p__law_bent) s.heap.objs.size f cdv) (cxOf (L2.CX P w) P w K mg base ["_law_state_here", "_law_thing", "_law_way", "_law_at"] "_law_bent" (defScope p__law_bent) f cdv A outer s H E).xe) :
    PSs (cxOf (L2.CX P w) P w K mg base ["_law_state_here", "_law_thing", "_law_way", "_law_at"] "_law_bent" (defScope p__law_bent) f cdv A outer s H E) (defBody p__law_bent) (tSs K ⟨sem T con k, con⟩ ⟨fa mg, vs, H⟩ Wx w__law_bent.body) :=
  (ss_cons (s_set (i := 2) sc__law_bent.nd rfl (by first | exact Or.inl rfl | exact Or.inr rfl) (r_call (C.kn "_law_next" _ (by rfl)) C.gd C.rm C.tk (by rfl) (a_cons (r_v (i := 0) (by rfl)) (a_cons r_int a_nil))))
    (ss_cons (s_if (t_or (t_not (t_e (r_isi .tuple (by rfl) M.b_isinstance (by rfl) M.b_tuple (by rfl) (r_v (i := 1) (by rfl))))) (t_or (t_cmp C.hu .eq (r_v (i := 1) (by rfl)) (r_tup d_nil)) (t_or1 (t_cmp C.hu .eq (r_v (i := 2) (by rfl)) r_int)))).pt (ss_cons (s_ret (r_ife (t_cmp C.hu .ne (r_v (i := 1) (by rfl)) (r_tup d_nil)) (r_call (C.kn "_law_odd" _ (by rfl)) C.gd C.rm C.tk (by rfl) (a_cons (r_v (i := 0) (by rfl)) (a_cons (r_v (i := 1) (by rfl)) a_nil))) (r_call (C.kn "_law_pick" _ (by rfl)) C.gd C.rm C.tk (by rfl) (a_cons (r_v (i := 0) (by rfl)) (a_cons (r_lst (d_cons r_none (d_cons (r_lst d_nil) (d_cons r_dic0 (d_cons r_str (d_cons r_int (d_cons (r_tup (d_cons (r_tup d_nil) d_nil)) (d_cons (r_tup (d_cons r_str d_nil)) d_nil)))))))) a_nil)))))
    ss_nil) ss_nil)
    (ss_cons (s_set (i := 3) sc__law_bent.nd rfl (by first | exact Or.inl rfl | exact Or.inr rfl) (r_call (C.kn "_law_next" _ (by rfl)) C.gd C.rm C.tk (by rfl) (a_cons (r_v (i := 0) (by rfl)) (a_cons (r_len (by rfl) M.b_len (a_cons (r_v (i := 1) (by rfl)) a_nil)) a_nil))))
    (ss_cons (s_if (t_cmp C.hu .eq (r_v (i := 2) (by rfl)) r_int) (ss_cons (s_ret (r_bin .add (r_sl (r_v (i := 1) (by rfl)) o_no (o_so (r_v (i := 3) (by rfl)))) (r_sl (r_v (i := 1) (by rfl)) (o_so (r_bin .add (r_v (i := 3) (by rfl)) r_int)) o_no)))
    ss_nil) ss_nil)
    (ss_cons (s_if (t_cmp C.hu .eq (r_v (i := 2) (by rfl)) r_int) (ss_cons (s_ret (r_bin .add (r_sl (r_v (i := 1) (by rfl)) o_no (o_so (r_bin .add (r_v (i := 3) (by rfl)) r_int))) (r_sl (r_v (i := 1) (by rfl)) (o_so (r_v (i := 3) (by rfl))) o_no)))
    ss_nil) ss_nil)
    (ss_cons (s_ret (r_bin .add (r_bin .add (r_sl (r_v (i := 1) (by rfl)) o_no (o_so (r_v (i := 3) (by rfl)))) (r_tup (d_cons (r_call (C.kn "_law_bent" _ (by rfl)) C.gd C.rm C.tk (by rfl) (a_cons (r_v (i := 0) (by rfl)) (a_cons (r_ix (r_v (i := 1) (by rfl)) (r_v (i := 3) (by rfl))) a_nil))) d_nil))) (r_sl (r_v (i := 1) (by rfl)) (o_so (r_bin .add (r_v (i := 3) (by rfl)) r_int)) o_no)))
    ss_nil))))))
theorem sc__law_right : FnScope ["_law_thing", "_law_due", "_law_found", "_law_told"] ["_law_thing"] (defScope p__law_right) := ⟨rfl, rfl, rfl, by decide +kernel, rfl, by decide +kernel, by decide +kernel⟩
theorem d__law_right (M : Mods K mg cs) (C : Cond (cxOf (L2.CX P w) P w K mg base ["_law_thing", "_law_due", "_law_found", "_law_told"] "_law_right" (defScope p__law_right) f cdv A outer s H E) ⟨sem T con k, con⟩ ⟨fa mg, vs, H⟩ Wx k T)
    (po : PassesOwn (model P w) (A.deeper (envOfC "_law_right" (defScope p__law_right) s.heap.objs.size f cdv)) (envOfC "_law_right" (defScope p__law_right) s.heap.objs.size f cdv) (cxOf (L2.CX P w) P w K mg base ["_law_thing", "_law_due", "_law_found", "_law_told"] "_law_right" (defScope p__law_right) f cdv A outer s H E).xe) :
    PSs (cxOf (L2.CX P w) P w K mg base ["_law_thing", "_law_due", "_law_found", "_law_told"] "_law_right" (defScope p__law_right) f cdv A outer s H E) (defBody p__law_right) (tSs K ⟨sem T con k, con⟩ ⟨fa mg, vs, H⟩ Wx w__law_right.body) :=
  (ss_cons (s_set (i := 1) sc__law_right.nd rfl (by first | exact Or.inl rfl | exact Or.inr rfl) (r_call (C.kn "_law_measure" _ (by rfl)) C.gd C.rm C.tk (by rfl) (a_cons (r_v (i := 0) (by rfl)) a_nil)))
    (ss_cons (s_set (i := 2) sc__law_right.nd rfl (by first | exact Or.inl rfl | exact Or.inr rfl) (r_call (C.kn "is_row" _ (by rfl)) C.gd C.rm C.tk (by rfl) (a_cons (r_v (i := 0) (by rfl)) a_nil)))
    (ss_cons (s_if (t_or (t_not (t_e (r_isi .bool (by rfl) M.b_isinstance (by rfl) M.b_bool (by rfl) (r_v (i := 2) (by rfl))))) (t_or1 (t_cmp C.hu .ne (r_v (i := 2) (by rfl)) (r_notN (r_v (i := 1) (by rfl)))))).pt (ss_cons (s_ret r_bool)
    ss_nil) ss_nil)
    (ss_cons (s_set (i := 3) sc__law_right.nd rfl (by first | exact Or.inl rfl | exact Or.inr rfl) (r_lst (d_cons (r_call (C.kn "_law_tried" _ (by rfl)) C.gd C.rm C.tk (by rfl) (a_cons (r_fnK (C.kn "words_in" _ (by rfl)) (by rfl)) (a_cons (r_v (i := 0) (by rfl)) a_nil))) (d_cons (r_call (C.kn "_law_tried" _ (by rfl)) C.gd C.rm C.tk (by rfl) (a_cons (r_fnK (C.kn "deep" _ (by rfl)) (by rfl)) (a_cons (r_v (i := 0) (by rfl)) a_nil))) d_nil))))
    (ss_cons (s_if (t_isN (r_v (i := 1) (by rfl))) (ss_cons (s_ret (r_cmp C.hu .eq (r_v (i := 3) (by rfl)) (r_lst (d_cons r_str (d_cons r_str d_nil)))))
    ss_nil) ss_nil)
    (ss_cons (s_ret (r_cmp C.hu .eq (r_repr C.gd C.hu (by rfl) M.b_repr (a_cons (r_v (i := 3) (by rfl)) a_nil)) (r_repr C.gd C.hu (by rfl) M.b_repr (a_cons (r_lst (d_cons (r_lst (d_cons (r_ix (r_v (i := 1) (by rfl)) r_int) d_nil)) (d_cons (r_lst (d_cons (r_ix (r_v (i := 1) (by rfl)) r_int) d_nil)) d_nil))) a_nil))))
    ss_nil))))))
theorem sc_law : FnScope ["_law_script", "_law_k", "_law_state_here", "_law_names", "_law_row_here", "_law_thing", "_law_turn"] ["_law_script"] (defScope p_law) := ⟨rfl, rfl, rfl, by decide +kernel, rfl, by decide +kernel, by decide +kernel⟩
theorem d_law (M : Mods K mg cs) (C : Cond (cxOf (L2.CX P w) P w K mg base ["_law_script", "_law_k", "_law_state_here", "_law_names", "_law_row_here", "_law_thing", "_law_turn"] "law" (defScope p_law) f cdv A outer s H E) ⟨sem T con k, con⟩ ⟨fa mg, vs, H⟩ Wx k T)
    (po : PassesOwn (model P w) (A.deeper (envOfC "law" (defScope p_law) s.heap.objs.size f cdv)) (envOfC "law" (defScope p_law) s.heap.objs.size f cdv) (cxOf (L2.CX P w) P w K mg base ["_law_script", "_law_k", "_law_state_here", "_law_names", "_law_row_here", "_law_thing", "_law_turn"] "law" (defScope p_law) f cdv A outer s H E).xe) :
    PSs (cxOf (L2.CX P w) P w K mg base ["_law_script", "_law_k", "_law_state_here", "_law_names", "_law_row_here", "_law_thing", "_law_turn"] "law" (defScope p_law) f cdv A outer s H E) (defBody p_law) (tSs K ⟨sem T con k, con⟩ ⟨fa mg, vs, H⟩ Wx w_law.body) :=
  (ss_cons (s_for po rfl (i_rng1 (by rfl) M.b_range (r_bin .add (r_min2 (by rfl) (by rfl) M.b_min (a_cons (r_zlen (i := 0) (by rfl) M.b_len (by rfl)) (a_cons r_int a_nil))) r_int)) (g_v (i := 1) sc_law.nd rfl (by first | exact Or.inl rfl | exact Or.inr rfl)) (ss_cons (s_set (i := 2) sc_law.nd rfl (by first | exact Or.inl rfl | exact Or.inr rfl) (r_call (C.kn "_law_state" _ (by rfl)) C.gd C.rm C.tk (by rfl) (a_cons (r_v (i := 0) (by rfl)) (a_cons (r_v (i := 1) (by rfl)) a_nil))))
    (ss_cons (s_set (i := 3) sc_law.nd rfl (by first | exact Or.inl rfl | exact Or.inr rfl) (r_lst (d_cons (r_call (C.kn "_law_name" _ (by rfl)) C.gd C.rm C.tk (by rfl) (a_cons (r_v (i := 2) (by rfl)) a_nil)) (d_cons (r_call (C.kn "_law_name" _ (by rfl)) C.gd C.rm C.tk (by rfl) (a_cons (r_v (i := 2) (by rfl)) a_nil)) d_nil))))
    (ss_cons (s_set (i := 4) sc_law.nd rfl (by first | exact Or.inl rfl | exact Or.inr rfl) (r_call (C.kn "_law_row" _ (by rfl)) C.gd C.rm C.tk (by rfl) (a_cons (r_v (i := 2) (by rfl)) (a_cons (r_v (i := 3) (by rfl)) (a_cons (r_sl (r_v (i := 3) (by rfl)) o_no (o_so r_int)) (a_cons (r_lst (d_cons r_int d_nil)) (a_cons r_int a_nil)))))))
    (ss_cons (s_for po rfl (i_seq (r_bin .add (r_bin .add (r_lst (d_cons (r_v (i := 4) (by rfl)) d_nil)) (r_lc (own := [("_law_turn", 6)]) (by rfl) sc_law.nd (i_rng1 (by rfl) M.b_range r_int) (blkOk_by (by rfl)) (fun _ _ _ _ _ => (g_v (i := 6) sc_law.nd rfl (by first | exact Or.inl rfl | exact Or.inr rfl))) (fun _ _ _ _ _ => c_no) (fun _ _ _ _ _ => (r_call ((C.blk _ _ _ _ _).kn "_law_bent" _ (by rfl)) (C.blk _ _ _ _ _).gd (C.blk _ _ _ _ _).rm (takes_blk rfl) (by rfl) (a_cons (r_v (i := 2) (by rfl)) (a_cons (r_v (i := 4) (by rfl)) a_nil)))) (by decide))) (r_lst (d_cons (r_v (i := 4) (by rfl)) d_nil)))) (g_v (i := 5) sc_law.nd rfl (by first | exact Or.inl rfl | exact Or.inr rfl)) (ss_cons (s_if (t_not (t_e (r_call (C.kn "_law_right" _ (by rfl)) C.gd C.rm C.tk (by rfl) (a_cons (r_v (i := 5) (by rfl)) a_nil)))) (ss_cons (s_ret r_bool)
    ss_nil) ss_nil)
    ss_nil))
    ss_nil)))))
    (ss_cons (s_ret r_bool)
    ss_nil))
end
theorem T_cases {x : Str} {d : Df} (h : T x = some d) : (x = "is_name" ∧ d = w_is_name) ∨ (x = "is_number" ∧ d = w_is_number) ∨ (x = "is_word_of" ∧ d = w_is_word_of) ∨ (x = "is_deed" ∧ d = w_is_deed) ∨ (x = "rows_of" ∧ d = w_rows_of) ∨ (x = "measured" ∧ d = w_measured) ∨ (x = "is_row" ∧ d = w_is_row) ∨ (x = "need_measured" ∧ d = w_need_measured) ∨ (x = "words_in" ∧ d = w_words_in) ∨ (x = "deep" ∧ d = w_deep) ∨ (x = "_law_state" ∧ d = w__law_state) ∨ (x = "_law_next" ∧ d = w__law_next) ∨ (x = "_law_pick" ∧ d = w__law_pick) ∨ (x = "_law_kept" ∧ d = w__law_kept) ∨ (x = "_law_name" ∧ d = w__law_name) ∨ (x = "_law_is_name" ∧ d = w__law_is_name) ∨ (x = "_law_deed" ∧ d = w__law_deed) ∨ (x = "_law_is_number" ∧ d = w__law_is_number) ∨ (x = "_law_is_of" ∧ d = w__law_is_of) ∨ (x = "_law_is_deed" ∧ d = w__law_is_deed) ∨ (x = "_law_odd" ∧ d = w__law_odd) ∨ (x = "_law_row" ∧ d = w__law_row) ∨ (x = "_law_inner" ∧ d = w__law_inner) ∨ (x = "_law_measure" ∧ d = w__law_measure) ∨ (x = "_law_class" ∧ d = w__law_class) ∨ (x = "_law_tried" ∧ d = w__law_tried) ∨ (x = "_law_bent" ∧ d = w__law_bent) ∨ (x = "_law_right" ∧ d = w__law_right) ∨ (x = "law" ∧ d = w_law) := by
  have h := PySem.mem_of_lookup (show TL.lookup x = some d from h)
  unfold TL at h
  simpa only [List.mem_cons, Prod.mk.injEq, List.not_mem_nil, or_false] using h
theorem fa_of {mg : Str → Option Value} {x : Str} {d : Df} {f : Addr} (h : T x = some d) (e : mg x = some (.ref f)) : fa mg x = some f := by
  unfold fa
  rw [e, h]
  rfl
theorem fa_ft {mg : Str → Option Value} (y : Str) (f : Addr) (h : fa mg y = some f) (n : XCL.contains y = false) : ∃ d, T y = some d := by
  unfold fa at h
  split at h
  · split at h
    · rename_i q
      rcases Bool.or_eq_true_iff.mp q with q | q
      · exact Option.isSome_iff_exists.mp q
      · have : ∀ z ∈ XN, XCL.contains z = true := by decide +kernel
        rw [this y (List.contains_iff_mem.mp q)] at n
        cases n
    · cases h
  · cases h
theorem fa_back {mg : Str → Option Value} {c : Str} {C : Addr} (hc : c ∈ XCL) (h : fa mg c = some C) : c ∈ XN ∧ mg c = some (.ref C) := by
  unfold fa at h
  split at h
  · rename_i a e
    split at h
    · rename_i q
      cases h
      rcases Bool.or_eq_true_iff.mp q with q | q
      · have : ∀ z ∈ XCL, (T z).isSome = false := by decide +kernel
        rw [this c hc] at q
        cases q
      · exact ⟨List.contains_iff_mem.mp q, e⟩
    · cases h
  · cases h
theorem all_mk {P : Program} {w : World} {K : PySem.W.Frag} {h : Heap} {mg : Str → Option Value} {fl : Addr} (X : K.In h) (G : h.Ns mainGlobals mg) (hfa : mg "law" = some (.ref fl))
    {f0 f1 f2 f3 f4 f5 f6 f7 f8 f9 f10 f11 f12 f13 f14 f15 f16 f17 f18 f19 f20 f21 f22 f23 f24 f25 f26 f27 f28 : Addr}
    {od0 an0 od1 an1 od2 an2 od3 an3 od4 an4 od5 an5 od6 an6 od7 an7 od8 an8 od9 an9 od10 an10 od11 an11 od12 an12 od13 an13 od14 an14 od15 an15 od16 an16 od17 an17 od18 an18 od19 an19 od20 an20 od21 an21 od22 an22 od23 an23 od24 an24 od25 an25 od26 an26 od27 an27 od28 an28 : Option Addr}
    {sl0 sl1 sl2 sl3 sl4 sl5 sl6 sl7 sl8 sl9 sl10 sl11 sl12 sl13 sl14 sl15 sl16 sl17 sl18 sl19 sl20 sl21 sl22 sl23 sl24 sl25 sl26 sl27 sl28 : Array (Option Value)}
    {oc0 kV0 dc0 pm0 cd0 ct0 oc1 kV1 dc1 pm1 cd1 ct1 oc2 kV2 dc2 pm2 cd2 ct2 oc3 kV3 dc3 pm3 cd3 ct3 oc4 kV4 dc4 pm4 cd4 ct4 oc5 kV5 dc5 pm5 cd5 ct5 oc6 kV6 dc6 pm6 cd6 ct6 oc7 kV7 dc7 pm7 cd7 ct7 oc8 kV8 dc8 pm8 cd8 ct8 oc9 kV9 dc9 pm9 cd9 ct9 oc10 kV10 dc10 pm10 cd10 ct10 oc11 kV11 dc11 pm11 cd11 ct11 oc12 kV12 dc12 pm12 cd12 ct12 oc13 kV13 dc13 pm13 cd13 ct13 oc14 kV14 dc14 pm14 cd14 ct14 oc15 kV15 dc15 pm15 cd15 ct15 oc16 kV16 dc16 pm16 cd16 ct16 oc17 kV17 dc17 pm17 cd17 ct17 oc18 kV18 dc18 pm18 cd18 ct18 oc19 kV19 dc19 pm19 cd19 ct19 oc20 kV20 dc20 pm20 cd20 ct20 oc21 kV21 dc21 pm21 cd21 ct21 oc22 kV22 dc22 pm22 cd22 ct22 oc23 kV23 dc23 pm23 cd23 ct23 oc24 kV24 dc24 pm24 cd24 ct24 oc25 kV25 dc25 pm25 cd25 ct25 oc26 kV26 dc26 pm26 cd26 ct26 oc27 kV27 dc27 pm27 cd27 ct27 oc28 kV28 dc28 pm28 cd28 ct28 : Value}
    {C0 C1 C2 C3 C4 C5 C6 C7 C8 C9 C10 C11 C12 : Addr}
    {q_KEPT : Addr} {ob_KEPT : Obj} {it_KEPT : Array Value} {n_KEPT : Nat}
    {u_LETTERS : Value}
    {u_MOST_DEEP : Value}
    {u_MOST_WORDS : Value}
    (a0 : PySem.W.nsIn K mainGlobals "is_name" = some (some (.ref f0)))
    (l0 : K.lookup f0 = some ⟨oc0, od0, .func (PySem.W.fnOf "is_name" "is_name" (defArgs p_is_name) (defBody p_is_name) (defScope p_is_name) .none kV0 dc0 pm0 an0 cd0 ct0), sl0⟩)
    (c0 : PySem.W.codeIn K cd0 "is_name" = true)
    (k0 : PySem.W.keepIn K (.ref f0) = true)
    (a1 : PySem.W.nsIn K mainGlobals "is_number" = some (some (.ref f1)))
    (l1 : K.lookup f1 = some ⟨oc1, od1, .func (PySem.W.fnOf "is_number" "is_number" (defArgs p_is_number) (defBody p_is_number) (defScope p_is_number) .none kV1 dc1 pm1 an1 cd1 ct1), sl1⟩)
    (c1 : PySem.W.codeIn K cd1 "is_number" = true)
    (k1 : PySem.W.keepIn K (.ref f1) = true)
    (a2 : PySem.W.nsIn K mainGlobals "is_word_of" = some (some (.ref f2)))
    (l2 : K.lookup f2 = some ⟨oc2, od2, .func (PySem.W.fnOf "is_word_of" "is_word_of" (defArgs p_is_word_of) (defBody p_is_word_of) (defScope p_is_word_of) .none kV2 dc2 pm2 an2 cd2 ct2), sl2⟩)
    (c2 : PySem.W.codeIn K cd2 "is_word_of" = true)
    (k2 : PySem.W.keepIn K (.ref f2) = true)
    (a3 : PySem.W.nsIn K mainGlobals "is_deed" = some (some (.ref f3)))
    (l3 : K.lookup f3 = some ⟨oc3, od3, .func (PySem.W.fnOf "is_deed" "is_deed" (defArgs p_is_deed) (defBody p_is_deed) (defScope p_is_deed) .none kV3 dc3 pm3 an3 cd3 ct3), sl3⟩)
    (c3 : PySem.W.codeIn K cd3 "is_deed" = true)
    (k3 : PySem.W.keepIn K (.ref f3) = true)
    (a4 : PySem.W.nsIn K mainGlobals "rows_of" = some (some (.ref f4)))
    (l4 : K.lookup f4 = some ⟨oc4, od4, .func (PySem.W.fnOf "rows_of" "rows_of" (defArgs p_rows_of) (defBody p_rows_of) (defScope p_rows_of) .none kV4 dc4 pm4 an4 cd4 ct4), sl4⟩)
    (c4 : PySem.W.codeIn K cd4 "rows_of" = true)
    (k4 : PySem.W.keepIn K (.ref f4) = true)
    (a5 : PySem.W.nsIn K mainGlobals "measured" = some (some (.ref f5)))
    (l5 : K.lookup f5 = some ⟨oc5, od5, .func (PySem.W.fnOf "measured" "measured" (defArgs p_measured) (defBody p_measured) (defScope p_measured) .none kV5 dc5 pm5 an5 cd5 ct5), sl5⟩)
    (c5 : PySem.W.codeIn K cd5 "measured" = true)
    (k5 : PySem.W.keepIn K (.ref f5) = true)
    (a6 : PySem.W.nsIn K mainGlobals "is_row" = some (some (.ref f6)))
    (l6 : K.lookup f6 = some ⟨oc6, od6, .func (PySem.W.fnOf "is_row" "is_row" (defArgs p_is_row) (defBody p_is_row) (defScope p_is_row) .none kV6 dc6 pm6 an6 cd6 ct6), sl6⟩)
    (c6 : PySem.W.codeIn K cd6 "is_row" = true)
    (k6 : PySem.W.keepIn K (.ref f6) = true)
    (a7 : PySem.W.nsIn K mainGlobals "need_measured" = some (some (.ref f7)))
    (l7 : K.lookup f7 = some ⟨oc7, od7, .func (PySem.W.fnOf "need_measured" "need_measured" (defArgs p_need_measured) (defBody p_need_measured) (defScope p_need_measured) .none kV7 dc7 pm7 an7 cd7 ct7), sl7⟩)
    (c7 : PySem.W.codeIn K cd7 "need_measured" = true)
    (k7 : PySem.W.keepIn K (.ref f7) = true)
    (a8 : PySem.W.nsIn K mainGlobals "words_in" = some (some (.ref f8)))
    (l8 : K.lookup f8 = some ⟨oc8, od8, .func (PySem.W.fnOf "words_in" "words_in" (defArgs p_words_in) (defBody p_words_in) (defScope p_words_in) .none kV8 dc8 pm8 an8 cd8 ct8), sl8⟩)
    (c8 : PySem.W.codeIn K cd8 "words_in" = true)
    (k8 : PySem.W.keepIn K (.ref f8) = true)
    (a9 : PySem.W.nsIn K mainGlobals "deep" = some (some (.ref f9)))
    (l9 : K.lookup f9 = some ⟨oc9, od9, .func (PySem.W.fnOf "deep" "deep" (defArgs p_deep) (defBody p_deep) (defScope p_deep) .none kV9 dc9 pm9 an9 cd9 ct9), sl9⟩)
    (c9 : PySem.W.codeIn K cd9 "deep" = true)
    (k9 : PySem.W.keepIn K (.ref f9) = true)
    (a10 : PySem.W.nsIn K mainGlobals "_law_state" = some (some (.ref f10)))
    (l10 : K.lookup f10 = some ⟨oc10, od10, .func (PySem.W.fnOf "_law_state" "_law_state" (defArgs p__law_state) (defBody p__law_state) (defScope p__law_state) .none kV10 dc10 pm10 an10 cd10 ct10), sl10⟩)
    (c10 : PySem.W.codeIn K cd10 "_law_state" = true)
    (k10 : PySem.W.keepIn K (.ref f10) = true)
    (a11 : PySem.W.nsIn K mainGlobals "_law_next" = some (some (.ref f11)))
    (l11 : K.lookup f11 = some ⟨oc11, od11, .func (PySem.W.fnOf "_law_next" "_law_next" (defArgs p__law_next) (defBody p__law_next) (defScope p__law_next) .none kV11 dc11 pm11 an11 cd11 ct11), sl11⟩)
    (c11 : PySem.W.codeIn K cd11 "_law_next" = true)
    (k11 : PySem.W.keepIn K (.ref f11) = true)
    (a12 : PySem.W.nsIn K mainGlobals "_law_pick" = some (some (.ref f12)))
    (l12 : K.lookup f12 = some ⟨oc12, od12, .func (PySem.W.fnOf "_law_pick" "_law_pick" (defArgs p__law_pick) (defBody p__law_pick) (defScope p__law_pick) .none kV12 dc12 pm12 an12 cd12 ct12), sl12⟩)
    (c12 : PySem.W.codeIn K cd12 "_law_pick" = true)
    (k12 : PySem.W.keepIn K (.ref f12) = true)
    (a13 : PySem.W.nsIn K mainGlobals "_law_kept" = some (some (.ref f13)))
    (l13 : K.lookup f13 = some ⟨oc13, od13, .func (PySem.W.fnOf "_law_kept" "_law_kept" (defArgs p__law_kept) (defBody p__law_kept) (defScope p__law_kept) .none kV13 dc13 pm13 an13 cd13 ct13), sl13⟩)
    (c13 : PySem.W.codeIn K cd13 "_law_kept" = true)
    (k13 : PySem.W.keepIn K (.ref f13) = true)
    (a14 : PySem.W.nsIn K mainGlobals "_law_name" = some (some (.ref f14)))
    (l14 : K.lookup f14 = some ⟨oc14, od14, .func (PySem.W.fnOf "_law_name" "_law_name" (defArgs p__law_name) (defBody p__law_name) (defScope p__law_name) .none kV14 dc14 pm14 an14 cd14 ct14), sl14⟩)
    (c14 : PySem.W.codeIn K cd14 "_law_name" = true)
    (k14 : PySem.W.keepIn K (.ref f14) = true)
    (a15 : PySem.W.nsIn K mainGlobals "_law_is_name" = some (some (.ref f15)))
    (l15 : K.lookup f15 = some ⟨oc15, od15, .func (PySem.W.fnOf "_law_is_name" "_law_is_name" (defArgs p__law_is_name) (defBody p__law_is_name) (defScope p__law_is_name) .none kV15 dc15 pm15 an15 cd15 ct15), sl15⟩)
    (c15 : PySem.W.codeIn K cd15 "_law_is_name" = true)
    (k15 : PySem.W.keepIn K (.ref f15) = true)
    (a16 : PySem.W.nsIn K mainGlobals "_law_deed" = some (some (.ref f16)))
    (l16 : K.lookup f16 = some ⟨oc16, od16, .func (PySem.W.fnOf "_law_deed" "_law_deed" (defArgs p__law_deed) (defBody p__law_deed) (defScope p__law_deed) .none kV16 dc16 pm16 an16 cd16 ct16), sl16⟩)
    (c16 : PySem.W.codeIn K cd16 "_law_deed" = true)
    (k16 : PySem.W.keepIn K (.ref f16) = true)
    (a17 : PySem.W.nsIn K mainGlobals "_law_is_number" = some (some (.ref f17)))
    (l17 : K.lookup f17 = some ⟨oc17, od17, .func (PySem.W.fnOf "_law_is_number" "_law_is_number" (defArgs p__law_is_number) (defBody p__law_is_number) (defScope p__law_is_number) .none kV17 dc17 pm17 an17 cd17 ct17), sl17⟩)
    (c17 : PySem.W.codeIn K cd17 "_law_is_number" = true)
    (k17 : PySem.W.keepIn K (.ref f17) = true)
    (a18 : PySem.W.nsIn K mainGlobals "_law_is_of" = some (some (.ref f18)))
    (l18 : K.lookup f18 = some ⟨oc18, od18, .func (PySem.W.fnOf "_law_is_of" "_law_is_of" (defArgs p__law_is_of) (defBody p__law_is_of) (defScope p__law_is_of) .none kV18 dc18 pm18 an18 cd18 ct18), sl18⟩)
    (c18 : PySem.W.codeIn K cd18 "_law_is_of" = true)
    (k18 : PySem.W.keepIn K (.ref f18) = true)
    (a19 : PySem.W.nsIn K mainGlobals "_law_is_deed" = some (some (.ref f19)))
    (l19 : K.lookup f19 = some ⟨oc19, od19, .func (PySem.W.fnOf "_law_is_deed" "_law_is_deed" (defArgs p__law_is_deed) (defBody p__law_is_deed) (defScope p__law_is_deed) .none kV19 dc19 pm19 an19 cd19 ct19), sl19⟩)
    (c19 : PySem.W.codeIn K cd19 "_law_is_deed" = true)
    (k19 : PySem.W.keepIn K (.ref f19) = true)
    (a20 : PySem.W.nsIn K mainGlobals "_law_odd" = some (some (.ref f20)))
    (l20 : K.lookup f20 = some ⟨oc20, od20, .func (PySem.W.fnOf "_law_odd" "_law_odd" (defArgs p__law_odd) (defBody p__law_odd) (defScope p__law_odd) .none kV20 dc20 pm20 an20 cd20 ct20), sl20⟩)
    (c20 : PySem.W.codeIn K cd20 "_law_odd" = true)
    (k20 : PySem.W.keepIn K (.ref f20) = true)
    (a21 : PySem.W.nsIn K mainGlobals "_law_row" = some (some (.ref f21)))
    (l21 : K.lookup f21 = some ⟨oc21, od21, .func (PySem.W.fnOf "_law_row" "_law_row" (defArgs p__law_row) (defBody p__law_row) (defScope p__law_row) .none kV21 dc21 pm21 an21 cd21 ct21), sl21⟩)
    (c21 : PySem.W.codeIn K cd21 "_law_row" = true)
    (k21 : PySem.W.keepIn K (.ref f21) = true)
    (a22 : PySem.W.nsIn K mainGlobals "_law_inner" = some (some (.ref f22)))
    (l22 : K.lookup f22 = some ⟨oc22, od22, .func (PySem.W.fnOf "_law_inner" "_law_inner" (defArgs p__law_inner) (defBody p__law_inner) (defScope p__law_inner) .none kV22 dc22 pm22 an22 cd22 ct22), sl22⟩)
    (c22 : PySem.W.codeIn K cd22 "_law_inner" = true)
    (k22 : PySem.W.keepIn K (.ref f22) = true)
    (a23 : PySem.W.nsIn K mainGlobals "_law_measure" = some (some (.ref f23)))
    (l23 : K.lookup f23 = some ⟨oc23, od23, .func (PySem.W.fnOf "_law_measure" "_law_measure" (defArgs p__law_measure) (defBody p__law_measure) (defScope p__law_measure) .none kV23 dc23 pm23 an23 cd23 ct23), sl23⟩)
    (c23 : PySem.W.codeIn K cd23 "_law_measure" = true)
    (k23 : PySem.W.keepIn K (.ref f23) = true)
    (a24 : PySem.W.nsIn K mainGlobals "_law_class" = some (some (.ref f24)))
    (l24 : K.lookup f24 = some ⟨oc24, od24, .func (PySem.W.fnOf "_law_class" "_law_class" (defArgs p__law_class) (defBody p__law_class) (defScope p__law_class) .none kV24 dc24 pm24 an24 cd24 ct24), sl24⟩)
    (c24 : PySem.W.codeIn K cd24 "_law_class" = true)
    (k24 : PySem.W.keepIn K (.ref f24) = true)
    (a25 : PySem.W.nsIn K mainGlobals "_law_tried" = some (some (.ref f25)))
    (l25 : K.lookup f25 = some ⟨oc25, od25, .func (PySem.W.fnOf "_law_tried" "_law_tried" (defArgs p__law_tried) (defBody p__law_tried) (defScope p__law_tried) .none kV25 dc25 pm25 an25 cd25 ct25), sl25⟩)
    (c25 : PySem.W.codeIn K cd25 "_law_tried" = true)
    (k25 : PySem.W.keepIn K (.ref f25) = true)
    (a26 : PySem.W.nsIn K mainGlobals "_law_bent" = some (some (.ref f26)))
    (l26 : K.lookup f26 = some ⟨oc26, od26, .func (PySem.W.fnOf "_law_bent" "_law_bent" (defArgs p__law_bent) (defBody p__law_bent) (defScope p__law_bent) .none kV26 dc26 pm26 an26 cd26 ct26), sl26⟩)
    (c26 : PySem.W.codeIn K cd26 "_law_bent" = true)
    (k26 : PySem.W.keepIn K (.ref f26) = true)
    (a27 : PySem.W.nsIn K mainGlobals "_law_right" = some (some (.ref f27)))
    (l27 : K.lookup f27 = some ⟨oc27, od27, .func (PySem.W.fnOf "_law_right" "_law_right" (defArgs p__law_right) (defBody p__law_right) (defScope p__law_right) .none kV27 dc27 pm27 an27 cd27 ct27), sl27⟩)
    (c27 : PySem.W.codeIn K cd27 "_law_right" = true)
    (k27 : PySem.W.keepIn K (.ref f27) = true)
    (a28 : PySem.W.nsIn K mainGlobals "law" = some (some (.ref f28)))
    (l28 : K.lookup f28 = some ⟨oc28, od28, .func (PySem.W.fnOf "law" "law" (defArgs p_law) (defBody p_law) (defScope p_law) .none kV28 dc28 pm28 an28 cd28 ct28), sl28⟩)
    (c28 : PySem.W.codeIn K cd28 "law" = true)
    (k28 : PySem.W.keepIn K (.ref f28) = true)
    (y0 : PySem.W.nsIn K mainGlobals "BeatError" = some (some (.ref C0)))
    (y1 : PySem.W.nsIn K mainGlobals "NoProgram" = some (some (.ref C1)))
    (y2 : PySem.W.nsIn K mainGlobals "NoMachine" = some (some (.ref C2)))
    (y3 : PySem.W.nsIn K mainGlobals "NoKind" = some (some (.ref C3)))
    (y4 : PySem.W.nsIn K mainGlobals "NoState" = some (some (.ref C4)))
    (y5 : PySem.W.nsIn K mainGlobals "NoGuess" = some (some (.ref C5)))
    (y6 : PySem.W.nsIn K mainGlobals "NoDeed" = some (some (.ref C6)))
    (y7 : PySem.W.nsIn K mainGlobals "NoPaper" = some (some (.ref C7)))
    (y8 : PySem.W.nsIn K mainGlobals "NoBook" = some (some (.ref C8)))
    (y9 : PySem.W.nsIn K mainGlobals "NoPlace" = some (some (.ref C9)))
    (y10 : PySem.W.nsIn K mainGlobals "TooMany" = some (some (.ref C10)))
    (y11 : PySem.W.nsIn K mainGlobals "NoInput" = some (some (.ref C11)))
    (y12 : PySem.W.nsIn K mainGlobals "NoText" = some (some (.ref C12)))
    (z_ValueError : PySem.W.nsIn K mainGlobals "ValueError" = some none)
    (z_abs : PySem.W.nsIn K mainGlobals "abs" = some none)
    (z_bool : PySem.W.nsIn K mainGlobals "bool" = some none)
    (z_int : PySem.W.nsIn K mainGlobals "int" = some none)
    (z_isinstance : PySem.W.nsIn K mainGlobals "isinstance" = some none)
    (z_len : PySem.W.nsIn K mainGlobals "len" = some none)
    (z_list : PySem.W.nsIn K mainGlobals "list" = some none)
    (z_max : PySem.W.nsIn K mainGlobals "max" = some none)
    (z_min : PySem.W.nsIn K mainGlobals "min" = some none)
    (z_range : PySem.W.nsIn K mainGlobals "range" = some none)
    (z_repr : PySem.W.nsIn K mainGlobals "repr" = some none)
    (z_str : PySem.W.nsIn K mainGlobals "str" = some none)
    (z_sum : PySem.W.nsIn K mainGlobals "sum" = some none)
    (z_tuple : PySem.W.nsIn K mainGlobals "tuple" = some none)
    (xb : xcB K (xlOf (fun i => [C0, C1, C2, C3, C4, C5, C6, C7, C8, C9, C10, C11, C12].getD i default)) = true)
    (r_NoProgram : PySem.W.excIn K C1 veT "ValueError.__new__" = true)
    (g_KEPT : PySem.W.nsIn K mainGlobals "KEPT" = some (some (.ref q_KEPT)))
    (t_KEPT : K.lookup q_KEPT = some ob_KEPT)
    (tc_KEPT : ob_KEPT.cls = .type "tuple")
    (td_KEPT : ob_KEPT.data = .seq it_KEPT n_KEPT)
    (ts_KEPT : it_KEPT.size ≤ sizeLine)
    (tv_KEPT : Vals [(.str "work"), (.str "touch"), (.str "way"), (.str "among"), (.str "or"), (.str "times"), (.str "call"), (.str "part"), (.str "main"), (.str "end")] it_KEPT.toList)
    (g_LETTERS : PySem.W.nsIn K mainGlobals "LETTERS" = some (some u_LETTERS))
    (r_LETTERS : RelV (.str "abcdefghijklmnopqrstuvwxyz") u_LETTERS)
    (g_MOST_DEEP : PySem.W.nsIn K mainGlobals "MOST_DEEP" = some (some u_MOST_DEEP))
    (r_MOST_DEEP : RelV (.int 12) u_MOST_DEEP)
    (g_MOST_WORDS : PySem.W.nsIn K mainGlobals "MOST_WORDS" = some (some u_MOST_WORDS))
    (r_MOST_WORDS : RelV (.int 300) u_MOST_WORDS)
    : ∃ fa : Str → Option Addr, ∀ base : Heap, K.In base → base.Ns mainGlobals mg → FnG P w K mg base 24 fl (spD K fa 1 (sem T con 24 "law")) := by
  have e0 := PySem.W.mg_of X G a0
  have e1 := PySem.W.mg_of X G a1
  have e2 := PySem.W.mg_of X G a2
  have e3 := PySem.W.mg_of X G a3
  have e4 := PySem.W.mg_of X G a4
  have e5 := PySem.W.mg_of X G a5
  have e6 := PySem.W.mg_of X G a6
  have e7 := PySem.W.mg_of X G a7
  have e8 := PySem.W.mg_of X G a8
  have e9 := PySem.W.mg_of X G a9
  have e10 := PySem.W.mg_of X G a10
  have e11 := PySem.W.mg_of X G a11
  have e12 := PySem.W.mg_of X G a12
  have e13 := PySem.W.mg_of X G a13
  have e14 := PySem.W.mg_of X G a14
  have e15 := PySem.W.mg_of X G a15
  have e16 := PySem.W.mg_of X G a16
  have e17 := PySem.W.mg_of X G a17
  have e18 := PySem.W.mg_of X G a18
  have e19 := PySem.W.mg_of X G a19
  have e20 := PySem.W.mg_of X G a20
  have e21 := PySem.W.mg_of X G a21
  have e22 := PySem.W.mg_of X G a22
  have e23 := PySem.W.mg_of X G a23
  have e24 := PySem.W.mg_of X G a24
  have e25 := PySem.W.mg_of X G a25
  have e26 := PySem.W.mg_of X G a26
  have e27 := PySem.W.mg_of X G a27
  have e28 := PySem.W.mg_of X G a28
  have XS : Xcs K mg (fa mg) (xlOf (fun i => [C0, C1, C2, C3, C4, C5, C6, C7, C8, C9, C10, C11, C12].getD i default)) := by
    refine ⟨xb, fun p hp => ?_, fun c C hc h => ?_, fun p hp => ?_⟩
    · simp only [xlOf, List.mem_cons, List.not_mem_nil, or_false] at hp
      rcases hp with rfl | rfl | rfl | rfl | rfl | rfl | rfl | rfl | rfl | rfl | rfl | rfl | rfl
      · exact PySem.W.mg_of X G y0
      · exact PySem.W.mg_of X G y1
      · exact PySem.W.mg_of X G y2
      · exact PySem.W.mg_of X G y3
      · exact PySem.W.mg_of X G y4
      · exact PySem.W.mg_of X G y5
      · exact PySem.W.mg_of X G y6
      · exact PySem.W.mg_of X G y7
      · exact PySem.W.mg_of X G y8
      · exact PySem.W.mg_of X G y9
      · exact PySem.W.mg_of X G y10
      · exact PySem.W.mg_of X G y11
      · exact PySem.W.mg_of X G y12
    · obtain ⟨h1, h2⟩ := fa_back hc h
      simp only [XN, List.mem_cons, List.not_mem_nil, or_false] at h1
      rcases h1 with rfl | rfl | rfl | rfl | rfl | rfl | rfl | rfl | rfl | rfl | rfl | rfl | rfl
      · rw [PySem.W.mg_of X G y0] at h2; cases h2; simp [xlOf]
      · rw [PySem.W.mg_of X G y1] at h2; cases h2; simp [xlOf]
      · rw [PySem.W.mg_of X G y2] at h2; cases h2; simp [xlOf]
      · rw [PySem.W.mg_of X G y3] at h2; cases h2; simp [xlOf]
      · rw [PySem.W.mg_of X G y4] at h2; cases h2; simp [xlOf]
      · rw [PySem.W.mg_of X G y5] at h2; cases h2; simp [xlOf]
      · rw [PySem.W.mg_of X G y6] at h2; cases h2; simp [xlOf]
      · rw [PySem.W.mg_of X G y7] at h2; cases h2; simp [xlOf]
      · rw [PySem.W.mg_of X G y8] at h2; cases h2; simp [xlOf]
      · rw [PySem.W.mg_of X G y9] at h2; cases h2; simp [xlOf]
      · rw [PySem.W.mg_of X G y10] at h2; cases h2; simp [xlOf]
      · rw [PySem.W.mg_of X G y11] at h2; cases h2; simp [xlOf]
      · rw [PySem.W.mg_of X G y12] at h2; cases h2; simp [xlOf]
    · simp only [xlOf, List.mem_cons, List.not_mem_nil, or_false] at hp
      rcases hp with rfl | rfl | rfl | rfl | rfl | rfl | rfl | rfl | rfl | rfl | rfl | rfl | rfl
      · unfold fa; rw [PySem.W.mg_of X G y0]; rfl
      · unfold fa; rw [PySem.W.mg_of X G y1]; rfl
      · unfold fa; rw [PySem.W.mg_of X G y2]; rfl
      · unfold fa; rw [PySem.W.mg_of X G y3]; rfl
      · unfold fa; rw [PySem.W.mg_of X G y4]; rfl
      · unfold fa; rw [PySem.W.mg_of X G y5]; rfl
      · unfold fa; rw [PySem.W.mg_of X G y6]; rfl
      · unfold fa; rw [PySem.W.mg_of X G y7]; rfl
      · unfold fa; rw [PySem.W.mg_of X G y8]; rfl
      · unfold fa; rw [PySem.W.mg_of X G y9]; rfl
      · unfold fa; rw [PySem.W.mg_of X G y10]; rfl
      · unfold fa; rw [PySem.W.mg_of X G y11]; rfl
      · unfold fa; rw [PySem.W.mg_of X G y12]; rfl
  have M : Mods K mg (fun i => [C0, C1, C2, C3, C4, C5, C6, C7, C8, C9, C10, C11, C12].getD i default) := ⟨XS,
    (by simp [xlOf]),
    (by simp [xlOf]),
    r_NoProgram,
    (by simp [xlOf]),
    (by simp [xlOf]),
    (by simp [xlOf]),
    (by simp [xlOf]),
    (by simp [xlOf]),
    (by simp [xlOf]),
    (by simp [xlOf]),
    (by simp [xlOf]),
    (by simp [xlOf]),
    (by simp [xlOf]),
    (by simp [xlOf]),
    PySem.W.mg_none_of X G z_ValueError,
    PySem.W.mg_none_of X G z_abs,
    PySem.W.mg_none_of X G z_bool,
    PySem.W.mg_none_of X G z_int,
    PySem.W.mg_none_of X G z_isinstance,
    PySem.W.mg_none_of X G z_len,
    PySem.W.mg_none_of X G z_list,
    PySem.W.mg_none_of X G z_max,
    PySem.W.mg_none_of X G z_min,
    PySem.W.mg_none_of X G z_range,
    PySem.W.mg_none_of X G z_repr,
    PySem.W.mg_none_of X G z_str,
    PySem.W.mg_none_of X G z_sum,
    PySem.W.mg_none_of X G z_tuple,
    fun e1 e2 hg e3 => r_g (y := "KEPT") (v := .ref q_KEPT) hg (by rw [e2]; exact PySem.W.mg_of X G g_KEPT) rfl (by rw [e3]; rfl) (fun _ _ => .tup (by rw [e1]; exact .inr ⟨_, _, _, t_KEPT, tc_KEPT, td_KEPT, ts_KEPT, tv_KEPT⟩) (.cons (.str _ (by decide)) (.cons (.str _ (by decide)) (.cons (.str _ (by decide)) (.cons (.str _ (by decide)) (.cons (.str _ (by decide)) (.cons (.str _ (by decide)) (.cons (.str _ (by decide)) (.cons (.str _ (by decide)) (.cons (.str _ (by decide)) (.cons (.str _ (by decide)) .nil))))))))))),
    fun e1 e2 hg e3 => r_g (y := "LETTERS") hg (by rw [e2]; exact PySem.W.mg_of X G g_LETTERS) r_LETTERS (by rw [e3]; rfl) (fun _ _ => (.str _ (by decide))),
    fun e1 e2 hg e3 => r_g (y := "MOST_DEEP") hg (by rw [e2]; exact PySem.W.mg_of X G g_MOST_DEEP) r_MOST_DEEP (by rw [e3]; rfl) (fun _ _ => (.int _)),
    fun e1 e2 hg e3 => r_g (y := "MOST_WORDS") hg (by rw [e2]; exact PySem.W.mg_of X G g_MOST_WORDS) r_MOST_WORDS (by rw [e3]; rfl) (fun _ _ => (.int _))⟩
  have b0 := (fun_mk (st := p_is_name) l0 c0 k0).binds (ps := ["thing"]) fun _ _ _ _ _ _ us hl => match us, hl with | [_], _ => rfl
  have b1 := (fun_mk (st := p_is_number) l1 c1 k1).binds (ps := ["thing", "least", "most"]) fun _ _ _ _ _ _ us hl => match us, hl with | [_, _, _], _ => rfl
  have b2 := (fun_mk (st := p_is_word_of) l2 c2 k2).binds (ps := ["thing", "word", "many"]) fun _ _ _ _ _ _ us hl => match us, hl with | [_, _, _], _ => rfl
  have b3 := (fun_mk (st := p_is_deed) l3 c3 k3).binds (ps := ["thing"]) fun _ _ _ _ _ _ us hl => match us, hl with | [_], _ => rfl
  have b4 := (fun_mk (st := p_rows_of) l4 c4 k4).binds (ps := ["thing"]) fun _ _ _ _ _ _ us hl => match us, hl with | [_], _ => rfl
  have b5 := (fun_mk (st := p_measured) l5 c5 k5).binds (ps := ["thing"]) fun _ _ _ _ _ _ us hl => match us, hl with | [_], _ => rfl
  have b6 := (fun_mk (st := p_is_row) l6 c6 k6).binds (ps := ["thing"]) fun _ _ _ _ _ _ us hl => match us, hl with | [_], _ => rfl
  have b7 := (fun_mk (st := p_need_measured) l7 c7 k7).binds (ps := ["row"]) fun _ _ _ _ _ _ us hl => match us, hl with | [_], _ => rfl
  have b8 := (fun_mk (st := p_words_in) l8 c8 k8).binds (ps := ["row"]) fun _ _ _ _ _ _ us hl => match us, hl with | [_], _ => rfl
  have b9 := (fun_mk (st := p_deep) l9 c9 k9).binds (ps := ["row"]) fun _ _ _ _ _ _ us hl => match us, hl with | [_], _ => rfl
  have b10 := (fun_mk (st := p__law_state) l10 c10 k10).binds (ps := ["_law_script", "_law_k"]) fun _ _ _ _ _ _ us hl => match us, hl with | [_, _], _ => rfl
  have b11 := (fun_mk (st := p__law_next) l11 c11 k11).binds (ps := ["_law_state_here", "_law_amount"]) fun _ _ _ _ _ _ us hl => match us, hl with | [_, _], _ => rfl
  have b12 := (fun_mk (st := p__law_pick) l12 c12 k12).binds (ps := ["_law_state_here", "_law_some"]) fun _ _ _ _ _ _ us hl => match us, hl with | [_, _], _ => rfl
  have b13 := (fun_mk (st := p__law_kept) l13 c13 k13).binds (ps := []) fun _ _ _ _ _ _ us hl => match us, hl with | [], _ => rfl
  have b14 := (fun_mk (st := p__law_name) l14 c14 k14).binds (ps := ["_law_state_here"]) fun _ _ _ _ _ _ us hl => match us, hl with | [_], _ => rfl
  have b15 := (fun_mk (st := p__law_is_name) l15 c15 k15).binds (ps := ["_law_thing"]) fun _ _ _ _ _ _ us hl => match us, hl with | [_], _ => rfl
  have b16 := (fun_mk (st := p__law_deed) l16 c16 k16).binds (ps := ["_law_state_here", "_law_names"]) fun _ _ _ _ _ _ us hl => match us, hl with | [_, _], _ => rfl
  have b17 := (fun_mk (st := p__law_is_number) l17 c17 k17).binds (ps := ["_law_thing", "_law_least", "_law_most"]) fun _ _ _ _ _ _ us hl => match us, hl with | [_, _, _], _ => rfl
  have b18 := (fun_mk (st := p__law_is_of) l18 c18 k18).binds (ps := ["_law_thing", "_law_word", "_law_amount"]) fun _ _ _ _ _ _ us hl => match us, hl with | [_, _, _], _ => rfl
  have b19 := (fun_mk (st := p__law_is_deed) l19 c19 k19).binds (ps := ["_law_thing"]) fun _ _ _ _ _ _ us hl => match us, hl with | [_], _ => rfl
  have b20 := (fun_mk (st := p__law_odd) l20 c20 k20).binds (ps := ["_law_state_here", "_law_thing"]) fun _ _ _ _ _ _ us hl => match us, hl with | [_, _], _ => rfl
  have b21 := (fun_mk (st := p__law_row) l21 c21 k21).binds (ps := ["_law_state_here", "_law_names", "_law_parts", "_law_room", "_law_level"]) fun _ _ _ _ _ _ us hl => match us, hl with | [_, _, _, _, _], _ => rfl
  have b22 := (fun_mk (st := p__law_inner) l22 c22 k22).binds (ps := ["_law_word"]) fun _ _ _ _ _ _ us hl => match us, hl with | [_], _ => rfl
  have b23 := (fun_mk (st := p__law_measure) l23 c23 k23).binds (ps := ["_law_thing"]) fun _ _ _ _ _ _ us hl => match us, hl with | [_], _ => rfl
  have b24 := (fun_mk (st := p__law_class) l24 c24 k24).binds (ps := ["_law_e"]) fun _ _ _ _ _ _ us hl => match us, hl with | [_], _ => rfl
  have b25 := (fun_mk (st := p__law_tried) l25 c25 k25).binds (ps := ["_law_work", "_law_thing"]) fun _ _ _ _ _ _ us hl => match us, hl with | [_, _], _ => rfl
  have b26 := (fun_mk (st := p__law_bent) l26 c26 k26).binds (ps := ["_law_state_here", "_law_thing"]) fun _ _ _ _ _ _ us hl => match us, hl with | [_, _], _ => rfl
  have b27 := (fun_mk (st := p__law_right) l27 c27 k27).binds (ps := ["_law_thing"]) fun _ _ _ _ _ _ us hl => match us, hl with | [_], _ => rfl
  have b28 := (fun_mk (st := p_law) l28 c28 k28).binds (ps := ["_law_script"]) fun _ _ _ _ _ _ us hl => match us, hl with | [_], _ => rfl
  refine ⟨fa mg, fun base _ _ => ?_⟩
  have all : ∀ k, AllG P w K mg base (fa mg) T con k := by
    refine allG (fun x d hx => ?_) (fun k ih x d hx => ?_)
    · rcases T_cases hx with ⟨rfl, rfl⟩ | ⟨rfl, rfl⟩ | ⟨rfl, rfl⟩ | ⟨rfl, rfl⟩ | ⟨rfl, rfl⟩ | ⟨rfl, rfl⟩ | ⟨rfl, rfl⟩ | ⟨rfl, rfl⟩ | ⟨rfl, rfl⟩ | ⟨rfl, rfl⟩ | ⟨rfl, rfl⟩ | ⟨rfl, rfl⟩ | ⟨rfl, rfl⟩ | ⟨rfl, rfl⟩ | ⟨rfl, rfl⟩ | ⟨rfl, rfl⟩ | ⟨rfl, rfl⟩ | ⟨rfl, rfl⟩ | ⟨rfl, rfl⟩ | ⟨rfl, rfl⟩ | ⟨rfl, rfl⟩ | ⟨rfl, rfl⟩ | ⟨rfl, rfl⟩ | ⟨rfl, rfl⟩ | ⟨rfl, rfl⟩ | ⟨rfl, rfl⟩ | ⟨rfl, rfl⟩ | ⟨rfl, rfl⟩ | ⟨rfl, rfl⟩
      · exact ⟨_, e0, fa_of hx e0, k0⟩
      · exact ⟨_, e1, fa_of hx e1, k1⟩
      · exact ⟨_, e2, fa_of hx e2, k2⟩
      · exact ⟨_, e3, fa_of hx e3, k3⟩
      · exact ⟨_, e4, fa_of hx e4, k4⟩
      · exact ⟨_, e5, fa_of hx e5, k5⟩
      · exact ⟨_, e6, fa_of hx e6, k6⟩
      · exact ⟨_, e7, fa_of hx e7, k7⟩
      · exact ⟨_, e8, fa_of hx e8, k8⟩
      · exact ⟨_, e9, fa_of hx e9, k9⟩
      · exact ⟨_, e10, fa_of hx e10, k10⟩
      · exact ⟨_, e11, fa_of hx e11, k11⟩
      · exact ⟨_, e12, fa_of hx e12, k12⟩
      · exact ⟨_, e13, fa_of hx e13, k13⟩
      · exact ⟨_, e14, fa_of hx e14, k14⟩
      · exact ⟨_, e15, fa_of hx e15, k15⟩
      · exact ⟨_, e16, fa_of hx e16, k16⟩
      · exact ⟨_, e17, fa_of hx e17, k17⟩
      · exact ⟨_, e18, fa_of hx e18, k18⟩
      · exact ⟨_, e19, fa_of hx e19, k19⟩
      · exact ⟨_, e20, fa_of hx e20, k20⟩
      · exact ⟨_, e21, fa_of hx e21, k21⟩
      · exact ⟨_, e22, fa_of hx e22, k22⟩
      · exact ⟨_, e23, fa_of hx e23, k23⟩
      · exact ⟨_, e24, fa_of hx e24, k24⟩
      · exact ⟨_, e25, fa_of hx e25, k25⟩
      · exact ⟨_, e26, fa_of hx e26, k26⟩
      · exact ⟨_, e27, fa_of hx e27, k27⟩
      · exact ⟨_, e28, fa_of hx e28, k28⟩
    · rcases T_cases hx with ⟨rfl, rfl⟩ | ⟨rfl, rfl⟩ | ⟨rfl, rfl⟩ | ⟨rfl, rfl⟩ | ⟨rfl, rfl⟩ | ⟨rfl, rfl⟩ | ⟨rfl, rfl⟩ | ⟨rfl, rfl⟩ | ⟨rfl, rfl⟩ | ⟨rfl, rfl⟩ | ⟨rfl, rfl⟩ | ⟨rfl, rfl⟩ | ⟨rfl, rfl⟩ | ⟨rfl, rfl⟩ | ⟨rfl, rfl⟩ | ⟨rfl, rfl⟩ | ⟨rfl, rfl⟩ | ⟨rfl, rfl⟩ | ⟨rfl, rfl⟩ | ⟨rfl, rfl⟩ | ⟨rfl, rfl⟩ | ⟨rfl, rfl⟩ | ⟨rfl, rfl⟩ | ⟨rfl, rfl⟩ | ⟨rfl, rfl⟩ | ⟨rfl, rfl⟩ | ⟨rfl, rfl⟩ | ⟨rfl, rfl⟩ | ⟨rfl, rfl⟩
      · exact ⟨_, e0, fa_of hx e0, k0, FnG.of (fun_mk (st := p_is_name) l0 c0 k0) sc_is_name b0 hx rfl rfl (by decide) fa_ft ih (fun _ _ _ _ _ _ _ _ C po => d_is_name M C po)⟩
      · exact ⟨_, e1, fa_of hx e1, k1, FnG.of (fun_mk (st := p_is_number) l1 c1 k1) sc_is_number b1 hx rfl rfl (by decide) fa_ft ih (fun _ _ _ _ _ _ _ _ C po => d_is_number M C po)⟩
      · exact ⟨_, e2, fa_of hx e2, k2, FnG.of (fun_mk (st := p_is_word_of) l2 c2 k2) sc_is_word_of b2 hx rfl rfl (by decide) fa_ft ih (fun _ _ _ _ _ _ _ _ C po => d_is_word_of M C po)⟩
      · exact ⟨_, e3, fa_of hx e3, k3, FnG.of (fun_mk (st := p_is_deed) l3 c3 k3) sc_is_deed b3 hx rfl rfl (by decide) fa_ft ih (fun _ _ _ _ _ _ _ _ C po => d_is_deed M C po)⟩
      · exact ⟨_, e4, fa_of hx e4, k4, FnG.of (fun_mk (st := p_rows_of) l4 c4 k4) sc_rows_of b4 hx rfl rfl (by decide) fa_ft ih (fun _ _ _ _ _ _ _ _ C po => d_rows_of M C po)⟩
      · exact ⟨_, e5, fa_of hx e5, k5, FnG.of (fun_mk (st := p_measured) l5 c5 k5) sc_measured b5 hx rfl rfl (by decide) fa_ft ih (fun _ _ _ _ _ _ _ _ C po => d_measured M C po)⟩
      · exact ⟨_, e6, fa_of hx e6, k6, FnG.of (fun_mk (st := p_is_row) l6 c6 k6) sc_is_row b6 hx rfl rfl (by decide) fa_ft ih (fun _ _ _ _ _ _ _ _ C po => d_is_row M C po)⟩
      · exact ⟨_, e7, fa_of hx e7, k7, FnG.of (fun_mk (st := p_need_measured) l7 c7 k7) sc_need_measured b7 hx rfl rfl (by decide) fa_ft ih (fun _ _ _ _ _ _ _ _ C po => d_need_measured M C po)⟩
      · exact ⟨_, e8, fa_of hx e8, k8, FnG.of (fun_mk (st := p_words_in) l8 c8 k8) sc_words_in b8 hx rfl rfl (by decide) fa_ft ih (fun _ _ _ _ _ _ _ _ C po => d_words_in M C po)⟩
      · exact ⟨_, e9, fa_of hx e9, k9, FnG.of (fun_mk (st := p_deep) l9 c9 k9) sc_deep b9 hx rfl rfl (by decide) fa_ft ih (fun _ _ _ _ _ _ _ _ C po => d_deep M C po)⟩
      · exact ⟨_, e10, fa_of hx e10, k10, FnG.of (fun_mk (st := p__law_state) l10 c10 k10) sc__law_state b10 hx rfl rfl (by decide) fa_ft ih (fun _ _ _ _ _ _ _ _ C po => d__law_state M C po)⟩
      · exact ⟨_, e11, fa_of hx e11, k11, FnG.of (fun_mk (st := p__law_next) l11 c11 k11) sc__law_next b11 hx rfl rfl (by decide) fa_ft ih (fun _ _ _ _ _ _ _ _ C po => d__law_next M C po)⟩
      · exact ⟨_, e12, fa_of hx e12, k12, FnG.of (fun_mk (st := p__law_pick) l12 c12 k12) sc__law_pick b12 hx rfl rfl (by decide) fa_ft ih (fun _ _ _ _ _ _ _ _ C po => d__law_pick M C po)⟩
      · exact ⟨_, e13, fa_of hx e13, k13, FnG.of (fun_mk (st := p__law_kept) l13 c13 k13) sc__law_kept b13 hx rfl rfl (by decide) fa_ft ih (fun _ _ _ _ _ _ _ _ C po => d__law_kept M C po)⟩
      · exact ⟨_, e14, fa_of hx e14, k14, FnG.of (fun_mk (st := p__law_name) l14 c14 k14) sc__law_name b14 hx rfl rfl (by decide) fa_ft ih (fun _ _ _ _ _ _ _ _ C po => d__law_name M C po)⟩
      · exact ⟨_, e15, fa_of hx e15, k15, FnG.of (fun_mk (st := p__law_is_name) l15 c15 k15) sc__law_is_name b15 hx rfl rfl (by decide) fa_ft ih (fun _ _ _ _ _ _ _ _ C po => d__law_is_name M C po)⟩
      · exact ⟨_, e16, fa_of hx e16, k16, FnG.of (fun_mk (st := p__law_deed) l16 c16 k16) sc__law_deed b16 hx rfl rfl (by decide) fa_ft ih (fun _ _ _ _ _ _ _ _ C po => d__law_deed M C po)⟩
      · exact ⟨_, e17, fa_of hx e17, k17, FnG.of (fun_mk (st := p__law_is_number) l17 c17 k17) sc__law_is_number b17 hx rfl rfl (by decide) fa_ft ih (fun _ _ _ _ _ _ _ _ C po => d__law_is_number M C po)⟩
      · exact ⟨_, e18, fa_of hx e18, k18, FnG.of (fun_mk (st := p__law_is_of) l18 c18 k18) sc__law_is_of b18 hx rfl rfl (by decide) fa_ft ih (fun _ _ _ _ _ _ _ _ C po => d__law_is_of M C po)⟩
      · exact ⟨_, e19, fa_of hx e19, k19, FnG.of (fun_mk (st := p__law_is_deed) l19 c19 k19) sc__law_is_deed b19 hx rfl rfl (by decide) fa_ft ih (fun _ _ _ _ _ _ _ _ C po => d__law_is_deed M C po)⟩
      · exact ⟨_, e20, fa_of hx e20, k20, FnG.of (fun_mk (st := p__law_odd) l20 c20 k20) sc__law_odd b20 hx rfl rfl (by decide) fa_ft ih (fun _ _ _ _ _ _ _ _ C po => d__law_odd M C po)⟩
      · exact ⟨_, e21, fa_of hx e21, k21, FnG.of (fun_mk (st := p__law_row) l21 c21 k21) sc__law_row b21 hx rfl rfl (by decide) fa_ft ih (fun _ _ _ _ _ _ _ _ C po => d__law_row M C po)⟩
      · exact ⟨_, e22, fa_of hx e22, k22, FnG.of (fun_mk (st := p__law_inner) l22 c22 k22) sc__law_inner b22 hx rfl rfl (by decide) fa_ft ih (fun _ _ _ _ _ _ _ _ C po => d__law_inner M C po)⟩
      · exact ⟨_, e23, fa_of hx e23, k23, FnG.of (fun_mk (st := p__law_measure) l23 c23 k23) sc__law_measure b23 hx rfl rfl (by decide) fa_ft ih (fun _ _ _ _ _ _ _ _ C po => d__law_measure M C po)⟩
      · exact ⟨_, e24, fa_of hx e24, k24, FnG.of (fun_mk (st := p__law_class) l24 c24 k24) sc__law_class b24 hx rfl rfl (by decide) fa_ft ih (fun _ _ _ _ _ _ _ _ C po => d__law_class M C po)⟩
      · exact ⟨_, e25, fa_of hx e25, k25, FnG.of (fun_mk (st := p__law_tried) l25 c25 k25) sc__law_tried b25 hx rfl rfl (by decide) fa_ft ih (fun _ _ _ _ _ _ _ _ C po => d__law_tried M C po)⟩
      · exact ⟨_, e26, fa_of hx e26, k26, FnG.of (fun_mk (st := p__law_bent) l26 c26 k26) sc__law_bent b26 hx rfl rfl (by decide) fa_ft ih (fun _ _ _ _ _ _ _ _ C po => d__law_bent M C po)⟩
      · exact ⟨_, e27, fa_of hx e27, k27, FnG.of (fun_mk (st := p__law_right) l27 c27 k27) sc__law_right b27 hx rfl rfl (by decide) fa_ft ih (fun _ _ _ _ _ _ _ _ C po => d__law_right M C po)⟩
      · exact ⟨_, e28, fa_of hx e28, k28, FnG.of (fun_mk (st := p_law) l28 c28 k28) sc_law b28 hx rfl rfl (by decide) fa_ft ih (fun _ _ _ _ _ _ _ _ C po => d_law M C po)⟩
  obtain ⟨f, h1, _, _, F⟩ := all 24 "law" w_law rfl
  rw [hfa] at h1
  cases h1
  exact F
end Lk03
set_option maxHeartbeats 4000000
/-! ## K3l -/
namespace Lk03
open PySem L2 Lb Cm
local macro_rules | `(tactic| walk_at "lb") => `(tactic| simp (config := {dsimp := false}) only [↓h1_eq, ↓h2_eq, ↓h3_eq, ↓h4_eq, goR_eq, goX_eq, br_t, br_f, g0, gS, s0, sS, ↓varP_eq, varS_d, varS_o, varS_a, varS_f, varS_z, rdS_eq, ↓optP_eq, ↓rdP_d, ↓rdP_n, ↓rdP_s, ↓rdP_a, dat_l, dat_m, slotDat_d, slotDat_o, argDat_c, ↓x_v, ↓x_k, ↓x_g, ↓x_fn, ↓x_bin, ↓x_neg, ↓x_cmp, ↓x_chain, ↓x_isN, ↓x_isB, ↓x_and, ↓x_or, ↓x_not, ↓x_ife, ↓x_tup, ↓x_lst, ↓x_dic0, ↓x_dic1, ↓x_ix, zS_eq, ↓x_zlen, ↓x_zix, ↓x_sl, ↓x_rv, ↓x_call, fS_eq, ↓x_callv, ↓x_bi, ↓x_app, ↓x_pop, ↓x_ext, ↓x_join, ↓x_upper, ↓x_lc, ↓y_e, ↓y_tr, ↓y_not, ↓y_and, ↓y_or, ↓a_nil', ↓a_cons', ↓d_nil', ↓d_cons', ↓o_no', ↓o_so', ↓j_seq, ↓j_str, ↓j_rng1, ↓j_rng2, ↓c_no', ↓c_so', ↓q_nil, ↓q_cons, ↓z_asg, ↓z_par, ↓z_aug, ↓z_put, ↓z_ex, ↓z_ret, ↓z_retN, ↓z_ite, ↓z_for, ↓z_whl, ↓z_pass, ↓z_brk, ↓z_cont, ↓z_rais, ↓dEnds_mk, ↓bindP_d, ↓bindP_n, ↓bindP_f, bindA_eq, ↓bindP_a, bindS_o, bindS_d, ↓bindP_s, ↓tgV_v, ↓tgV_t, ↓tgP_v, ↓tgP_t, ↓tgsP_nil, ↓tgsP_cons, ↓datP_d, ↓datP_n, datS_o, datS_d, ↓datP_s, ↓valP_n, ↓valP_d, ↓valP_s, seqA_eq, ↓seqP_a, ↓seqD_l, ↓seqD_t, ↓seqP_d, ↓seqP_n, ↓seqP_s, ↓isNP_none, ↓isNP_bool, ↓isNP_int, ↓isNP_str, ↓isNP_list, ↓isNP_tuple, ↓isNP_dict, ↓isNP_n, ↓isNP_f, getS_eq, getA_eq, ↓getCP_s, ↓getCP_a, ↓isNP_s, ↓isNP_a, ↓putP_s, ↓putP_a, lisP_eq, ↓appP_eq, lisD_eq, ↓extP_eq, ↓popP_eq, ↓putIxP_eq, ↓putP_n, ↓putP_d, ↓bin_add_i, ↓bin_add_s, ↓bin_add_t, ↓bin_add_l, ↓bin_sub_i, ↓bin_mul_i, ↓bin_mul_l, ↓bin_mul_t, ↓bin_fdiv_i, ↓bin_mod_i, ↓bin_pow_i, ↓aug_add, ↓aug_sub, ↓cmp_lt, ↓cmp_le, ↓cmp_gt, ↓cmp_ge, ↓cmp_lts, ↓cmp_eq, ↓cmp_ne, ↓cmp_in, ↓cmp_notin, ↓in_t, ↓in_l, ↓in_s1, fl_n, fl_b, fl_i, fl_s, fl_t, fl_l, fl_d, List.all_cons, List.all_nil, Bool.and_true, Bool.true_and, Int.reduceToNat, eo_i, eo_s, eo_b, eo_is, eo_si, ev_i, ev_s, ev_b, ev_is, ev_si, ↓ix_l, ↓ix_t, ↓ix_s, atI_0, atI_1, atI_2, atI_3, ixN_0, ixN_1, ixN_2, ixN_3, ↓sl_l, ↓sl_t, ↓sl_s, ↓rv_l, ↓rv_t, ↓rv_s, eo_ln, eo_tn, ev_ll, ev_tt, ea_n, ea_nc, ea_cc, List.isEmpty_nil, List.isEmpty_cons, ↓intP_eq, ↓strP_eq, ↓tru_b, ↓truA_b, ↓truA_i, ↓truA_s, ↓truA_l, ↓truA_t, ↓truA_n, ↓lstP_eq, ↓rds_nil, ↓rds_cons, ↓b_len_s, ↓b_len_t, ↓b_len_l, ↓b_abs, ↓b_min2, ↓b_max2, ↓b_int_i, ↓b_int_b, ↓b_str, ↓b_isi, ↓b_isiLT, ↓b_tup_l, ↓b_tup_t, ↓b_lst_l, ↓b_lst_t, ↓b_sum, ↓backs_nil, ↓backs_s, ↓backs_n, ag_d, ag_n, ag_f, ag_z, ag_s, ag_a, agS_o, agS_d, agA_c, ↓ags_nil, ↓ags_cons, res_d, res_n, res_f, res_a, resA_n, resA_s, resA_a, ↓callP_eq, sh_nil, sh_d, sh_n, sh_f, sh_z, sh_s, sh_a, di_0, di_1, di_2, di_2a, di_2b, di_2c, rv_d, rv_n, rv_f, rv_sl, rv_a, rvS_o, rvS_d, rvA_c, shp_nil, shp_cc, shp_d, shp_f, shp_z, ownS_no, ownS_d, own_nil, own_cons, ↓bindW_eq, ↓wip_nil, ↓wip_cons, ↓rest_nil, ↓rest_cons, startW, slsFrom, slOf, cvOf, isT, List.length_cons, List.length_nil, List.replicate, List.append, List.cons_append, List.nil_append, List.map, List.map_cons, List.map_nil, Option.getD_some, Nat.reduceAdd, Nat.reduceSub, Nat.reduceMul, Nat.reduceEqDiff, Nat.zero_add, Nat.reduceLeDiff, Nat.reduceLT, Nat.reduceBEq, Int.reduceAdd, Int.reduceSub, Int.reduceMul, Int.reduceNeg, Int.reduceLT, Int.reduceLE, Int.reduceEq, Int.reducePow, Int.cast_ofNat_Int, decide_eq_true_eq, decide_true, decide_false, Bool.not_true, Bool.not_false, Bool.not_eq_true', decide_eq_false_iff_not, Bool.false_eq_true, Bool.true_eq_false, eq_self, ne_eq, not_false_eq_true, not_true_eq_false, reduceIte, true_and, and_true, bne_self_eq_false, Bool.false_bne, Bool.true_bne, Bool.cond_true, Bool.cond_false, sizeLine_eq, varS_x, ↓x_isx, ↓isxP_x, ↓x_cnt, ↓x_idx, ↓cntP_l, ↓idxP_l, ↓z_tryx, ↓z_augIx, ↓bindP_x, ↓isNP_x, ag_x, sh_x, shp_x, ↓x_sumL, ↓x_noneIn, ↓noneInP_l, itmD_l, itmD_t, ↓b_repr, ↓sumLP_eq])
local macro_rules | `(tactic| push_cast only [$as,*]) => `(tactic| simp (config := {dsimp := false}) only [↓h1_eq, ↓h2_eq, ↓h3_eq, ↓h4_eq, goR_eq, goX_eq, br_t, br_f, g0, gS, s0, sS, ↓varP_eq, varS_d, varS_o, varS_a, varS_f, varS_z, rdS_eq, ↓optP_eq, ↓rdP_d, ↓rdP_n, ↓rdP_s, ↓rdP_a, dat_l, dat_m, slotDat_d, slotDat_o, argDat_c, ↓x_v, ↓x_k, ↓x_g, ↓x_fn, ↓x_bin, ↓x_neg, ↓x_cmp, ↓x_chain, ↓x_isN, ↓x_isB, ↓x_and, ↓x_or, ↓x_not, ↓x_ife, ↓x_tup, ↓x_lst, ↓x_dic0, ↓x_dic1, ↓x_ix, zS_eq, ↓x_zlen, ↓x_zix, ↓x_sl, ↓x_rv, ↓x_call, fS_eq, ↓x_callv, ↓x_bi, ↓x_app, ↓x_pop, ↓x_ext, ↓x_join, ↓x_upper, ↓x_lc, ↓y_e, ↓y_tr, ↓y_not, ↓y_and, ↓y_or, ↓a_nil', ↓a_cons', ↓d_nil', ↓d_cons', ↓o_no', ↓o_so', ↓j_seq, ↓j_str, ↓j_rng1, ↓j_rng2, ↓c_no', ↓c_so', ↓q_nil, ↓q_cons, ↓z_asg, ↓z_par, ↓z_aug, ↓z_put, ↓z_ex, ↓z_ret, ↓z_retN, ↓z_ite, ↓z_for, ↓z_whl, ↓z_pass, ↓z_brk, ↓z_cont, ↓z_rais, ↓dEnds_mk, ↓bindP_d, ↓bindP_n, ↓bindP_f, bindA_eq, ↓bindP_a, bindS_o, bindS_d, ↓bindP_s, ↓tgV_v, ↓tgV_t, ↓tgP_v, ↓tgP_t, ↓tgsP_nil, ↓tgsP_cons, ↓datP_d, ↓datP_n, datS_o, datS_d, ↓datP_s, ↓valP_n, ↓valP_d, ↓valP_s, seqA_eq, ↓seqP_a, ↓seqD_l, ↓seqD_t, ↓seqP_d, ↓seqP_n, ↓seqP_s, ↓isNP_none, ↓isNP_bool, ↓isNP_int, ↓isNP_str, ↓isNP_list, ↓isNP_tuple, ↓isNP_dict, ↓isNP_n, ↓isNP_f, getS_eq, getA_eq, ↓getCP_s, ↓getCP_a, ↓isNP_s, ↓isNP_a, ↓putP_s, ↓putP_a, lisP_eq, ↓appP_eq, lisD_eq, ↓extP_eq, ↓popP_eq, ↓putIxP_eq, ↓putP_n, ↓putP_d, ↓bin_add_i, ↓bin_add_s, ↓bin_add_t, ↓bin_add_l, ↓bin_sub_i, ↓bin_mul_i, ↓bin_mul_l, ↓bin_mul_t, ↓bin_fdiv_i, ↓bin_mod_i, ↓bin_pow_i, ↓aug_add, ↓aug_sub, ↓cmp_lt, ↓cmp_le, ↓cmp_gt, ↓cmp_ge, ↓cmp_lts, ↓cmp_eq, ↓cmp_ne, ↓cmp_in, ↓cmp_notin, ↓in_t, ↓in_l, ↓in_s1, fl_n, fl_b, fl_i, fl_s, fl_t, fl_l, fl_d, List.all_cons, List.all_nil, Bool.and_true, Bool.true_and, Int.reduceToNat, eo_i, eo_s, eo_b, eo_is, eo_si, ev_i, ev_s, ev_b, ev_is, ev_si, ↓ix_l, ↓ix_t, ↓ix_s, atI_0, atI_1, atI_2, atI_3, ixN_0, ixN_1, ixN_2, ixN_3, ↓sl_l, ↓sl_t, ↓sl_s, ↓rv_l, ↓rv_t, ↓rv_s, eo_ln, eo_tn, ev_ll, ev_tt, ea_n, ea_nc, ea_cc, List.isEmpty_nil, List.isEmpty_cons, ↓intP_eq, ↓strP_eq, ↓tru_b, ↓truA_b, ↓truA_i, ↓truA_s, ↓truA_l, ↓truA_t, ↓truA_n, ↓lstP_eq, ↓rds_nil, ↓rds_cons, ↓b_len_s, ↓b_len_t, ↓b_len_l, ↓b_abs, ↓b_min2, ↓b_max2, ↓b_int_i, ↓b_int_b, ↓b_str, ↓b_isi, ↓b_isiLT, ↓b_tup_l, ↓b_tup_t, ↓b_lst_l, ↓b_lst_t, ↓b_sum, ↓backs_nil, ↓backs_s, ↓backs_n, ag_d, ag_n, ag_f, ag_z, ag_s, ag_a, agS_o, agS_d, agA_c, ↓ags_nil, ↓ags_cons, res_d, res_n, res_f, res_a, resA_n, resA_s, resA_a, ↓callP_eq, sh_nil, sh_d, sh_n, sh_f, sh_z, sh_s, sh_a, di_0, di_1, di_2, di_2a, di_2b, di_2c, rv_d, rv_n, rv_f, rv_sl, rv_a, rvS_o, rvS_d, rvA_c, shp_nil, shp_cc, shp_d, shp_f, shp_z, ownS_no, ownS_d, own_nil, own_cons, ↓bindW_eq, ↓wip_nil, ↓wip_cons, ↓rest_nil, ↓rest_cons, startW, slsFrom, slOf, cvOf, isT, List.length_cons, List.length_nil, List.replicate, List.append, List.cons_append, List.nil_append, List.map, List.map_cons, List.map_nil, Option.getD_some, Nat.reduceAdd, Nat.reduceSub, Nat.reduceMul, Nat.reduceEqDiff, Nat.zero_add, Nat.reduceLeDiff, Nat.reduceLT, Nat.reduceBEq, Int.reduceAdd, Int.reduceSub, Int.reduceMul, Int.reduceNeg, Int.reduceLT, Int.reduceLE, Int.reduceEq, Int.reducePow, Int.cast_ofNat_Int, decide_eq_true_eq, decide_true, decide_false, Bool.not_true, Bool.not_false, Bool.not_eq_true', decide_eq_false_iff_not, Bool.false_eq_true, Bool.true_eq_false, eq_self, ne_eq, not_false_eq_true, not_true_eq_false, reduceIte, true_and, and_true, bne_self_eq_false, Bool.false_bne, Bool.true_bne, Bool.cond_true, Bool.cond_false, sizeLine_eq, varS_x, ↓x_isx, ↓isxP_x, ↓x_cnt, ↓x_idx, ↓cntP_l, ↓idxP_l, ↓z_tryx, ↓z_augIx, ↓bindP_x, ↓isNP_x, ag_x, sh_x, shp_x, ↓x_sumL, ↓x_noneIn, ↓noneInP_l, itmD_l, itmD_t, ↓b_repr, ↓sumLP_eq, $as,*])
/-! ### small numbers -/
theorem measW_d {m : PyData → Option (Nat × Nat)} {B : Nat} (h : ∀ x n d, m x = some (n, d) → d ≤ B) : ∀ (rs : List PyData) (n d : Nat), measW m rs = some (n, d) → d ≤ B
  | [], n, d, e => by cases e; exact Nat.zero_le _
  | r :: rs, n, d, e => by
    rw [measW] at e
    rcases q : m r with _ | ⟨n1, d1⟩
    · rw [q] at e
      rcases q2 : measW m rs with _ | ⟨n2, d2⟩ <;> rw [q2] at e <;> cases e
    · rcases q2 : measW m rs with _ | ⟨n2, d2⟩
      · rw [q, q2] at e
        cases e
      · rw [q, q2] at e
        have h1 := h _ _ _ q
        have h2 := measW_d h rs _ _ q2
        cases e
        omega
theorem meas_d : ∀ (f : Nat) (x : PyData) (n d : Nat), meas f x = some (n, d) → d ≤ f
  | 0, _, _, _, e => by cases e
  | f + 1, x, n, d, e => by
    cases x with
    | tuple ws =>
      rw [meas] at e
      obtain ⟨rs, _, e⟩ := Option.bind_eq_some_iff.mp e
      obtain ⟨p, e1, e⟩ := Option.map_eq_some_iff.mp e
      have := measW_d (meas_d f) rs p.1 p.2 e1
      cases e
      omega
    | _ => cases e
theorem measD_le {x : PyData} {n d : Nat} (e : measD x = some (n, d)) : n ≤ 300 ∧ d ≤ 12 := by
  unfold measD Cm.bound at e
  obtain ⟨p, e1, e⟩ := Option.bind_eq_some_iff.mp e
  have := meas_d 12 x p.1 p.2 e1
  split at e
  · cases e
    exact ⟨by assumption, this⟩
  · cases e
theorem shown_small {n d : Nat} (hn : n ≤ 300) (hd : d ≤ 12) : (PyData.list [.list [.int n], .list [.int d]]).shown.length ≤ sizeLine := by
  have h1 := num_len (i := (n : Int)) (by omega) (by omega)
  have h2 := num_len (i := (d : Int)) (by omega) (by omega)
  rw [PyData.shown, PyData.shownAll, PyData.shownAll, PyData.shownAll, PyData.shown, PyData.shown, PyData.shownAll, PyData.shownAll, PyData.shown, PyData.shownAll, PyData.shownAll, PyData.shown]
  have c1 : (Str.ofString "[").length = 1 := by decide +kernel
  have c2 : (Str.ofString "]").length = 1 := by decide +kernel
  have c3 : (Str.ofString (if 0 + 1 > 0 then ", " else "")).length = 2 := by decide +kernel
  have c4 : (Str.ofString (if 0 > 0 then ", " else "")).length = 0 := by decide +kernel
  unfold listText
  simp only [textFrom, strLen, c1, c2, c3, c4]
  rw [sizeLine_eq]
  omega
theorem small_ok {n d : Nat} (hn : n ≤ 300) (hd : d ≤ 12) : isT .list (PyData.list [.list [.int n], .list [.int d]]) = true ∧ (PyData.list [.list [.int n], .list [.int d]]).canLay0 = true ∧ (PyData.list [.list [.int n], .list [.int d]]).depth ≤ 60 ∧ (PyData.list [.list [.int n], .list [.int d]]).showable = true ∧ (PyData.list [.list [.int n], .list [.int d]]).shown.length ≤ sizeLine := by
  refine ⟨rfl, rfl, ?_, ?_, shown_small hn hd⟩
  · simp [PyData.depth, PyData.depthAll]
  · have lg : ∀ m : Nat, m ≤ 300 → ((m : Int).natAbs).log2 < 1920 := fun m hm => by
      rw [Int.natAbs_natCast]
      exact Nat.lt_of_le_of_lt (Nat.log2_le_self m) (by omega)
    have a := lg n hn
    have b := lg d (by omega)
    rw [Int.natAbs_natCast] at a b
    simp [PyData.showable, PyData.showableAll, a, b]
variable {k : Nat} {Q : QT} {E : ET}
theorem rowR : RowR T con := { is_deed := rfl, is_of := rfl, is_name := rfl, is_number := rfl, rows_of := rfl, measured := rfl, is_row := rfl, nm := ⟨rfl, rfl⟩, deep := rfl, words := rfl, need := rfl, words_in := rfl, deep_ := rfl }
theorem lrow : LRow T := { deed := rfl, of := rfl, name := rfl, kept := rfl, num := rfl, inner := rfl, meas := rfl }
theorem sp_right {x : PyData} (h : Q (.d (.bool true)) [none]) : sem T con (k + 9) "_law_right" [.d x] Q E := by
  refine sem_go rfl rfl ?_
  unfold w__law_right
  walk_at "lb"
  refine sp_measure lrow ?_
  cases e : measD x with
  | none =>
    dsimp only [msD]
    push_cast only [b__law_right_6]
    refine sp_is_row rowR.toRowT ?_
    push_cast only [e, Option.isSome_none, b__law_right_5, b__law_right_4]
    refine sp_tried rfl rfl (by decide +kernel) (fun Q' E' h1 h2 => sp_words_in rowR (fun n d e' => by rw [e] at e'; cases e') fun _ => h2 "NoProgram" "program" (by decide +kernel) ?_)
    walk_at "lb"
    refine sp_tried rfl rfl (by decide +kernel) (fun Q' E' h1 h2 => sp_deep rowR (fun n d e' => by rw [e] at e'; cases e') fun _ => h2 "NoProgram" "program" (by decide +kernel) ?_)
    push_cast only [b__law_right_3, b__law_right_1]
    exact ⟨.inr (.inl (by decide +kernel)), h⟩
  | some p =>
    obtain ⟨n, d⟩ := p
    dsimp only [msD]
    push_cast only [b__law_right_6]
    refine sp_is_row rowR.toRowT ?_
    push_cast only [e, Option.isSome_some, b__law_right_5, b__law_right_4]
    obtain ⟨hn, hd⟩ := measD_le e
    refine sp_tried rfl rfl (by decide +kernel) (fun Q' E' h1 h2 => sp_words_in rowR (fun n' d' e' => ?_) fun e' => by rw [e] at e'; cases e')
    rw [e] at e'
    cases e'
    refine h1 _ ?_
    walk_at "lb"
    refine sp_tried rfl rfl (by decide +kernel) (fun Q' E' h1 h2 => sp_deep rowR (fun n' d' e' => ?_) fun e' => by rw [e] at e'; cases e')
    rw [e] at e'
    cases e'
    refine h1 _ ?_
    push_cast only [b__law_right_3, b__law_right_2]
    have ok := (small_ok hn hd).2
    rw [sizeLine_eq] at ok
    exact ⟨ok, ok, h⟩
/-! ### what is drawn -/
def Nice : Nat → PyData → Prop
  | _ + 1, .int i => 0 ≤ i ∧ i < 1000
  | _ + 1, .str z => lo z ∧ z.length ≤ 6
  | n + 1, .tuple xs => xs.length ≤ 14 ∧ ∀ x ∈ xs, Nice n x
  | _, _ => False
theorem Nice.up : ∀ {n : Nat} {x : PyData}, Nice n x → Nice (n + 1) x
  | 0, x, h => by cases x <;> exact False.elim h
  | n + 1, x, h => by
    cases x <;> first
      | exact False.elim h
      | exact h
      | exact ⟨h.1, fun y hy => Nice.up (h.2 y hy)⟩
theorem Nice.ok : ∀ {n : Nat} {x : PyData}, Nice n x → okD x
  | 0, x, h => by cases x <;> exact False.elim h
  | n + 1, x, h => by
    cases x <;> first
      | exact False.elim h
      | exact okD_int _
      | exact okD_str.mpr (lo_ok h.1)
      | exact okD_tup.mpr fun y hy => Nice.ok (h.2 y hy)
theorem eqv_i (i : Int) : PyData.eqv (.int i) (.tuple []) = false := by rw [PyData.eqv]
theorem eqv_s (z : Str) : PyData.eqv (.str z) (.tuple []) = false := by rw [PyData.eqv]
theorem lay_s {z : Str} (h : lo z) : (PyData.str z).canLay0 = true := by
  rw [PyData.canLay0]
  unfold PyData.strOk
  rw [Array.all_eq_true]
  intro i hi
  have := h z.cps[i] (by simp)
  simp
  omega
theorem dr_bent : ∀ (n : Nat) {k : Nat} {Q : QT} {E : ET} {x : PyData} {m : Int}, Nice n x → 0 ≤ m → (∀ (y : PyData) (m' : Int), 0 ≤ m' → Q (.d y) [some (.l [.int m']), none]) → sem T con (k + n + 4) "_law_bent" [.c (.l [.int m]), .d x] Q E
  | 0, k, Q, E, x, m, hx, _, _ => by cases x <;> exact False.elim hx
  | n + 1, k, Q, E, x, m, hx, hm, h => by
    refine sem_go (k := k + n + 4) rfl rfl ?_
    unfold w__law_bent
    walk_at "lb"
    refine dr_next rfl hm (by decide) (by decide) fun way m1 w1 w2 d1 => ?_
    cases x with
    | int i =>
      push_cast only [b__law_bent_7, b__law_bent_0]
      refine ⟨.inr (.inl ⟨rfl, rfl, Nat.le_trans (Nat.min_le_right _ _) (by decide)⟩), ?_⟩
      push_cast only [eqv_i]
      refine dr_odd_i rfl rfl rfl d1 hx.1 (Int.lt_trans hx.2 (by decide)) fun y m2 hm2 _ => ?_
      walk_at "lb"
      exact h y m2 hm2
    | str z =>
      push_cast only [b__law_bent_7, b__law_bent_0]
      refine ⟨.inr (.inl ⟨lay_s hx.1, rfl, Nat.le_trans (Nat.min_le_right _ _) (by decide)⟩), ?_⟩
      push_cast only [eqv_s]
      refine dr_odd_s rfl rfl rfl rfl d1 hx.1 (Nat.le_trans hx.2 (by decide)) fun y m2 hm2 _ => ?_
      walk_at "lb"
      exact h y m2 hm2
    | tuple xs =>
      have hl : xs.length ≤ 14 := hx.1
      have odd : evSs ⟨sem T con (k + n + 4), con⟩ b__law_bent_0 ⟨[.a 0, .d (.tuple xs), .d (.int way), .no], [some (.l [.int m1]), none]⟩ (dEnds [.c (.l [.int m]), .d (.tuple xs)] Q E) := by
        push_cast only [b__law_bent_0]
        refine br_split (fun q => ?_) (fun q => ?_)
        · walk_at "lb"
          refine dr_odd_t rfl rfl rfl d1 hx.ok (by omega) fun y m2 hm2 _ => ?_
          walk_at "lb"
          exact h y m2 hm2
        · walk_at "lb"
          refine dr_pick rfl rfl d1 (by simp) (by decide) fun y hy m2 hm2 => ?_
          walk_at "lb"
          exact h y m2 hm2
      push_cast only [b__law_bent_7]
      refine br_split (fun q => ?_) (fun q => ?_)
      · walk_at "lb"
        exact odd
      · walk_at "lb"
        refine br_split (fun q2 => ?_) (fun q2 => ?_)
        · exact odd
        · push_cast only [b__law_bent_6]
          have h0 : 0 < xs.length := by cases xs with
            | nil => exact absurd rfl q
            | cons a b => exact Nat.zero_lt_succ _
          refine dr_next rfl d1 (by omega) (by omega) fun at_ m2 a1 a2 d2 => ?_
          have cl : ∀ {lo hi : Option Int}, (cutD xs lo hi).length ≤ xs.length := cutD_len
          push_cast only [b__law_bent_5]
          refine br_split (fun q3 => ?_) (fun q3 => ?_)
          · push_cast only [b__law_bent_1]
            have c1 := @cl none (some at_)
            have c2 := @cl (some (at_ + 1)) none
            refine ⟨by omega, ?_⟩
            exact h _ m2 d2
          · push_cast only [b__law_bent_4]
            refine br_split (fun q4 => ?_) (fun q4 => ?_)
            · push_cast only [b__law_bent_2]
              have c1 := @cl none (some (at_ + 1))
              have c2 := @cl (some at_) none
              refine ⟨by omega, ?_⟩
              exact h _ m2 d2
            · push_cast only [b__law_bent_3]
              obtain ⟨y, hy, e⟩ := at_lt a1 a2
              push_cast only [e]
              refine dr_bent n (k := k) (hx.2 y hy) d2 fun z m3 hm3 => ?_
              have c1 := @cl none (some at_)
              have c2 := @cl (some (at_ + 1)) none
              walk_at "lb"
              refine ⟨by omega, by rw [List.length_append, List.length_singleton]; omega, h _ m3 hm3⟩
    | _ => exact False.elim hx
theorem Nice.le {n m : Nat} (h : n ≤ m) {x : PyData} (hx : Nice n x) : Nice m x := by
  induction h with
  | refl => exact hx
  | step _ ih => exact ih.up
theorem deNice {xs : List PyData} (h : DeTup xs) : Nice 2 (.tuple xs) := by
  refine ⟨by have := h.l3; omega, fun x hx => ?_⟩
  rcases h.its x hx with ⟨z, rfl, h1, h2⟩ | ⟨i, rfl, h1, h2⟩
  · exact ⟨h1, h2⟩
  · exact ⟨h1, by omega⟩
def RowSt (l : Nat) : Prop := ∀ (k : Nat) {Q : QT} {E : ET} {m r : Int} {ns ps : List PyData}, 0 ≤ m → ns ≠ [] → ns.length < 1000 → (∀ x ∈ ns, ∃ z, x = .str z ∧ isNm z = true) → ps.length < 1000 → (∀ x ∈ ps, ∃ z, x = .str z ∧ isNm z = true) →
    (∀ (xs : List PyData) (m' r' : Int), 0 ≤ m' → Nice (3 * l + 3) (.tuple xs) → Q (.d (.tuple xs)) [some (.l [.int m']), some (.l ns), some (.l ps), some (.l [.int r']), none]) →
    sem T con (k + l + 5) "_law_row" [.c (.l [.int m]), .c (.l ns), .c (.l ps), .c (.l [.int r]), .d (.int (l : Nat))] Q E
theorem row_step (l : Nat) (ih : ∀ l', l = l' + 1 → RowSt l') : RowSt l := by
  intro k Q E m r ns ps hm n0 nl hns pl hps h
  refine sem_go (k := k + l + 4) rfl rfl ?_
  unfold w__law_row
  walk_at "lb"
  refine dr_next rfl hm (by decide) (by decide) fun a m1 a1 a2 d1 => ?_
  walk_at "lb"
  refine ⟨by omega, ?_⟩
  refine walk_pre (all := rng1D a) (fun p w => ∃ (m : Int) (r : Int) (acc : List PyData) (s6 s7 s8 s9 s10 : Sl), 0 ≤ m ∧ acc.length ≤ p.length ∧ (∀ x ∈ acc, Nice (3 * l + 2) x) ∧ w = ⟨[.a 0, .a 1, .a 2, .a 3, .d (.int (l : Nat)), .o (.l acc), s6, s7, s8, s9, s10, .no], [some (.l [.int m]), some (.l ns), some (.l ps), some (.l [.int r]), none]⟩) (fun _ _ _ => trivial) (fun w => ?_) (fun p x q e w hw k' hk' => ?_) _ [] _ rfl ⟨_, _, [], _, _, _, _, _, d1, Nat.le_refl _, fun _ z => (nomatch z), rfl⟩
  · rintro ⟨m, r, acc, s6, s7, s8, s9, s10, hm, hl, ha, rfl⟩
    rw [rng1_len] at hl
    push_cast only [b__law_row_14]
    exact h acc m r hm ⟨by omega, ha⟩
  · obtain ⟨m, r, acc, s6, s7, s8, s9, s10, hm, hl, ha, rfl⟩ := hw
    obtain ⟨j, hj, rfl⟩ := mem_rng1 (x := x) (by rw [e]; simp)
    have hp : p.length + 1 ≤ 3 := by
      have h1 := congrArg List.length e
      rw [rng1_len, List.length_append, List.length_cons] at h1
      omega
    have fin : ∀ (y : PyData) (m' r' : Int) (s7 s8 s9 s10 : Sl), 0 ≤ m' → Nice (3 * l + 2) y → k' ⟨[.a 0, .a 1, .a 2, .a 3, .d (.int (l : Nat)), .o (.l (acc ++ [y])), .d (.int (j : Nat)), s7, s8, s9, s10, .no], [some (.l [.int m']), some (.l ns), some (.l ps), some (.l [.int r']), none]⟩ := fun y m' r' s7 s8 s9 s10 h1 h2 => by
      refine hk' _ ⟨m', r', acc ++ [y], _, s7, s8, s9, s10, h1, by simp; omega, fun z hz => ?_, rfl⟩
      rcases List.mem_append.mp hz with q | q
      · exact ha z q
      · rw [List.mem_singleton.mp q]
        exact h2
    push_cast only [b__law_row_13]
    refine dr_next rfl hm (by decide) (by decide) fun way m2 w1 w2 d2 => ?_
    push_cast only [b__law_row_12]
    refine br_split (fun q1 => ?_) (fun q1 => ?_)
    · push_cast only [b__law_row_0]
      exact hk' _ ⟨m2, r, acc, _, _, s8, s9, s10, d2, by simp; omega, ha, rfl⟩
    push_cast only [b__law_row_11]
    have deed : ∀ (s8 s9 s10 : Sl), sem T con (k + l + 4) "_law_deed" [.c (.l [.int m2]), .c (.l ns)] (fun r' cs => ∃ (xs : List PyData) (m3 : Int), 0 ≤ m3 ∧ DeTup xs ∧ r' = .d (.tuple xs) ∧ cs = [some (.l [.int m3]), some (.l ns)]) (fun _ _ => False) := fun _ _ _ =>
      dr_deed rfl rfl rfl d2 n0 nl hns fun xs m3 hm3 hxs => ⟨xs, m3, hm3, hxs, rfl, rfl⟩
    refine br_split (fun q2 => ?_) (fun q2 => ?_)
    · push_cast only [b__law_row_1]
      refine dr_deed rfl rfl rfl d2 n0 nl hns fun xs m3 hm3 hxs => ?_
      walk_at "lb"
      exact ⟨by omega, fin _ _ _ _ _ _ _ hm3 (Nice.le (by omega) (deNice hxs))⟩
    push_cast only []
    refine br_split (fun q3 => ?_) (fun q3 => ?_)
    · push_cast only [b__law_row_1]
      refine dr_deed rfl rfl rfl d2 n0 nl hns fun xs m3 hm3 hxs => ?_
      walk_at "lb"
      exact ⟨by omega, fin _ _ _ _ _ _ _ hm3 (Nice.le (by omega) (deNice hxs))⟩
    obtain ⟨l', rfl⟩ : ∃ l', l = l' + 1 := ⟨l - 1, by omega⟩
    have ih : RowSt l' := @ih l' rfl
    have el : ((l' + 1 : Nat) : Int) - 1 = (l' : Nat) := by omega
    push_cast only [b__law_row_10]
    refine br_split (fun q4 => ?_) (fun q4 => ?_)
    · push_cast only [b__law_row_4]
      refine dr_next rfl d2 (by decide) (by decide) fun b m3 b1 b2 d3 => ?_
      walk_at "lb"
      refine ⟨by omega, ?_⟩
      refine walkC_inv (fun acc2 w => ∃ (m r : Int), 0 ≤ m ∧ (∀ x ∈ acc2, Nice (3 * l' + 3) x) ∧ w = ⟨[.a 0, .a 1, .a 2, .a 3, .d (.int ((l' + 1 : Nat) : Int)), .o (.l acc), .d (.int (j : Nat)), .d (.int way), s8, s9, s10, .no], [some (.l [.int m]), some (.l ns), some (.l ps), some (.l [.int r]), none]⟩) (fun _ _ _ => trivial) _ [] _ (fun acc2 w hi hlen => ?_) (fun x hx acc2 w hi ky hk => ?_) ?_ ⟨m3, _, d3, fun _ z => (nomatch z), rfl⟩
      · obtain ⟨m, r, hm, ha2, rfl⟩ := hi
        rw [rng1_len, List.length_nil] at hlen
        push_cast only [b__law_row_3]
        refine ⟨by omega, fin _ _ _ _ _ _ _ hm ⟨by simp, fun x hx => ?_⟩⟩
        simp only [List.mem_cons, List.not_mem_nil, or_false] at hx
        rcases hx with rfl | rfl
        · exact ⟨lo_lit (by decide +kernel), by decide +kernel⟩
        · exact ⟨by omega, fun y hy => Nice.le (by omega) (ha2 y hy)⟩
      · obtain ⟨m, r, hm, ha2, rfl⟩ := hi
        push_cast only [e__law_row_2, el]
        refine ⟨by decide, ih k hm n0 nl hns pl hps fun xs m4 r4 hm4 hxs => ?_⟩
        walk_at "lb"
        refine hk _ _ ⟨m4, r4, hm4, fun y hy => ?_, rfl⟩
        rcases List.mem_append.mp hy with q | q
        · exact ha2 y q
        · rw [List.mem_singleton.mp q]
          exact hxs
      · rw [rng1_len, List.length_nil, sizeLine_eq]
        omega
    push_cast only [b__law_row_9]
    refine br_split (fun q5 => ?_) (fun q5 => ?_)
    · push_cast only [b__law_row_7]
      refine dr_next rfl d2 (by decide) (by decide) fun least m3 b1 b2 d3 => ?_
      push_cast only [b__law_row_6]
      refine dr_next rfl d3 (by decide) (by decide) fun more m4 c1 c2 d4 => ?_
      push_cast only [b__law_row_5, el]
      refine ⟨by decide, ih k (ps := []) d4 n0 nl hns (Nat.zero_lt_succ _) (fun _ z => (nomatch z)) fun xs m5 r5 hm5 hxs => ?_⟩
      walk_at "lb"
      refine ⟨by omega, fin _ _ _ _ _ _ _ hm5 ⟨by simp, fun x hx => ?_⟩⟩
      simp only [List.mem_cons, List.not_mem_nil, or_false] at hx
      rcases hx with rfl | rfl | rfl | rfl
      · exact ⟨lo_lit (by decide +kernel), by decide +kernel⟩
      · exact ⟨by omega, by omega⟩
      · exact ⟨by omega, by omega⟩
      · exact Nice.le (by omega) hxs
    push_cast only [b__law_row_8]
    cases ps with
    | nil =>
      push_cast only []
      refine dr_deed rfl rfl rfl d2 n0 nl hns fun xs m3 hm3 hxs => ?_
      walk_at "lb"
      exact ⟨by omega, fin _ _ _ _ _ _ _ hm3 (Nice.le (by omega) (deNice hxs))⟩
    | cons p0 ps =>
      push_cast only []
      refine dr_pick rfl rfl d2 (by simp) pl fun y hy m3 hm3 => ?_
      obtain ⟨z, rfl, hz⟩ := hps y hy
      walk_at "lb"
      refine ⟨by omega, fin _ _ _ _ _ _ _ hm3 ⟨by simp, fun x hx => ?_⟩⟩
      simp only [List.mem_cons, List.not_mem_nil, or_false] at hx
      rcases hx with rfl | rfl
      · exact ⟨lo_lit (by decide +kernel), by decide +kernel⟩
      · exact ⟨isNm_lo hz, isNm_len hz⟩
theorem dr_row : ∀ l : Nat, RowSt l
  | 0 => row_step 0 fun l' e => by omega
  | l + 1 => row_step (l + 1) fun l' e => by
    obtain rfl : l = l' := by omega
    exact dr_row l
theorem law_ok (ns : List Int) (hns : ns.length ≤ 63) : sem T con 24 "law" [.z ns] (fun r _ => r = .d (.bool true)) (fun _ _ => False) := by
  refine sem_go rfl rfl ?_
  unfold w_law
  walk_at "lb"
  refine ⟨by omega, ?_⟩
  refine walk_inv (fun w => ∃ s1 s2 s3 s4 s5 : Sl, w = ⟨[.z ns, s1, s2, s3, s4, s5, .no], [none]⟩) (fun _ _ => trivial) (fun w => ?_) _ _ (fun x hx w hw k' hk' => ?_) ⟨_, _, _, _, _, rfl⟩
  · rintro ⟨s1, s2, s3, s4, s5, rfl⟩
    push_cast only [b_law_7]
  · obtain ⟨s1, s2, s3, s4, s5, rfl⟩ := hw
    obtain ⟨j, hj, rfl⟩ := mem_rng1 hx
    push_cast only [b_law_6]
    refine sp_state rfl (by omega) fun m hm => ?_
    push_cast only [b_law_5]
    refine dr_name rfl rfl rfl rfl hm fun z m1 hm1 hz => ?_
    walk_at "lb"
    refine dr_name rfl rfl rfl rfl hm1 fun z2 m2 hm2 hz2 => ?_
    push_cast only [b_law_4]
    have nm : ∀ x ∈ [PyData.str z, .str z2], ∃ z, x = .str z ∧ isNm z = true := fun x hx => by
      simp only [List.mem_cons, List.not_mem_nil, or_false] at hx
      rcases hx with rfl | rfl
      · exact ⟨_, rfl, hz⟩
      · exact ⟨_, rfl, hz2⟩
    refine dr_row 3 15 hm2 (by simp) (by simp) nm (Nat.lt_of_le_of_lt cutD_len (by simp)) (fun x hx => nm x (cutD_mem hx)) fun xs m3 r3 hm3 hxs => ?_
    push_cast only [b_law_3]
    refine walkC_inv (fun acc w => ∃ m : Int, 0 ≤ m ∧ w = ⟨[.z ns, .d (.int j), .o (.l [.int m]), .o (.l [.str z, .str z2]), .d (.tuple xs), s5, .no], [none]⟩) (fun _ _ _ => trivial) _ [] _ (fun acc w hi hlen => ?_) (fun x hx acc w hi ky hk => ?_) (by decide) ⟨_, hm3, rfl⟩
    · obtain ⟨m2, hm2, rfl⟩ := hi
      rw [rng1_len] at hlen
      have hl4 : acc.length = 4 := by simpa using hlen
      walk_at "lb"
      refine ⟨by omega, ?_⟩
      refine ⟨by omega, ?_⟩
      refine walk_inv (fun w => ∃ s5 : Sl, w = ⟨[.z ns, .d (.int j), .o (.l [.int m2]), .o (.l [.str z, .str z2]), .d (.tuple xs), s5, .no], [none]⟩) (fun _ _ => trivial) (fun w => ?_) _ _ (fun x hx w hw k2 hk2 => ?_) ⟨_, rfl⟩
      · rintro ⟨s5, rfl⟩
        walk_at "lb"
        exact hk' _ ⟨_, _, _, _, _, rfl⟩
      · obtain ⟨s5, rfl⟩ := hw
        push_cast only [b_law_2]
        refine sp_right (k := 14) ?_
        walk_at "lb"
        exact hk2 _ ⟨_, rfl⟩
    · obtain ⟨m2, hm2, rfl⟩ := hi
      push_cast only [e_law_0]
      refine dr_bent 12 (k := 7) hxs hm2 fun y m3 hm3 => ?_
      walk_at "lb"
      exact hk _ _ ⟨_, hm3, rfl⟩
end Lk03
/-! ## K3e -/
open PySem PySem.W PyProof.Rows
set_option maxRecDepth 100000 in
set_option maxHeartbeats 0 in
theorem PySem.Challenge.cw_longbeat_k03_rows_known_holds : PySem.Challenge.rw_longbeat_k03_rows_known.Holds := by
  w_on; o_law; k_head; (case hw => w_witness2)
  k_fill
  refine Lb.walkG (l := PySem.Challenge.rw_longbeat_k03_rows_known) (k := 24) (T := Lk03.T) (con := Lk03.con) (y := "law") rfl (by decide) rfl ⟨rfl, by decide, by decide⟩ (fun w h Y => PySem.W.kIn_of Y) ?F (fun ns hl => Lk03.law_ok ns hl)
  case F =>
    intro w mg fa h KX G hmg
    refine' Lk03.all_mk KX G hmg ?a0 ?l0 ?c0 ?k0 ?a1 ?l1 ?c1 ?k1 ?a2 ?l2 ?c2 ?k2 ?a3 ?l3 ?c3 ?k3 ?a4 ?l4 ?c4 ?k4 ?a5 ?l5 ?c5 ?k5 ?a6 ?l6 ?c6 ?k6 ?a7 ?l7 ?c7 ?k7 ?a8 ?l8 ?c8 ?k8 ?a9 ?l9 ?c9 ?k9 ?a10 ?l10 ?c10 ?k10 ?a11 ?l11 ?c11 ?k11 ?a12 ?l12 ?c12 ?k12 ?a13 ?l13 ?c13 ?k13 ?a14 ?l14 ?c14 ?k14 ?a15 ?l15 ?c15 ?k15 ?a16 ?l16 ?c16 ?k16 ?a17 ?l17 ?c17 ?k17 ?a18 ?l18 ?c18 ?k18 ?a19 ?l19 ?c19 ?k19 ?a20 ?l20 ?c20 ?k20 ?a21 ?l21 ?c21 ?k21 ?a22 ?l22 ?c22 ?k22 ?a23 ?l23 ?c23 ?k23 ?a24 ?l24 ?c24 ?k24 ?a25 ?l25 ?c25 ?k25 ?a26 ?l26 ?c26 ?k26 ?a27 ?l27 ?c27 ?k27 ?a28 ?l28 ?c28 ?k28 ?y0 ?y1 ?y2 ?y3 ?y4 ?y5 ?y6 ?y7 ?y8 ?y9 ?y10 ?y11 ?y12 ?z_ValueError ?z_abs ?z_bool ?z_int ?z_isinstance ?z_len ?z_list ?z_max ?z_min ?z_range ?z_repr ?z_str ?z_sum ?z_tuple ?xb ?r_NoProgram ?g_KEPT ?t_KEPT ?tc_KEPT ?td_KEPT ?ts_KEPT ?tv_KEPT ?g_LETTERS ?r_LETTERS ?g_MOST_DEEP ?r_MOST_DEEP ?g_MOST_WORDS ?r_MOST_WORDS
    (case a0 => k_is)
    (case l0 => k_is)
    (case c0 => k_is)
    (case k0 => k_is)
    (case a1 => k_is)
    (case l1 => k_is)
    (case c1 => k_is)
    (case k1 => k_is)
    (case a2 => k_is)
    (case l2 => k_is)
    (case c2 => k_is)
    (case k2 => k_is)
    (case a3 => k_is)
    (case l3 => k_is)
    (case c3 => k_is)
    (case k3 => k_is)
    (case a4 => k_is)
    (case l4 => k_is)
    (case c4 => k_is)
    (case k4 => k_is)
    (case a5 => k_is)
    (case l5 => k_is)
    (case c5 => k_is)
    (case k5 => k_is)
    (case a6 => k_is)
    (case l6 => k_is)
    (case c6 => k_is)
    (case k6 => k_is)
    (case a7 => k_is)
    (case l7 => k_is)
    (case c7 => k_is)
    (case k7 => k_is)
    (case a8 => k_is)
    (case l8 => k_is)
    (case c8 => k_is)
    (case k8 => k_is)
    (case a9 => k_is)
    (case l9 => k_is)
    (case c9 => k_is)
    (case k9 => k_is)
    (case a10 => k_is)
    (case l10 => k_is)
    (case c10 => k_is)
    (case k10 => k_is)
    (case a11 => k_is)
    (case l11 => k_is)
    (case c11 => k_is)
    (case k11 => k_is)
    (case a12 => k_is)
    (case l12 => k_is)
    (case c12 => k_is)
    (case k12 => k_is)
    (case a13 => k_is)
    (case l13 => k_is)
    (case c13 => k_is)
    (case k13 => k_is)
    (case a14 => k_is)
    (case l14 => k_is)
    (case c14 => k_is)
    (case k14 => k_is)
    (case a15 => k_is)
    (case l15 => k_is)
    (case c15 => k_is)
    (case k15 => k_is)
    (case a16 => k_is)
    (case l16 => k_is)
    (case c16 => k_is)
    (case k16 => k_is)
    (case a17 => k_is)
    (case l17 => k_is)
    (case c17 => k_is)
    (case k17 => k_is)
    (case a18 => k_is)
    (case l18 => k_is)
    (case c18 => k_is)
    (case k18 => k_is)
    (case a19 => k_is)
    (case l19 => k_is)
    (case c19 => k_is)
    (case k19 => k_is)
    (case a20 => k_is)
    (case l20 => k_is)
    (case c20 => k_is)
    (case k20 => k_is)
    (case a21 => k_is)
    (case l21 => k_is)
    (case c21 => k_is)
    (case k21 => k_is)
    (case a22 => k_is)
    (case l22 => k_is)
    (case c22 => k_is)
    (case k22 => k_is)
    (case a23 => k_is)
    (case l23 => k_is)
    (case c23 => k_is)
    (case k23 => k_is)
    (case a24 => k_is)
    (case l24 => k_is)
    (case c24 => k_is)
    (case k24 => k_is)
    (case a25 => k_is)
    (case l25 => k_is)
    (case c25 => k_is)
    (case k25 => k_is)
    (case a26 => k_is)
    (case l26 => k_is)
    (case c26 => k_is)
    (case k26 => k_is)
    (case a27 => k_is)
    (case l27 => k_is)
    (case c27 => k_is)
    (case k27 => k_is)
    (case a28 => k_is)
    (case l28 => k_is)
    (case c28 => k_is)
    (case k28 => k_is)
    (case y0 => k_is)
    (case y1 => k_is)
    (case y2 => k_is)
    (case y3 => k_is)
    (case y4 => k_is)
    (case y5 => k_is)
    (case y6 => k_is)
    (case y7 => k_is)
    (case y8 => k_is)
    (case y9 => k_is)
    (case y10 => k_is)
    (case y11 => k_is)
    (case y12 => k_is)
    (case z_ValueError => k_is)
    (case z_abs => k_is)
    (case z_bool => k_is)
    (case z_int => k_is)
    (case z_isinstance => k_is)
    (case z_len => k_is)
    (case z_list => k_is)
    (case z_max => k_is)
    (case z_min => k_is)
    (case z_range => k_is)
    (case z_repr => k_is)
    (case z_str => k_is)
    (case z_sum => k_is)
    (case z_tuple => k_is)
    (case g_KEPT => k_is)
    (case t_KEPT => k_is)
    (case g_LETTERS => k_is)
    (case g_MOST_DEEP => k_is)
    (case g_MOST_WORDS => k_is)
    (case xb => kernel_rfl)
    (case r_NoProgram => k_exc)
    (case tc_KEPT => rfl)
    (case td_KEPT => rfl)
    (case ts_KEPT => decide)
    (case tv_KEPT => exact (.cons ⟨_, rfl⟩ (.cons ⟨_, rfl⟩ (.cons ⟨_, rfl⟩ (.cons ⟨_, rfl⟩ (.cons ⟨_, rfl⟩ (.cons ⟨_, rfl⟩ (.cons ⟨_, rfl⟩ (.cons ⟨_, rfl⟩ (.cons ⟨_, rfl⟩ (.cons ⟨_, rfl⟩ .nil)))))))))))
    (case r_LETTERS => first | rfl | exact ⟨_, rfl⟩)
    (case r_MOST_DEEP => first | rfl | exact ⟨_, rfl⟩)
    (case r_MOST_WORDS => first | rfl | exact ⟨_, rfl⟩)
