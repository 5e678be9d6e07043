import PyProof.Rows.All
import Wide.All
import OpenK.AllK
import Wide.FinOn
import HandS.ForMost
import HandS.ForExc
import HandS.Wide
import HandS.Defaults
import HandS.IsInst
import PyProof.ReprReads
import HandS.Text
import HandS.Zip
import HandS.HeadHook2
import KE.KRevSl
import HandS.CallSlots
import HandS.ExcOwn
import HandS.ExcCtx
import KE.GoesZip
import KE.GoesMore
import HandS.Conv
import HandS.HeadEnd
import HandS.ExcIs
import HandS.Head0
import HandS.Head1
import HandS.Head2
import HandS.Hot
import HandS.HotCalls
import PySem.Challenge.RW_everyshift_k01_reduced_and_written
set_option Elab.async false
set_option linter.all false
set_option maxRecDepth 100000
/-! MiniPy: data, syntax, semantics. -/
namespace MP
open PySem PySem.Spec PyProof.Rows L2

/-- data: a list with its mark (true: nobody else holds it) -/
inductive D where
  | non | bl (b : Bool) | int (i : Int) | str (x : Str)
  | lst (o : Bool) (xs : List D) | tup (xs : List D)
  | exc (c : Str) | scr (ns : List Int)
  deriving Repr

instance : Inhabited D := ⟨.non⟩

mutual
/-- no list within -/
def noL : D → Bool
  | .lst _ _ => false
  | .tup xs => noLs xs
  | _ => true
def noLs : List D → Bool
  | [] => true
  | x :: xs => noL x && noLs xs
end
mutual
/-- every list within is its holder's alone -/
def own : D → Bool
  | .lst o xs => o && owns xs
  | .tup xs => owns xs
  | _ => true
def owns : List D → Bool
  | [] => true
  | x :: xs => own x && owns xs
end
mutual
/-- shared with others -/
def shr : D → D
  | .lst _ xs => .lst false (shrs xs)
  | .tup xs => .tup (shrs xs)
  | d => d
def shrs : List D → List D
  | [] => []
  | x :: xs => shr x :: shrs xs
end
mutual
def pd : D → PyData
  | .non => .none
  | .bl b => .bool b
  | .int i => .int i
  | .str x => .str x
  | .lst _ xs => .list (pds xs)
  | .tup xs => .tuple (pds xs)
  | .exc _ => .none
  | .scr ns => .list (ns.map .int)
def pds : List D → List PyData
  | [] => []
  | x :: xs => pd x :: pds xs
end
mutual
/-- no exception, no script within -/
def pln : D → Bool
  | .lst _ xs => plns xs
  | .tup xs => plns xs
  | .exc _ => false
  | .scr _ => false
  | _ => true
def plns : List D → Bool
  | [] => true
  | x :: xs => pln x && plns xs
end

inductive Op where
  | add | sub | mul | fdiv | mod | pow
  deriving Repr, DecidableEq
inductive Cm where
  | eq | ne | lt | le | gt | ge | isn | notn | isin | notin
  deriving Repr, DecidableEq
inductive Bi where
  | len | int | abs | list | tuple | sum | all | any | max1 | min1 | max2 | min2 | repr | sorted | str
  deriving Repr, DecidableEq
inductive Ty where
  | int | bool | str | list | tuple | cls (c : Str)
  deriving Repr, DecidableEq
inductive Tg where
  | nm (i : Nat) | tp (is : List Nat)
  deriving Repr, DecidableEq

mutual
inductive X where
  | v (i : Nat) (mv : Bool)
  | k (d : D)
  | bin (o : Op) (a b : X)
  | neg (a : X)
  | cmp (o : Cm) (a b : X)
  | chn (o p : Cm) (a b c : X)
  | bnot (a : X)
  | band (a b : X)
  | bor (a b : X)
  | ife (t a b : X)
  | lst (xs : Xs)
  | tup (xs : Xs)
  | ix (a b : X)
  | sl (a : X) (lo hi : Xo)
  | rev (a : X)
  | call (f : Nat) (as : As) (dv : List D)
  | calli (f i j : Nat) (dv : List D)
  | bi (b : Bi) (as : Xs)
  | isi (a : X) (c : List Ty)
  | pop (i : Nat)
  | join (s : Str) (a : X)
  | lrg (as : Xs)
  | lc (e : X) (tg : Tg) (it : It) (c : Xo) (ws : List Nat)
inductive Xs where
  | nil
  | cons (x : X) (xs : Xs)
inductive Xo where
  | none
  | some (x : X)
/-- a call's arguments: a slot lent, a slot given away, a slot that the callee changes, a value -/
inductive As where
  | nil
  | lent (i : Nat) (as : As)
  | gone (i : Nat) (as : As)
  | io (i : Nat) (as : As)
  | val (x : X) (as : As)
  | own (x : X) (as : As)
inductive It where
  | seq (x : X)
  | lent (i : Nat)
  | rng (as : Xs)
  | zip (a b : X)
  | enm (a : X)
end

mutual
inductive S where
  | set (i : Nat) (e : X)
  | sett (is : List Nat) (e : X)
  | par (i j : Nat) (a b : X)
  | seti (i : Nat) (ix e : X)
  | aug (i : Nat) (o : Op) (e : X)
  | app (i : Nat) (e : X)
  | ext (i : Nat) (e : X)
  | ex (e : X)
  | iff (t : X) (a b : Ss)
  | for (tg : Tg) (it : It) (b : Ss)
  | whl (t : X) (b : Ss)
  | ret (e : X)
  | retn
  | brk
  | cnt
  | pas
  | rse (c : Str)
inductive Ss where
  | nil
  | cons (s : S) (ss : Ss)
end

/-! ### values -/
abbrev Env := List (Option D)
def getv (s : Env) (i : Nat) : Option D := (s[i]?).join

def mulOk (i j : Int) : Bool := decide (i.natAbs.log2 + j.natAbs.log2 < 1000000)
def divOk (j : Int) : Bool := decide (0 < j) && decide (j.natAbs.log2 < 9000)
def powOk (i j : Int) : Bool := decide (0 ≤ j) && decide (j ≤ 1000) && decide (i.natAbs.log2 < 10000)
def lenOk (n : Nat) : Bool := decide (n ≤ sizeLine)

def bop : Op → D → D → Option D
  | .add, .int a, .int b => some (.int (a + b))
  | .add, .str a, .str b => if lenOk (a.length + b.length) then some (.str (a ++ b)) else none
  | .add, .lst _ xs, .lst _ ys => if lenOk (xs.length + ys.length) then some (.lst true (xs ++ ys)) else none
  | .add, .tup xs, .tup ys => if lenOk (xs.length + ys.length) && !xs.isEmpty && !ys.isEmpty then some (.tup (xs ++ ys)) else none
  | .sub, .int a, .int b => some (.int (a - b))
  | .mul, .int a, .int b => if mulOk a b then some (.int (a * b)) else none
  | .mul, .lst _ xs, .int k => if noLs xs && (decide (0 ≤ k) && decide (k < 2 ^ 62)) && lenOk (xs.length * k.toNat) then some (.lst true (List.replicate k.toNat xs).flatten) else none
  | .fdiv, .int a, .int b => if divOk b then some (.int (a / b)) else none
  | .mod, .int a, .int b => if decide (0 < b) then some (.int (a % b)) else none
  | .pow, .int a, .int b => if powOk a b then some (.int (a ^ b.toNat)) else none
  | _, _, _ => none
/-- ints alone -/
def bopI : Op → D → D → Option D
  | o, .int a, .int b => bop o (.int a) (.int b)
  | _, _, _ => none

def shaped (d : D) : Bool := pln d && SeqAt.shaped (pd d)
def eqD (a b : D) : Bool := PyData.eqv (pd a) (pd b)
def isNon : D → Bool
  | .non => true
  | _ => false
def flat : D → Bool
  | .non => true | .bl _ => true | .int _ => true | .str _ => true
  | _ => false
def tints : List D → Option (List Int)
  | [] => some []
  | .int i :: r => (tints r).map (i :: ·)
  | _ => none
def tbls : List D → Option (List Bool)
  | [] => some []
  | .bl i :: r => (tbls r).map (i :: ·)
  | _ => none
/-- truths of bools and ints -/
def ttru : List D → Option (List Bool)
  | [] => some []
  | .bl i :: r => (ttru r).map (i :: ·)
  | .int i :: r => (ttru r).map ((i != 0) :: ·)
  | _ => none
def maxI : List Int → Option Int
  | [] => none
  | n :: ns => some (ns.foldl max n)
def minI : List Int → Option Int
  | [] => none
  | n :: ns => some (ns.foldl min n)
def tstrs : List D → Option (List Str)
  | [] => some []
  | .str i :: r => (tstrs r).map (i :: ·)
  | _ => none
def itemsD : D → Option (List D)
  | .lst _ xs => some xs
  | .tup xs => some xs
  | .scr ns => some (ns.map .int)
  | _ => none
def itemsS : D → Option (List D)
  | .lst _ xs => some xs
  | .tup xs => some xs
  | _ => none
def cmpD : Cm → D → D → Option Bool
  | .eq, a, b => if shaped a && shaped b then some (eqD a b) else none
  | .ne, a, b => if shaped a && shaped b then some (!eqD a b) else none
  | .lt, .int a, .int b => some (decide (a < b))
  | .le, .int a, .int b => some (decide (a ≤ b))
  | .gt, .int a, .int b => some (decide (b < a))
  | .ge, .int a, .int b => some (decide (b ≤ a))
  | .isn, a, b => if isNon b then some (isNon a) else none
  | .notn, a, b => if isNon b then some (!isNon a) else none
  | _, _, _ => none
def ixD : D → D → Option D
  | .lst _ xs, .int i => atI xs i
  | .tup xs, .int i => atI xs i
  | .str z, .int i => if lenOk z.length then (atI z.cps.toList i).map fun c => .str ⟨#[c]⟩ else none
  | _, _ => none
def cutD {α : Type} (xs : List α) (lo hi : Option Int) : List α := (xs.drop (HT.sIx xs.length 0 lo)).take (HT.sIx xs.length xs.length hi - HT.sIx xs.length 0 lo)
def slD : D → Option Int → Option Int → Option D
  | .lst _ xs, lo, hi => some (.lst true (cutD xs lo hi))
  | .tup xs, lo, hi => if decide ((cutD xs lo hi).length < xs.length) then some (.tup (cutD xs lo hi)) else none
  | _, _, _ => none
def revD : D → Option D
  | .lst _ xs => some (.lst true xs.reverse)
  | _ => none
def truD : D → Option Bool
  | .non => some false
  | .bl b => some b
  | .int i => some (i != 0)
  | .str x => if lenOk x.length then some ((x.length : Int) != 0) else none
  | .lst _ xs => some (!xs.isEmpty)
  | .tup xs => some (!xs.isEmpty)
  | _ => none
def lenD : D → Option D
  | .lst _ xs => some (.int xs.length)
  | .tup xs => some (.int xs.length)
  | .str x => if lenOk x.length then some (.int x.length) else none
  | _ => none
/-- a built-in whose answer holds no list of its argument's -/
def bi1 : Bi → D → Option D
  | .len, d => lenD d
  | .int, .int i => some (.int i)
  | .int, .bl b => some (.int (if b then 1 else 0))
  | .abs, .int i => some (.int (if i < 0 then -i else i))
  | .sum, .lst _ xs => (tints xs).map fun ns => .int ns.sum
  | .all, .lst _ xs => (ttru xs).map fun bs => .bl (bs.all id)
  | .any, .lst _ xs => (ttru xs).map fun bs => .bl (bs.any id)
  | .max1, .lst _ xs => ((tints xs).bind maxI).map .int
  | .min1, .lst _ xs => ((tints xs).bind minI).map .int
  | .repr, d => if pln d && (pd d).showable && (pd d).canLay0 && decide ((pd d).depth ≤ 64) && lenOk (pd d).shown.length then some (.str (pd d).shown) else none
  | _, _ => none
/-- list(x), tuple(x) -/
def bi1L : Bi → D → Option D
  | .list, .lst _ xs => some (.lst true xs)
  | .list, .tup xs => some (.lst true xs)
  | .list, .scr ns => some (.lst true (ns.map .int))
  | .tuple, .lst _ xs => some (.tup xs)
  | .tuple, .tup xs => some (.tup xs)
  | _, _ => none
def bi2 : Bi → D → D → Option D
  | .max2, .int i, .int j => some (.int (if j > i then j else i))
  | .min2, .int i, .int j => some (.int (if j < i then j else i))
  | _, _, _ => none
def tyD : Ty → D → Bool
  | .int, .int _ => true
  | .int, .bl _ => true
  | .bool, .bl _ => true
  | .str, .str _ => true
  | .list, .lst _ _ => true
  | .list, .scr _ => true
  | .tuple, .tup _ => true
  | _, _ => false
def isExc : D → Bool
  | .exc _ => true
  | _ => false
def isiD (c : List Ty) (d : D) : Bool := c.any fun t => tyD t d

/-! ### outcomes -/
inductive R (α : Type) where
  | ok (a : α) (s : Env)
  | exc (c : Str) (s : Env)
  | stk
def R.bind {α β : Type} (r : R α) (f : α → Env → R β) : R β := match r with
  | .ok a s => f a s
  | .exc c s => .exc c s
  | .stk => .stk
def R.of {α : Type} (o : Option α) (s : Env) : R α := match o with
  | some a => .ok a s
  | none => .stk
inductive RS where
  | nx (s : Env)
  | ret (d : D) (s : Env)
  | brk (s : Env)
  | cnt (s : Env)
  | exc (c : Str) (s : Env)
  | stk
def R.bindS {α : Type} (r : R α) (f : α → Env → RS) : RS := match r with
  | .ok a s => f a s
  | .exc c s => .exc c s
  | .stk => .stk
def RS.bind (r : RS) (f : Env → RS) : RS := match r with
  | .nx s => f s
  | r => r
/-- a call's outcome: its answer, what it made of the arguments that it may change -/
inductive CR where
  | ok (r : D) (os : List D)
  | exc (c : Str) (os : List D)
  | stk

def tgE : Tg → D → Env → Option Env
  | .nm i, d, s => some (s.set i (some d))
  | .tp is, .tup ds, s => if is.length == ds.length then some ((is.zip ds).foldl (fun s p => s.set p.1 (some p.2)) s) else none
  | _, _, _ => none
def wipeE (s : Env) : List Nat → Env
  | [] => s
  | v :: vs => (wipeE s vs).set v none

/-- reading without a trace: slots, constants, items, lengths, reckoning with ints -/
def isPk : X → Bool
  | .v _ mv => !mv
  | .k _ => true
  | .ix a b => isPk a && isPk b
  | .bin _ a b => isPk a && isPk b
  | .neg a => isPk a
  | .bi .len (.cons a .nil) => isPk a
  | _ => false
def pk : X → Env → Option D
  | .v i _, s => getv s i
  | .k d, _ => some d
  | .ix a b, s => match pk a s, pk b s with
    | some x, some y => ixD x y
    | _, _ => none
  | .bin o a b, s => match pk a s, pk b s with
    | some x, some y => bopI o x y
    | _, _ => none
  | .neg a, s => match pk a s with
    | some (.int i) => some (.int (-i))
    | _ => none
  | .bi .len (.cons a .nil), s => match pk a s with
    | some d => lenD d
    | _ => none
  | _, _ => none

def fillA : As → List D → Env → Option (List D)
  | .nil, _, _ => some []
  | .lent i as, vs, s => match getv s i, fillA as vs s with
    | some d, some ds => some (shr d :: ds)
    | _, _ => none
  | .gone i as, vs, s => match getv s i, fillA as vs s with
    | some d, some ds => some (shr d :: ds)
    | _, _ => none
  | .io i as, vs, s => match getv s i, fillA as vs s with
    | some d, some ds => some (d :: ds)
    | _, _ => none
  | .val _ as, v :: vs, s => (fillA as vs s).map (shr v :: ·)
  | .val _ _, [], _ => none
  | .own _ as, v :: vs, s => (fillA as vs s).map (v :: ·)
  | .own _ _, [], _ => none
def ioA : As → List Nat
  | .nil => []
  | .lent _ as => ioA as
  | .gone _ as => ioA as
  | .io i as => i :: ioA as
  | .val _ as => ioA as
  | .own _ as => ioA as
def goneA : As → List Nat
  | .nil => []
  | .lent _ as => goneA as
  | .gone i as => i :: goneA as
  | .io _ as => goneA as
  | .val _ as => goneA as
  | .own _ as => goneA as
def lentA : As → List Nat
  | .nil => []
  | .lent i as => i :: lentA as
  | .gone _ as => lentA as
  | .io _ as => lentA as
  | .val _ as => lentA as
  | .own _ as => lentA as
def putAll : List Nat → List D → Env → Env
  | i :: is, d :: ds, s => putAll is ds (s.set i (some d))
  | _, _, s => s
def shrAll : List Nat → Env → Env
  | [], s => s
  | i :: is, s => shrAll is (match getv s i with
    | some d => s.set i (some (shr d))
    | none => s)
/-- a slot that the callee changes, or that is given away, is handed over once -/
def okA (as : As) : Bool := decide ((ioA as ++ goneA as).Nodup) && (ioA as ++ goneA as).all fun i => !(lentA as).contains i
/-- the places of the changed ones -/
def posA : Nat → As → List Nat
  | _, .nil => []
  | n, .lent _ as => posA (n + 1) as
  | n, .gone _ as => posA (n + 1) as
  | n, .io _ as => n :: posA (n + 1) as
  | n, .val _ as => posA (n + 1) as
  | n, .own _ as => posA (n + 1) as
/-- behind a call -/
def callE (as : As) (s : Env) : CR → R D
  | .ok r os => if os.length == (ioA as).length then
      .ok r (putAll (ioA as) os (wipeE (if own r && owns os then s else shrAll (lentA as) s) (ioA as ++ goneA as))) else .stk
  | .exc c os => if os.length == (ioA as).length then .exc c (putAll (ioA as) os (wipeE (if owns os then s else shrAll (lentA as) s) (ioA as ++ goneA as))) else .stk
  | .stk => .stk

/-- a range's ints -/
def rngD (lo c : Int) (n : Nat) : List D := (List.range n).map fun (k : Nat) => D.int (lo + (k : Int) * c)
def rngL : List D → Option (List D)
  | [.int j] => if decide (-(2 ^ 62) ≤ j) && decide (j < 2 ^ 62) then some (rngD 0 1 j.toNat) else none
  | [.int i, .int j] => if (decide (-(2 ^ 62) ≤ i) && decide (i < 2 ^ 62)) && (decide (-(2 ^ 62) ≤ j) && decide (j < 2 ^ 62)) then some (rngD i 1 (j - i).toNat) else none
  | [.int i, .int j, .int c] => if (decide (-(2 ^ 62) ≤ i) && decide (i < 2 ^ 62)) && (decide (-(2 ^ 62) ≤ j) && decide (j < 2 ^ 62)) then
      (if decide (0 < c) && decide (c < 2 ^ 29) then some (rngD i c ((j - i + c - 1) / c).toNat) else if decide (c = -1) then some (rngD i (-1) (i - j).toNat) else none) else none
  | _ => none

/-- list(range(..)) -/
def lrgD : List D → Option D
  | [.int j] => if decide (-(2 ^ 62) ≤ j) && decide (j ≤ 16777216) then some (.lst true (rngD 0 1 j.toNat)) else none
  | [.int i, .int j] => if (decide (-(2 ^ 62) ≤ i) && decide (i < 2 ^ 62)) && (decide (-(2 ^ 62) ≤ j) && decide (j < 2 ^ 62)) && decide ((j - i).toNat ≤ 16777216) then some (.lst true (rngD i 1 (j - i).toNat)) else none
  | _ => none

section
variable (cl : Nat → List D → CR)
/-- the turns of a comprehension -/
def lcL (turn : D → Env → R (Option D)) (ws : List Nat) : List D → List D → Env → R D
  | [], acc, s => .ok (.lst true acc) s
  | d :: ds, acc, s => match turn d s with
    | .ok (some y) s1 => if lenOk (acc.length + 1) then lcL turn ws ds (acc ++ [y]) (wipeE s1 ws) else .stk
    | .ok none s1 => lcL turn ws ds acc (wipeE s1 ws)
    | _ => .stk
/-- a value held as shared -/
def shrR (r : R D) : R D := r.bind fun d s => .ok (shr d) s

/-- a slice's bound: read alone -/
def evo : Xo → Env → Option (Option Int)
  | .none, _ => some none
  | .some x, s => match isPk x with
    | true => match pk x s with
      | some (.int i) => some (some i)
      | _ => none
    | false => none
/-- an expression's value, its truth as a test -/
structure Ev where
  val : Env → R D
  tst : Env → R Bool
/-- read only: no slot is shared by it -/
def evP (x : X) (f : Env → R D) (s : Env) : R D := match isPk x with
  | true => R.of (pk x s) s
  | false => f s
/-- its items are taken out: where they hold lists they are shared -/
def evR (x : X) (f : Env → R D) (s : Env) : R D := match x with
  | .v i mv => match mv with
    | true => f s
    | false => match (getv s i).bind itemsD with
      | some xs => if noLs xs then R.of (getv s i) s else f s
      | none => .stk
  | _ => f s
def evC (o : Cm) (a b : X) (f g : Env → R D) (s : Env) : R Bool := match isPk a && isPk b with
  | true => match pk a s, pk b s with
    | some x, some y => R.of (cmpD o x y) s
    | _, _ => .stk
  | false => (f s).bind fun x s1 => (g s1).bind fun y s2 => R.of (cmpD o x y) s2
def tstD (x : X) (f : Env → R D) (s : Env) : R Bool := (evP x f s).bind fun d s1 => R.of (truD d) s1
def mkE (x : X) (f : Env → R D) : Ev := ⟨f, tstD x f⟩
def toB (r : R D) : R Bool := r.bind fun x s => match x with
  | .bl b => .ok b s
  | _ => .stk
def fV (i : Nat) (mv : Bool) (s : Env) : R D := match getv s i with
  | none => .stk
  | some d => if mv then .ok d (s.set i none) else if noL d then .ok d s else .ok (shr d) (s.set i (some (shr d)))
def fK (d : D) (s : Env) : R D := if noL d && pln d then .ok d s else .stk
def fIx (a b : X) (f g : Env → R D) (s : Env) : R D := match isPk a && isPk b, pk (.ix a b) s with
  | true, some d => if noL d then .ok d s else (f s).bind fun x s1 => (g s1).bind fun y s2 => R.of (ixD x y) s2
  | _, _ => (f s).bind fun x s1 => (g s1).bind fun y s2 => R.of (ixD x y) s2
def fChn (o p : Cm) (f g h : Env → R D) (s : Env) : R D := (f s).bind fun x s1 => (g s1).bind fun y s2 => match cmpD o x y with
  | some true => (h s2).bind fun z s3 => match cmpD p y z with
    | some r => .ok (.bl r) s3
    | none => .stk
  | some false => .ok (.bl false) s2
  | none => .stk
def fNot (f : Env → R D) (s : Env) : R D := (f s).bind fun x s1 => match x with
  | .bl b => .ok (.bl (!b)) s1
  | _ => .stk
def fAnd (f g : Env → R D) (s : Env) : R D := (f s).bind fun x s1 => match x with
  | .bl true => g s1
  | .bl false => .ok (.bl false) s1
  | _ => .stk
def fOr (f g : Env → R D) (s : Env) : R D := (f s).bind fun x s1 => match x with
  | .bl true => .ok (.bl true) s1
  | .bl false => g s1
  | _ => .stk
def fPop (i : Nat) (s : Env) : R D := match getv s i with
  | some (.lst true xs) => match xs.getLast? with
    | some d => .ok d (s.set i (some (.lst true xs.dropLast)))
    | none => .stk
  | _ => .stk
def fJoin (x : Str) (d : D) (s : Env) : R D := match d with
  | .lst _ xs => match tstrs xs with
    | some zs => if decide ((zs.map (·.length)).sum + zs.length * x.length ≤ 16777216) then .ok (.str (Txt.join x zs)) s else .stk
    | none => .stk
  | _ => .stk
def fNeg (f : Env → R D) (s : Env) : R D := (f s).bind fun x s1 => match x with
  | .int i => .ok (.int (-i)) s1
  | _ => .stk
def fBi1 (b : Bi) (a : X) (f : Env → R D) (s : Env) : R D := match b with
  | .list => (evR a f s).bind fun x s1 => R.of (bi1L b x) s1
  | .tuple => (evR a f s).bind fun x s1 => R.of (bi1L b x) s1
  | _ => (evP a f s).bind fun x s1 => R.of (bi1 b x) s1
def fBi2 (b : Bi) (f g : Env → R D) (s : Env) : R D := (f s).bind fun x s1 => (g s1).bind fun y s2 => R.of (bi2 b x y) s2
def fIsi (a : X) (c : List Ty) (f : Env → R D) (s : Env) : R D := (evP a f s).bind fun x s1 => if isExc x then .stk else .ok (.bl (isiD c x)) s1
def fIfe (t : Env → R Bool) (f g : Env → R D) (s : Env) : R D := (t s).bind fun c s1 => if c then f s1 else g s1
def turnL (tg : Tg) (t : Env → R Bool) (f : Env → R D) (d : D) (s : Env) : R (Option D) := match tgE tg d s with
  | some s1 => (t s1).bind fun b s2 => if b then (f s2).bind fun y s3 => .ok (some y) s3 else .ok none s2
  | none => .stk

/-- a call with an item of a slot's list, lent -/
def callI (i j : Nat) (s : Env) (f : D → CR) : R D := match getv s i with
  | some (.lst o xs) => match xs[j]? with
    | some d => match f (shr d) with
      | .ok r [] => .ok r (if own r then s else s.set i (some (.lst false (shrs xs))))
      | .exc c [] => .exc c s
      | _ => .stk
    | none => .stk
  | _ => .stk
/-- a slot lent to a comprehension comes back -/
def giveR (it : It) (s : Env) (r : R D) : R D := match it with
  | .lent i => r.bind fun d s1 => .ok d (s1.set i (getv s i))
  | _ => r
mutual
def evX : X → Ev
  | .v i mv => mkE (.v i mv) (fV i mv)
  | .k d => mkE (.k d) (fK d)
  | .bin o a b => mkE (.bin o a b) fun s => ((evX a).val s).bind fun x s1 => ((evX b).val s1).bind fun y s2 => R.of (bop o x y) s2
  | .neg a => mkE (.neg a) (fNeg (evX a).val)
  | .cmp o a b => ⟨fun s => (evC o a b (evX a).val (evX b).val s).bind fun c s1 => .ok (.bl c) s1, evC o a b (evX a).val (evX b).val⟩
  | .chn o p a b c => ⟨fChn o p (evX a).val (evX b).val (evX c).val, fun s => toB (fChn o p (evX a).val (evX b).val (evX c).val s)⟩
  | .bnot a => ⟨fNot (evX a).val, fun s => ((evX a).tst s).bind fun c s1 => .ok (!c) s1⟩
  | .band a b => ⟨fAnd (evX a).val (evX b).val, fun s => ((evX a).tst s).bind fun c s1 => if c then (evX b).tst s1 else .ok false s1⟩
  | .bor a b => ⟨fOr (evX a).val (evX b).val, fun s => ((evX a).tst s).bind fun c s1 => if c then .ok true s1 else (evX b).tst s1⟩
  | .ife t a b => ⟨fIfe (evX t).tst (evX a).val (evX b).val, fun s => ((evX t).tst s).bind fun c s1 => if c then (evX a).tst s1 else (evX b).tst s1⟩
  | .lst xs => mkE (.lst xs) fun s => (evs xs s).bind fun ds s1 => if lenOk ds.length then .ok (.lst true ds) s1 else .stk
  | .tup xs => mkE (.tup xs) fun s => (evs xs s).bind fun ds s1 => if lenOk ds.length then .ok (.tup ds) s1 else .stk
  | .ix a b => mkE (.ix a b) (fIx a b (evX a).val (evX b).val)
  | .sl a lo hi => mkE (.sl a lo hi) fun s => (evR a (evX a).val s).bind fun x s1 => match evo lo s1, evo hi s1 with
    | some l, some h => R.of (slD x l h) s1
    | _, _ => .stk
  | .rev a => mkE (.rev a) fun s => (evR a (evX a).val s).bind fun x s1 => R.of (revD x) s1
  | .call f as dv => mkE (.call f as dv) fun s => (evA as s).bind fun vs s1 => match okA as, fillA as vs s1 with
    | true, some ds => callE as s1 (cl f (ds ++ dv))
    | _, _ => .stk
  | .calli f i j dv => mkE (.calli f i j dv) fun s => callI i j s fun d => cl f (d :: dv)
  | .bi b as => mkE (.bi b as) fun s => match as with
    | .cons a .nil => fBi1 b a (evX a).val s
    | .cons a (.cons c .nil) => fBi2 b (evX a).val (evX c).val s
    | _ => .stk
  | .isi a c => mkE (.isi a c) (fIsi a c (evX a).val)
  | .pop i => mkE (.pop i) (fPop i)
  | .join x a => mkE (.join x a) fun s => (evP a (evX a).val s).bind fun d s1 => fJoin x d s1
  | .lrg as => mkE (.lrg as) fun s => (evs as s).bind fun ds s1 => R.of (lrgD ds) s1
  | .lc e tg it c ws => mkE (.lc e tg it c ws) fun s => (evI it s).bind fun ds s1 => giveR it s (match c with
    | .none => lcL (turnL tg (fun s => .ok true s) (evX e).val) ws ds [] (wipeE s1 ws)
    | .some t => lcL (turnL tg (evX t).tst (evX e).val) ws ds [] (wipeE s1 ws))
def evs : Xs → Env → R (List D)
  | .nil, s => .ok [] s
  | .cons x xs, s => ((evX x).val s).bind fun d s1 => (evs xs s1).bind fun ds s2 => .ok (d :: ds) s2
def evA : As → Env → R (List D)
  | .nil, s => .ok [] s
  | .lent i as, s => match getv s i with
    | some _ => evA as s
    | none => .stk
  | .gone i as, s => match getv s i with
    | some _ => evA as s
    | none => .stk
  | .io i as, s => match getv s i with
    | some _ => evA as s
    | none => .stk
  | .val x as, s => ((evX x).val s).bind fun d s1 => (evA as s1).bind fun ds s2 => .ok (d :: ds) s2
  | .own x as, s => ((evX x).val s).bind fun d s1 => (evA as s1).bind fun ds s2 => .ok (d :: ds) s2
def evI : It → Env → R (List D)
  | .seq x, s => ((evX x).val s).bind fun d s1 => R.of ((itemsD d).map shrs) s1
  | .lent i, s => match (getv s i).bind itemsD with
    | some xs => if noLs xs then .ok xs (s.set i none) else .stk
    | none => .stk
  | .rng as, s => (evs as s).bind fun ds s1 => R.of (rngL ds) s1
  | .zip a b, s => ((evX a).val s).bind fun x s1 => ((evX b).val s1).bind fun y s2 => match itemsS x, itemsS y with
    | some xs, some ys => .ok (List.zipWith (fun p q => .tup [shr p, shr q]) xs ys) s2
    | _, _ => .stk
  | .enm a, s => ((evX a).val s).bind fun x s1 => match itemsD x with
    | some xs => .ok (xs.zipIdx.map fun p => .tup [.int p.2, shr p.1]) s1
    | none => .stk
end
end

/-! ### statements -/
def WN : Nat := 1000000000
def forL (tg : Tg) (body : Env → RS) : List D → Env → RS
  | [], s => .nx s
  | d :: ds, s => match tgE tg d s with
    | none => .stk
    | some s1 => match body s1 with
      | .nx s2 => forL tg body ds s2
      | .cnt s2 => forL tg body ds s2
      | .brk s2 => .nx s2
      | r => r
def whlL (test : Env → R Bool) (body : Env → RS) : Nat → Env → RS
  | 0, _ => .stk
  | n + 1, s => (test s).bindS fun c s1 => if c then (match body s1 with
      | .nx s2 => whlL test body n s2
      | .cnt s2 => whlL test body n s2
      | .brk s2 => .nx s2
      | r => r) else .nx s1
/-- a slot lent to a loop comes back -/
def giveBack (i : Nat) (o : Option D) : RS → RS
  | .nx s => .nx (s.set i o)
  | r => r
def setS (io : List Nat) (i : Nat) (d : D) (s : Env) : RS := if io.contains i then .stk else .nx (s.set i (some d))
def tgSlots : Tg → List Nat
  | .nm i => [i]
  | .tp is => is
def noIo (io : List Nat) (tg : Tg) : Bool := (tgSlots tg).all fun i => !io.contains i
section
variable (cl : Nat → List D → CR)
mutual
def evS : S → List Nat → Env → RS
  | .set i e, io, s => ((evX cl e).val s).bindS fun d s1 => setS io i d s1
  | .sett is e, io, s => ((evX cl e).val s).bindS fun d s1 => if noIo io (.tp is) then (match tgE (.tp is) d s1 with
    | some s2 => .nx s2
    | none => .stk) else .stk
  | .par i j a b, io, s => ((evX cl a).val s).bindS fun x s1 => ((evX cl b).val s1).bindS fun y s2 => if io.contains i || io.contains j then .stk else .nx ((s2.set i (some x)).set j (some y))
  | .seti i ix e, _, s => ((evX cl e).val s).bindS fun d s1 => match getv s1 i with
    | none => .stk
    | some _ => ((evX cl ix).val s1).bindS fun k s2 => match getv s2 i, k with
      | some (.lst true xs), .int n => match ixN xs.length n with
        | some j => .nx (s2.set i (some (.lst true (xs.set j d))))
        | none => .stk
      | _, _ => .stk
  | .aug i o e, io, s => match getv s i with
    | some (.int x) => ((evX cl e).val s).bindS fun d s1 => match o, d with
      | .add, .int y => setS io i (.int (x + y)) s1
      | .sub, .int y => setS io i (.int (x - y)) s1
      | _, _ => .stk
    | _ => .stk
  | .app i e, _, s => match getv s i with
    | some (.lst _ _) => ((evX cl e).val s).bindS fun d s1 => match getv s1 i with
      | some (.lst true xs) => if lenOk (xs.length + 1) then .nx (s1.set i (some (.lst true (xs ++ [d])))) else .stk
      | _ => .stk
    | _ => .stk
  | .ext i e, _, s => match getv s i with
    | some (.lst _ _) => ((evX cl e).val s).bindS fun d s1 => match getv s1 i, d with
      | some (.lst true xs), .lst _ ys => if lenOk (xs.length + ys.length) then .nx (s1.set i (some (.lst true (xs ++ ys)))) else .stk
      | _, _ => .stk
    | _ => .stk
  | .ex e, _, s => ((evX cl e).val s).bindS fun _ s1 => .nx s1
  | .iff t a b, io, s => ((evX cl t).tst s).bindS fun c s1 => if c then evSs a io s1 else evSs b io s1
  | .for tg it b, io, s => (evI cl it s).bindS fun ds s1 => match it with
    | .lent i => if noIo (i :: io) tg then giveBack i (getv s i) (forL tg (evSs b (i :: io)) ds s1) else .stk
    | _ => if noIo io tg then forL tg (evSs b io) ds s1 else .stk
  | .whl t b, io, s => whlL (evX cl t).tst (evSs b io) WN s
  | .ret e, _, s => ((evX cl e).val s).bindS fun d s1 => .ret d s1
  | .retn, _, s => .ret .non s
  | .brk, _, s => .brk s
  | .cnt, _, s => .cnt s
  | .pas, _, s => .nx s
  | .rse c, _, s => .exc c s
def evSs : Ss → List Nat → Env → RS
  | .nil, _, s => .nx s
  | .cons x xs, io, s => (evS x io s).bind fun s1 => evSs xs io s1
end
end

/-! ### defs -/
structure FD where
  np : Nat
  ns : Nat
  io : List Nat
  body : Ss
def ioOut : List Nat → Env → Option (List D)
  | [], _ => some []
  | i :: is, s => match getv s i, ioOut is s with
    | some d, some ds => some (d :: ds)
    | _, _ => none
def outC (io : List Nat) : RS → CR
  | .ret d s => match ioOut io s with
    | some os => .ok d os
    | none => .stk
  | .nx s => match ioOut io s with
    | some os => .ok .non os
    | none => .stk
  | .exc c s => match ioOut io s with
    | some os => .exc c os
    | none => .stk
  | _ => .stk
def startE (fd : FD) (ds : List D) : Env := ds.map some ++ List.replicate (fd.ns - ds.length) none
/-- the defs by number; pr: those that are told by hand -/
def runD (tb : Nat → Option FD) (pr : Nat → Option ((Nat → List D → CR) → List D → CR)) : Nat → Nat → List D → CR
  | 0, _, _ => .stk
  | n + 1, f, ds => match pr f with
    | some g => g (runD tb pr n) ds
    | none => match tb f with
      | some fd => if ds.length == fd.np then outC fd.io (evSs (runD tb pr n) fd.body fd.io (startE fd ds)) else .stk
      | none => .stk
end MP
set_option linter.all false
set_option maxRecDepth 100000
set_option maxHeartbeats 2000000
/-! MiniPy: what a value denotes; a frame's state. -/
namespace MP
open PySem PySem.Spec PyProof.Rows L2

abbrev G := List (Addr × Bool)
/-- a list locked, or of the top: never written -/
def SqZ (K : PySem.W.Frag) (H : Hp) (a : Addr) (xs : List V) : Prop := (∃ o, H a = some (.frz o (.lst xs))) ∨
    ∃ (o : Obj) (its : Array Value) (n : Nat), K.lookup a = some o ∧ o.cls = .type "list" ∧ o.dict = none ∧ o.data = .seq its n ∧ its.size ≤ sizeLine ∧ Vals xs its.toList
theorem SqZ.sq {K : PySem.W.Frag} {H : Hp} {a : Addr} {xs : List V} (h : SqZ K H a xs) : SqL K H a xs := by
  rcases h with h | h
  · exact .inl (.inr h)
  · exact .inr h

mutual
def Den (K : PySem.W.Frag) (H : Hp) : D → V → G → Prop
  | .non, v, g => v = .non ∧ g = []
  | .bl b, v, g => v = .bl b ∧ g = []
  | .int i, v, g => v = .int i ∧ g = []
  | .str x, v, g => v = .str x ∧ g = []
  | .lst o ds, v, g => ∃ a xs g', v = .ref a ∧ H a = some (.lst xs) ∧ g = (a, o) :: g' ∧ DenL K H ds xs g'
  | .tup ds, v, g => ∃ a xs, v = .ref a ∧ SqT K H a xs ∧ DenL K H ds xs g
  | .exc _, _, _ => False
  | .scr ns, v, g => ∃ a, v = .ref a ∧ SqZ K H a (ns.map V.int) ∧ g = []
def DenL (K : PySem.W.Frag) (H : Hp) : List D → List V → G → Prop
  | [], xs, g => xs = [] ∧ g = []
  | d :: ds, xs, g => ∃ x xs' g1 g2, xs = x :: xs' ∧ g = g1 ++ g2 ∧ Den K H d x g1 ∧ DenL K H ds xs' g2
end

section
variable {K : PySem.W.Frag} {H H' : Hp}
theorem DenL.length : ∀ {ds : List D} {xs : List V} {g : G}, DenL K H ds xs g → xs.length = ds.length
  | [], _, _, ⟨h, _⟩ => by rw [h]; rfl
  | d :: ds, _, _, ⟨x, xs', g1, g2, e, _, _, h⟩ => by rw [e, List.length_cons, List.length_cons, DenL.length h]
mutual
theorem Den.nol : ∀ {d : D} {v : V} {g : G}, noL d = true → Den K H d v g → g = []
  | .non, _, _, _, ⟨_, h⟩ => h
  | .bl _, _, _, _, ⟨_, h⟩ => h
  | .int _, _, _, _, ⟨_, h⟩ => h
  | .str _, _, _, _, ⟨_, h⟩ => h
  | .lst _ _, _, _, h, _ => by simp [noL] at h
  | .tup ds, _, _, h, ⟨a, xs, _, _, q⟩ => DenL.nol (by simpa [noL] using h) q
  | .exc _, _, _, _, h => h.elim
  | .scr _, _, _, _, ⟨_, _, _, h⟩ => h
theorem DenL.nol : ∀ {ds : List D} {xs : List V} {g : G}, noLs ds = true → DenL K H ds xs g → g = []
  | [], _, _, _, ⟨_, h⟩ => h
  | d :: ds, _, _, h, ⟨x, xs', g1, g2, _, e, h1, h2⟩ => by
    simp only [noLs, Bool.and_eq_true] at h
    rw [e, Den.nol h.1 h1, DenL.nol h.2 h2]; rfl
end
mutual
theorem Den.dom : ∀ {d : D} {v : V} {g : G}, Den K H d v g → ∀ p ∈ g, ∃ xs, H p.1 = some (.lst xs)
  | .non, _, _, ⟨_, h⟩ => by simp [h]
  | .bl _, _, _, ⟨_, h⟩ => by simp [h]
  | .int _, _, _, ⟨_, h⟩ => by simp [h]
  | .str _, _, _, ⟨_, h⟩ => by simp [h]
  | .lst _ _, _, _, ⟨a, xs, g', _, e, eg, q⟩ => by
    intro p hp
    rw [eg] at hp
    rcases List.mem_cons.mp hp with rfl | hp
    · exact ⟨xs, e⟩
    · exact DenL.dom q p hp
  | .tup ds, _, _, ⟨a, xs, _, _, q⟩ => DenL.dom q
  | .exc _, _, _, h => h.elim
  | .scr _, _, _, ⟨_, _, _, h⟩ => by simp [h]
theorem DenL.dom : ∀ {ds : List D} {xs : List V} {g : G}, DenL K H ds xs g → ∀ p ∈ g, ∃ xs, H p.1 = some (.lst xs)
  | [], _, _, ⟨_, h⟩ => by simp [h]
  | d :: ds, _, _, ⟨x, xs', g1, g2, _, e, h1, h2⟩ => by
    intro p hp
    rw [e] at hp
    rcases List.mem_append.mp hp with hp | hp
    · exact Den.dom h1 p hp
    · exact DenL.dom h2 p hp
end
/-- tuples and locked lists stand; S: what may change (lists) -/
structure Ext (S : Addr → Prop) (H H' : Hp) : Prop where
  keep : ∀ b o, H b = some o → ¬ S b → H' b = some o
  lst : ∀ b, S b → ∃ xs, H b = some (.lst xs)
theorem Ext.sqt {S : Addr → Prop} (x : Ext S H H') {a : Addr} {xs : List V} (h : SqT K H a xs) : SqT K H' a xs := by
  have ns : ∀ o, H a = some o → (∀ ys, o ≠ .lst ys) → ¬ S a := fun o e n z => by
    obtain ⟨ys, e'⟩ := x.lst a z
    rw [e] at e'; exact n ys (Option.some.inj e')
  rcases h with (h | ⟨o, h⟩) | h
  · exact .inl (.inl (x.keep _ _ h (ns _ h fun _ z => nomatch z)))
  · exact .inl (.inr ⟨o, x.keep _ _ h (ns _ h fun _ z => nomatch z)⟩)
  · exact .inr h
theorem Ext.sqz {S : Addr → Prop} (x : Ext S H H') {a : Addr} {xs : List V} (h : SqZ K H a xs) : SqZ K H' a xs := by
  have ns : ∀ o, H a = some o → (∀ ys, o ≠ .lst ys) → ¬ S a := fun o e n z => by
    obtain ⟨ys, e'⟩ := x.lst a z
    rw [e] at e'; exact n ys (Option.some.inj e')
  rcases h with ⟨o, h⟩ | h
  · exact .inl ⟨o, x.keep _ _ h (ns _ h fun _ z => nomatch z)⟩
  · exact .inr h
mutual
theorem Den.ext {S : Addr → Prop} (x : Ext S H H') : ∀ {d : D} {v : V} {g : G}, Den K H d v g → (∀ p ∈ g, ¬ S p.1) → Den K H' d v g
  | .non, _, _, h, _ => h
  | .bl _, _, _, h, _ => h
  | .int _, _, _, h, _ => h
  | .str _, _, _, h, _ => h
  | .lst _ _, _, _, ⟨a, xs, g', ev, e, eg, q⟩, n => by
    refine ⟨a, xs, g', ev, x.keep _ _ e (n (a, _) (by rw [eg]; exact List.mem_cons_self)), eg, DenL.ext x q fun p hp => n p (by rw [eg]; exact List.mem_cons_of_mem _ hp)⟩
  | .tup ds, _, _, ⟨a, xs, ev, e, q⟩, n => ⟨a, xs, ev, x.sqt e, DenL.ext x q n⟩
  | .exc _, _, _, h, _ => h
  | .scr _, _, _, ⟨a, ev, e, eg⟩, _ => ⟨a, ev, x.sqz e, eg⟩
theorem DenL.ext {S : Addr → Prop} (x : Ext S H H') : ∀ {ds : List D} {xs : List V} {g : G}, DenL K H ds xs g → (∀ p ∈ g, ¬ S p.1) → DenL K H' ds xs g
  | [], _, _, h, _ => h
  | d :: ds, _, _, ⟨y, xs', g1, g2, e1, e, h1, h2⟩, n =>
    ⟨y, xs', g1, g2, e1, e, Den.ext x h1 fun p hp => n p (by rw [e]; exact List.mem_append_left _ hp), DenL.ext x h2 fun p hp => n p (by rw [e]; exact List.mem_append_right _ hp)⟩
end
def low (g : G) : G := g.map fun p => (p.1, false)
theorem low_append (g h : G) : low (g ++ h) = low g ++ low h := List.map_append
theorem mem_low {g : G} {p : Addr × Bool} (h : p ∈ low g) : p.2 = false ∧ ∃ b, (p.1, b) ∈ g := by
  obtain ⟨q, hq, e⟩ := List.mem_map.mp h
  subst e
  exact ⟨rfl, q.2, hq⟩
mutual
theorem Den.shr : ∀ {d : D} {v : V} {g : G}, Den K H d v g → Den K H (shr d) v (low g)
  | .non, _, _, ⟨h, e⟩ => ⟨h, by rw [e]; rfl⟩
  | .bl _, _, _, ⟨h, e⟩ => ⟨h, by rw [e]; rfl⟩
  | .int _, _, _, ⟨h, e⟩ => ⟨h, by rw [e]; rfl⟩
  | .str _, _, _, ⟨h, e⟩ => ⟨h, by rw [e]; rfl⟩
  | .lst _ _, _, _, ⟨a, xs, g', ev, e, eg, q⟩ => ⟨a, xs, low g', ev, e, by rw [eg]; rfl, DenL.shr q⟩
  | .tup ds, _, _, ⟨a, xs, ev, e, q⟩ => ⟨a, xs, ev, e, DenL.shr q⟩
  | .exc _, _, _, h => h.elim
  | .scr _, _, _, ⟨a, ev, e, eg⟩ => ⟨a, ev, e, by rw [eg]; rfl⟩
theorem DenL.shr : ∀ {ds : List D} {xs : List V} {g : G}, DenL K H ds xs g → DenL K H (shrs ds) xs (low g)
  | [], _, _, ⟨h, e⟩ => ⟨h, by rw [e]; rfl⟩
  | d :: ds, _, _, ⟨y, xs', g1, g2, e1, e, h1, h2⟩ => ⟨y, xs', low g1, low g2, e1, by rw [e, low_append], Den.shr h1, DenL.shr h2⟩
end
mutual
theorem shr_own : ∀ {d : D} {v : V} {g : G}, Den K H d v g → own d = true → ∀ p ∈ g, p.2 = true
  | .non, _, _, ⟨_, h⟩, _ => by simp [h]
  | .bl _, _, _, ⟨_, h⟩, _ => by simp [h]
  | .int _, _, _, ⟨_, h⟩, _ => by simp [h]
  | .str _, _, _, ⟨_, h⟩, _ => by simp [h]
  | .lst o ds, _, _, ⟨a, xs, g', ev, e, eg, q⟩, ho => by
    simp only [own, Bool.and_eq_true] at ho
    intro p hp
    rw [eg] at hp
    rcases List.mem_cons.mp hp with rfl | hp
    · exact ho.1
    · exact shrs_own q ho.2 p hp
  | .tup ds, _, _, ⟨a, xs, ev, e, q⟩, ho => shrs_own q (by simpa [own] using ho)
  | .exc _, _, _, h, _ => h.elim
  | .scr _, _, _, ⟨_, _, _, h⟩, _ => by simp [h]
theorem shrs_own : ∀ {ds : List D} {xs : List V} {g : G}, DenL K H ds xs g → owns ds = true → ∀ p ∈ g, p.2 = true
  | [], _, _, ⟨_, h⟩, _ => by simp [h]
  | d :: ds, _, _, ⟨y, xs', g1, g2, e1, e, h1, h2⟩, ho => by
    simp only [owns, Bool.and_eq_true] at ho
    intro p hp
    rw [e] at hp
    rcases List.mem_append.mp hp with hp | hp
    · exact shr_own h1 ho.1 p hp
    · exact shrs_own h2 ho.2 p hp
end
/-- parts of a row -/
theorem DenL.get : ∀ {ds : List D} {xs : List V} {g : G} {i : Nat} {d : D}, DenL K H ds xs g → ds[i]? = some d →
    ∃ x g1 gi g2, xs[i]? = some x ∧ g = g1 ++ gi ++ g2 ∧ Den K H d x gi ∧ DenL K H (ds.take i) (xs.take i) g1 ∧ DenL K H (ds.drop (i + 1)) (xs.drop (i + 1)) g2
  | [], _, _, _, _, _, h => by simp at h
  | d' :: ds, _, _, 0, d, ⟨y, xs', g1, g2, e1, e, h1, h2⟩, h => by
    simp at h; subst h; subst e1
    exact ⟨y, [], g1, g2, rfl, by simpa using e, h1, ⟨rfl, rfl⟩, by simpa using h2⟩
  | d' :: ds, _, _, i + 1, d, ⟨y, xs', g1, g2, e1, e, h1, h2⟩, h => by
    subst e1
    obtain ⟨x, k1, ki, k2, a, b, c, d1, d2⟩ := DenL.get (i := i) h2 (by simpa using h)
    exact ⟨x, g1 ++ k1, ki, k2, by simpa using a, by rw [e, b]; simp, c, ⟨y, _, g1, k1, by simp, rfl, h1, d1⟩, by simpa using d2⟩
theorem DenL.append : ∀ {ds es : List D} {xs ys : List V} {g h : G}, DenL K H ds xs g → DenL K H es ys h → DenL K H (ds ++ es) (xs ++ ys) (g ++ h)
  | [], _, _, _, _, _, ⟨e1, e2⟩, q => by rw [e1, e2]; exact q
  | d :: ds, es, _, ys, _, h, ⟨y, xs', g1, g2, e1, e, h1, h2⟩, q => ⟨y, xs' ++ ys, g1, g2 ++ h, by rw [e1]; rfl, by rw [e, List.append_assoc], h1, DenL.append h2 q⟩
theorem DenL.one {d : D} {x : V} {g : G} (h : Den K H d x g) : DenL K H [d] [x] g := ⟨x, [], g, [], rfl, by simp, h, rfl, rfl⟩
theorem DenL.split : ∀ {ds es : List D} {xs : List V} {g : G}, DenL K H (ds ++ es) xs g → ∃ x1 x2 g1 g2, xs = x1 ++ x2 ∧ g = g1 ++ g2 ∧ DenL K H ds x1 g1 ∧ DenL K H es x2 g2
  | [], _, xs, g, h => ⟨[], xs, [], g, rfl, rfl, ⟨rfl, rfl⟩, h⟩
  | d :: ds, es, _, _, ⟨y, xs', g1, g2, e1, e, h1, h2⟩ => by
    obtain ⟨x1, x2, k1, k2, a, b, c1, c2⟩ := DenL.split h2
    exact ⟨y :: x1, x2, g1 ++ k1, k2, by rw [e1, a]; rfl, by rw [e, b, List.append_assoc], ⟨y, x1, g1, k1, rfl, rfl, h1, c1⟩, c2⟩
end

/-! ### entries -/
abbrev En := List (D × V)
def DenE (K : PySem.W.Frag) (H : Hp) (E : En) (g : G) : Prop := DenL K H (E.map (·.1)) (E.map (·.2)) g
section
variable {K : PySem.W.Frag} {H H' : Hp}
theorem DenE.nil {g : G} : DenE K H [] g ↔ g = [] := by unfold DenE; simp [DenL]
theorem DenE.cons {e : D × V} {E : En} {g : G} : DenE K H (e :: E) g ↔ ∃ g1 g2, g = g1 ++ g2 ∧ Den K H e.1 e.2 g1 ∧ DenE K H E g2 := by
  unfold DenE
  constructor
  · rintro ⟨x, xs', g1, g2, e1, e2, h1, h2⟩
    obtain ⟨rfl, rfl⟩ := List.cons.inj e1
    exact ⟨g1, g2, e2, h1, h2⟩
  · rintro ⟨g1, g2, e2, h1, h2⟩
    exact ⟨e.2, E.map (·.2), g1, g2, rfl, e2, h1, h2⟩
theorem DenE.append {E E' : En} {g : G} : DenE K H (E ++ E') g ↔ ∃ g1 g2, g = g1 ++ g2 ∧ DenE K H E g1 ∧ DenE K H E' g2 := by
  constructor
  · intro h
    unfold DenE at h
    rw [List.map_append, List.map_append] at h
    obtain ⟨x1, x2, g1, g2, a, b, c1, c2⟩ := DenL.split h
    have l1 := c1.length
    have l2 : (E.map (·.2)).length = x1.length := by rw [l1]; simp
    obtain ⟨h1, h2⟩ := List.append_inj a l2
    exact ⟨g1, g2, b, by unfold DenE; rw [h1]; exact c1, by unfold DenE; rw [h2]; exact c2⟩
  · rintro ⟨g1, g2, e, h1, h2⟩
    unfold DenE
    rw [List.map_append, List.map_append, e]
    exact DenL.append h1 h2
theorem DenE.perm {E E' : En} (p : E.Perm E') : ∀ {g : G}, DenE K H E g → ∃ g', DenE K H E' g' ∧ g.Perm g' := by
  induction p with
  | nil => intro g h; exact ⟨g, h, .refl _⟩
  | cons x _ ih =>
    intro g h
    obtain ⟨g1, g2, e, h1, h2⟩ := DenE.cons.mp h
    obtain ⟨g', q, p'⟩ := ih h2
    exact ⟨g1 ++ g', DenE.cons.mpr ⟨g1, g', rfl, h1, q⟩, by rw [e]; exact p'.append_left _⟩
  | swap x y l =>
    intro g h
    obtain ⟨g1, g2, e, h1, h2⟩ := DenE.cons.mp h
    obtain ⟨g3, g4, e', h3, h4⟩ := DenE.cons.mp h2
    refine ⟨g3 ++ (g1 ++ g4), DenE.cons.mpr ⟨g3, _, rfl, h3, DenE.cons.mpr ⟨g1, g4, rfl, h1, h4⟩⟩, ?_⟩
    rw [e, e', ← List.append_assoc, ← List.append_assoc]
    exact (List.perm_append_comm).append_right _
  | trans _ _ ih1 ih2 =>
    intro g h
    obtain ⟨g1, h1, p1⟩ := ih1 h
    obtain ⟨g2, h2, p2⟩ := ih2 h1
    exact ⟨g2, h2, p1.trans p2⟩
theorem DenE.ext {S : Addr → Prop} (x : Ext S H H') {E : En} {g : G} (h : DenE K H E g) (n : ∀ p ∈ g, ¬ S p.1) : DenE K H' E g := DenL.ext x h n
theorem DenE.dom {E : En} {g : G} (h : DenE K H E g) : ∀ p ∈ g, ∃ xs, H p.1 = some (.lst xs) := DenL.dom h
/-- a row as entries -/
theorem DenE.zip {ds : List D} {xs : List V} {g : G} (h : DenL K H ds xs g) : DenE K H (ds.zip xs) g := by
  unfold DenE
  rw [List.map_fst_zip (Nat.le_of_eq h.length.symm), List.map_snd_zip (Nat.le_of_eq h.length)]
  exact h
theorem DenE.unzip {ds : List D} {xs : List V} {g : G} (l : xs.length = ds.length) (h : DenE K H (ds.zip xs) g) : DenL K H ds xs g := by
  unfold DenE at h
  rw [List.map_fst_zip (Nat.le_of_eq l.symm), List.map_snd_zip (Nat.le_of_eq l)] at h
  exact h
end

/-! ### apart -/
abbrev Ap (p q : Addr × Bool) : Prop := p.1 = q.1 → p.2 = false ∧ q.2 = false
theorem Ap.symm {p q : Addr × Bool} (h : Ap p q) : Ap q p := fun e => (h e.symm).symm
def Cl (g : G) : Prop := g.Pairwise Ap
theorem Cl.perm {g g' : G} (p : g.Perm g') (h : Cl g) : Cl g' := (p.pairwise_iff (R := Ap) Ap.symm).mp h
theorem Cl.append {g h : G} : Cl (g ++ h) ↔ Cl g ∧ Cl h ∧ ∀ p ∈ g, ∀ q ∈ h, Ap p q := List.pairwise_append
theorem Cl.cons {p : Addr × Bool} {h : G} : Cl (p :: h) ↔ (∀ q ∈ h, Ap p q) ∧ Cl h := List.pairwise_cons
theorem Cl.low (g : G) : Cl (low g) := by
  unfold Cl MP.low
  rw [List.pairwise_map]
  exact List.pairwise_of_forall fun _ _ _ => ⟨rfl, rfl⟩
theorem Cl.lowL {g h : G} (c : Cl (g ++ h)) : Cl (MP.low g ++ h) := by
  obtain ⟨_, c2, c3⟩ := Cl.append.mp c
  refine Cl.append.mpr ⟨Cl.low g, c2, fun p hp q hq e => ?_⟩
  obtain ⟨h1, b, h2⟩ := mem_low hp
  exact ⟨h1, (c3 (p.1, b) h2 q hq e).2⟩
theorem Cl.sub {g h : G} (s : List.Sublist g h) (c : Cl h) : Cl g := c.sublist s

/-- a def's entry: the heap, the arguments' footprint -/
structure Fr where
  H0 : Hp
  G0 : G
  io : List (Nat × V)
def Sub (F : Fr) (g : G) : Prop := ∀ p ∈ g, F.H0 p.1 = none ∨ (∃ b, (p.1, b) ∈ F.G0 ∧ (p.2 = true → b = true))
def Kept (F : Fr) (H : Hp) : Prop := ∀ b o, F.H0 b = some o → (b, true) ∉ F.G0 → H b = some o
theorem Sub.append {F : Fr} {g h : G} : Sub F (g ++ h) ↔ Sub F g ∧ Sub F h := List.forall_mem_append
theorem Sub.low {F : Fr} {g : G} (s : Sub F g) : Sub F (MP.low g) := fun p hp => by
  obtain ⟨h1, b, h2⟩ := mem_low hp
  rcases s _ h2 with q | ⟨b', q, _⟩
  · exact .inl q
  · exact .inr ⟨b', q, fun z => by rw [h1] at z; cases z⟩
theorem Sub.perm {F : Fr} {g g' : G} (p : g.Perm g') (s : Sub F g) : Sub F g' := fun q hq => s q (p.mem_iff.mpr hq)

/-- the live slots -/
inductive Live : L2.St → Env → En → Prop
  | nil {σ : L2.St} : Live σ [] []
  | dead {x : Option V} {σ : L2.St} {s : Env} {E : En} (h : Live σ s E) : Live (x :: σ) (none :: s) E
  | live {v : V} {d : D} {σ : L2.St} {s : Env} {E : En} (h : Live σ s E) : Live (some v :: σ) (some d :: s) ((d, v) :: E)
theorem getv_nil (i : Nat) : getv [] i = none := rfl
theorem getv_zero (o : Option D) (s : Env) : getv (o :: s) 0 = o := by unfold getv; simp
theorem getv_succ (o : Option D) (s : Env) (i : Nat) : getv (o :: s) (i + 1) = getv s i := by unfold getv; simp
/-- a live slot -/
theorem Live.get : ∀ {σ : L2.St} {s : Env} {E : En} {i : Nat} {d : D}, Live σ s E → getv s i = some d →
    ∃ v E1 E2, σ[i]? = some (some v) ∧ E = E1 ++ (d, v) :: E2 ∧ (∀ d', Live σ (s.set i (some d')) (E1 ++ (d', v) :: E2)) ∧ Live σ (s.set i none) (E1 ++ E2)
  | _, _, _, i, _, .nil, h => by rw [getv_nil] at h; cases h
  | _, _, _, 0, _, .dead _, h => by rw [getv_zero] at h; cases h
  | _, _, _, i + 1, d, .dead q, h => by
    rw [getv_succ] at h
    obtain ⟨v, E1, E2, a, b, c, e⟩ := Live.get q h
    exact ⟨v, E1, E2, by simpa using a, b, fun d' => .dead (c d'), .dead e⟩
  | _, _, _, 0, d, .live q, h => by
    rw [getv_zero] at h
    cases h
    exact ⟨_, [], _, rfl, rfl, fun d' => .live q, .dead q⟩
  | _, _, _, i + 1, d, .live (v := v0) (d := d0) q, h => by
    rw [getv_succ] at h
    obtain ⟨v, E1, E2, a, b, c, e⟩ := Live.get q h
    exact ⟨v, (d0, v0) :: E1, E2, by simpa using a, by rw [b]; rfl, fun d' => .live (c d'), .live e⟩
/-- a slot is stored -/
theorem Live.set : ∀ {σ : L2.St} {s : Env} {E : En} (i : Nat) (d : D) (v : V), Live σ s E →
    ∃ E1 E0 E2, E = E1 ++ E0 ++ E2 ∧ (Live (σ.set i (some v)) (s.set i (some d)) (E1 ++ (d, v) :: E2) ∨ Live (σ.set i (some v)) (s.set i (some d)) (E1 ++ E2))
  | _, _, _, i, d, v, .nil => ⟨[], [], [], rfl, .inr (by simpa using Live.nil)⟩
  | _, _, _, 0, d, v, .dead q => ⟨[], [], _, rfl, .inl (.live q)⟩
  | _, _, _, i + 1, d, v, .dead q => by
    obtain ⟨E1, E0, E2, e, h⟩ := Live.set i d v q
    refine ⟨E1, E0, E2, e, ?_⟩
    rcases h with h | h
    · exact .inl (.dead h)
    · exact .inr (.dead h)
  | _, _, _, 0, d, v, .live (v := v0) (d := d0) q => ⟨[], [(d0, v0)], _, rfl, .inl (.live q)⟩
  | _, _, _, i + 1, d, v, .live (v := v0) (d := d0) q => by
    obtain ⟨E1, E0, E2, e, h⟩ := Live.set i d v q
    refine ⟨(d0, v0) :: E1, E0, E2, by rw [e]; rfl, ?_⟩
    rcases h with h | h
    · exact .inl (.live h)
    · exact .inr (.live h)
/-- a slot is forgotten, on either side -/
theorem Live.kill : ∀ {σ : L2.St} {s : Env} {E : En} (i : Nat) (o : Option V), Live σ s E →
    ∃ E', List.Sublist E' E ∧ Live (σ.set i o) (s.set i none) E'
  | _, _, _, i, o, .nil => ⟨[], .slnil, by simpa using Live.nil⟩
  | _, _, _, 0, o, .dead q => ⟨_, .refl _, .dead q⟩
  | _, _, _, i + 1, o, .dead q => by
    obtain ⟨E', e, h⟩ := Live.kill i o q
    exact ⟨E', e, .dead h⟩
  | _, _, _, 0, o, .live (v := v0) (d := d0) q => ⟨_, .cons _ (.refl _), .dead q⟩
  | _, _, _, i + 1, o, .live (v := v0) (d := d0) q => by
    obtain ⟨E', e, h⟩ := Live.kill i o q
    exact ⟨(d0, v0) :: E', .cons_cons _ e, .live h⟩

/-- a frame's state: held values ahead of the slots -/
structure SOk (K : PySem.W.Frag) (F : Fr) (σ : L2.St) (H : Hp) (s : Env) (hs : En) : Prop where
  ex : ∃ E g, Live σ s E ∧ DenE K H (hs ++ E) g ∧ Cl g ∧ Sub F g
  kept : Kept F H
  io : ∀ p ∈ F.io, σ[p.1]? = some (some p.2)
end MP
set_option linter.all false
set_option maxRecDepth 100000
set_option maxHeartbeats 2000000
/-! MiniPy: how a frame's state moves. -/
namespace MP
open PySem PySem.Spec PyProof.Rows L2

section
variable {K : PySem.W.Frag} {H H' : Hp}
theorem DenE.sublist {E E' : En} (s : List.Sublist E' E) : ∀ {g : G}, DenE K H E g → ∃ g', DenE K H E' g' ∧ List.Sublist g' g := by
  induction s with
  | slnil => intro g h; exact ⟨g, h, .refl _⟩
  | cons x _ ih =>
    intro g h
    obtain ⟨g1, g2, e, h1, h2⟩ := DenE.cons.mp h
    obtain ⟨g', q, p⟩ := ih h2
    exact ⟨g', q, by rw [e]; exact p.trans (List.sublist_append_right _ _)⟩
  | cons_cons x _ ih =>
    intro g h
    obtain ⟨g1, g2, e, h1, h2⟩ := DenE.cons.mp h
    obtain ⟨g', q, p⟩ := ih h2
    exact ⟨g1 ++ g', DenE.cons.mpr ⟨g1, g', rfl, h1, q⟩, by rw [e]; exact List.Sublist.append (.refl _) p⟩
theorem Sub.sublist {F : Fr} {g g' : G} (p : List.Sublist g' g) (s : Sub F g) : Sub F g' := fun q hq => s q (p.subset hq)
theorem Cl.dup {g h : G} (c : Cl (MP.low g ++ h)) : Cl (MP.low g ++ (MP.low g ++ h)) := by
  refine Cl.append.mpr ⟨Cl.low g, c, fun p hp q hq e => ?_⟩
  rcases List.mem_append.mp hq with hq | hq
  · exact ⟨(mem_low hp).1, (mem_low hq).1⟩
  · exact (Cl.append.mp c).2.2 p hp q hq e
variable {F : Fr} {σ : L2.St} {s : Env} {hs : En}

/-- the state as a row of entries: any part of it, in any order -/
theorem SOk.mk' {E : En} {g : G} {s' : Env} {hs' : En} {σ' : L2.St} (l : Live σ' s' E) (d : DenE K H' (hs' ++ E) g) (c : Cl g) (u : Sub F g) (k : Kept F H') (i : ∀ p ∈ F.io, σ'[p.1]? = some (some p.2)) : SOk K F σ' H' s' hs' :=
  ⟨⟨E, g, l, d, c, u⟩, k, i⟩
/-- the held values in another order, or fewer -/
theorem SOk.held {hs' hs2 : En} (x : SOk K F σ H s hs) (p : hs.Perm hs2) (q : List.Sublist hs' hs2) : SOk K F σ H s hs' := by
  obtain ⟨⟨E, g, l, d, c, u⟩, k, i⟩ := x
  obtain ⟨g1, d1, p1⟩ := DenE.perm (p.append_right E) d
  obtain ⟨g2, d2, p2⟩ := DenE.sublist (q.append_right E) d1
  exact .mk' l d2 ((c.perm p1).sub p2) ((u.perm p1).sublist p2) k i
theorem SOk.drop {e : D × V} (x : SOk K F σ H s (e :: hs)) : SOk K F σ H s hs := x.held (.refl _) (.cons _ (.refl _))
theorem SOk.swap {e f : D × V} (x : SOk K F σ H s (e :: f :: hs)) : SOk K F σ H s (f :: e :: hs) := x.held (.swap _ _ _) (.refl _)
/-- what a held value denotes -/
theorem SOk.den {e : D × V} (x : SOk K F σ H s (e :: hs)) : ∃ g, Den K H e.1 e.2 g := by
  obtain ⟨⟨E, g, l, d, c, u⟩, k, i⟩ := x
  obtain ⟨g1, g2, _, h1, _⟩ := DenE.cons.mp d
  exact ⟨g1, h1⟩
/-- a value that holds nothing -/
theorem SOk.atom {d : D} {v : V} (x : SOk K F σ H s hs) (h : Den K H d v []) : SOk K F σ H s ((d, v) :: hs) := by
  obtain ⟨⟨E, g, l, dd, c, u⟩, k, i⟩ := x
  exact .mk' l (DenE.cons.mpr ⟨[], g, rfl, h, dd⟩) c u k i
/-- a slot read -/
theorem SOk.peek {i : Nat} {d : D} (x : SOk K F σ H s hs) (e : getv s i = some d) : ∃ v g, σ[i]? = some (some v) ∧ Den K H d v g := by
  obtain ⟨⟨E, g, l, dd, c, u⟩, k, io⟩ := x
  obtain ⟨v, E1, E2, h1, h2, h3, h4⟩ := l.get e
  have p : (hs ++ E).Perm ((d, v) :: (hs ++ (E1 ++ E2))) := by
    rw [h2, ← List.append_assoc, ← List.append_assoc]
    exact List.perm_middle
  obtain ⟨g', d', p'⟩ := DenE.perm p dd
  obtain ⟨g1, g2, _, q1, _⟩ := DenE.cons.mp d'
  exact ⟨v, g1, h1, q1⟩
/-- a slot given away -/
theorem SOk.move {i : Nat} {d : D} (x : SOk K F σ H s hs) (e : getv s i = some d) : ∃ v, σ[i]? = some (some v) ∧ SOk K F σ H (s.set i none) ((d, v) :: hs) := by
  obtain ⟨⟨E, g, l, dd, c, u⟩, k, io⟩ := x
  obtain ⟨v, E1, E2, h1, h2, h3, h4⟩ := l.get e
  have p : (hs ++ E).Perm (((d, v) :: hs) ++ (E1 ++ E2)) := by
    rw [h2, ← List.append_assoc]
    show List.Perm _ ((d, v) :: (hs ++ (E1 ++ E2)))
    rw [← List.append_assoc]
    exact List.perm_middle
  obtain ⟨g', d', p'⟩ := DenE.perm p dd
  exact ⟨v, h1, .mk' h4 d' (c.perm p') (u.perm p') k io⟩
/-- a held value goes back to its slot, changed or not -/
theorem getv_none_set {s : Env} {i : Nat} (h : getv s i = none) : s.set i none = s := by
  by_cases hi : i < s.length
  · apply List.ext_getElem?
    intro j
    by_cases hj : i = j
    · subst hj
      rw [List.getElem?_set_self hi]
      unfold getv at h
      rw [List.getElem?_eq_getElem hi] at h ⊢
      simp at h
      rw [h]
    · rw [List.getElem?_set_ne hj]
  · rw [List.set_eq_of_length_le (by omega)]
theorem SOk.store {i : Nat} {d : D} {v : V} (x : SOk K F σ H s ((d, v) :: hs)) (hio : ∀ p ∈ F.io, p.1 ≠ i) : SOk K F (σ.set i (some v)) H (s.set i (some d)) hs := by
  obtain ⟨⟨E, g, l, dd, c, u⟩, k, io⟩ := x
  obtain ⟨E1, E0, E2, e, h⟩ := l.set i d v
  have io' : ∀ p ∈ F.io, (σ.set i (some v))[p.1]? = some (some p.2) := fun p hp => by
    rw [List.getElem?_set_ne (Ne.symm (hio p hp))]; exact io p hp
  have fin : ∀ {E' : En}, Live (σ.set i (some v)) (s.set i (some d)) E' → (∃ E3, (((d, v) :: hs) ++ E).Perm E3 ∧ List.Sublist (hs ++ E') E3) → SOk K F (σ.set i (some v)) H (s.set i (some d)) hs := fun {E'} hl ⟨E3, p, q⟩ => by
    obtain ⟨g1, d1, p1⟩ := DenE.perm p dd
    obtain ⟨g2, d2, p2⟩ := DenE.sublist q d1
    exact .mk' hl d2 ((c.perm p1).sub p2) ((u.perm p1).sublist p2) k io'
  rcases h with h | h
  · refine fin h ⟨hs ++ (E1 ++ (d, v) :: (E0 ++ E2)), ?_, ?_⟩
    · rw [e]
      rw [show ((d, v) :: hs) ++ (E1 ++ E0 ++ E2) = (d, v) :: ((hs ++ E1) ++ (E0 ++ E2)) by simp, show hs ++ (E1 ++ (d, v) :: (E0 ++ E2)) = (hs ++ E1) ++ (d, v) :: (E0 ++ E2) by simp]
      exact List.perm_middle.symm
    · refine List.Sublist.append (.refl _) (List.Sublist.append (.refl _) (.cons_cons _ (List.sublist_append_right _ _)))
  · refine fin h ⟨(d, v) :: (hs ++ E), .refl _, .cons _ (List.Sublist.append (.refl _) ?_)⟩
    rw [e, List.append_assoc]
    exact List.Sublist.append (.refl _) (List.sublist_append_right _ _)
/-- the slot that still holds the value's object (σ stands) -/
theorem SOk.back {i : Nat} {d : D} {v : V} (x : SOk K F σ H s ((d, v) :: hs)) (e : σ[i]? = some (some v)) : SOk K F σ H (s.set i (some d)) hs := by
  obtain ⟨⟨E, g, l, dd, c, u⟩, k, io⟩ := x
  obtain ⟨E1, E0, E2, e1, h⟩ := l.set i d v
  have es : σ.set i (some v) = σ := by
    apply List.ext_getElem?
    intro j
    by_cases hj : i = j
    · subst hj
      have hi : i < σ.length := (List.getElem?_eq_some_iff.mp e).1
      rw [List.getElem?_set_self hi, e]
    · rw [List.getElem?_set_ne hj]
  rw [es] at h
  have fin : ∀ {E' : En}, Live σ (s.set i (some d)) E' → (∃ E3, (((d, v) :: hs) ++ E).Perm E3 ∧ List.Sublist (hs ++ E') E3) → SOk K F σ H (s.set i (some d)) hs := fun {E'} hl ⟨E3, p, q⟩ => by
    obtain ⟨g1, d1, p1⟩ := DenE.perm p dd
    obtain ⟨g2, d2, p2⟩ := DenE.sublist q d1
    exact .mk' hl d2 ((c.perm p1).sub p2) ((u.perm p1).sublist p2) k io
  rcases h with h | h
  · refine fin h ⟨hs ++ (E1 ++ (d, v) :: (E0 ++ E2)), ?_, ?_⟩
    · rw [e1]
      rw [show ((d, v) :: hs) ++ (E1 ++ E0 ++ E2) = (d, v) :: ((hs ++ E1) ++ (E0 ++ E2)) by simp, show hs ++ (E1 ++ (d, v) :: (E0 ++ E2)) = (hs ++ E1) ++ (d, v) :: (E0 ++ E2) by simp]
      exact List.perm_middle.symm
    · refine List.Sublist.append (.refl _) (List.Sublist.append (.refl _) (.cons_cons _ (List.sublist_append_right _ _)))
  · refine fin h ⟨(d, v) :: (hs ++ E), .refl _, .cons _ (List.Sublist.append (.refl _) ?_)⟩
    rw [e1, List.append_assoc]
    exact List.Sublist.append (.refl _) (List.sublist_append_right _ _)
/-- a slot forgotten -/
theorem SOk.kill {i : Nat} (x : SOk K F σ H s hs) : SOk K F σ H (s.set i none) hs := by
  obtain ⟨⟨E, g, l, dd, c, u⟩, k, io⟩ := x
  cases e : getv s i with
  | none => rw [getv_none_set e]; exact ⟨⟨E, g, l, dd, c, u⟩, k, io⟩
  | some d =>
    obtain ⟨v, _, y⟩ := SOk.move (⟨⟨E, g, l, dd, c, u⟩, k, io⟩ : SOk K F σ H s hs) e
    exact y.drop
/-- a held value shared -/
theorem SOk.shrH {d : D} {v : V} (x : SOk K F σ H s ((d, v) :: hs)) : SOk K F σ H s ((shr d, v) :: hs) := by
  obtain ⟨⟨E, g, l, dd, c, u⟩, k, io⟩ := x
  obtain ⟨g1, g2, e, h1, h2⟩ := DenE.cons.mp dd
  subst e
  exact .mk' l (DenE.cons.mpr ⟨low g1, g2, rfl, h1.shr, h2⟩) c.lowL (Sub.append.mpr ⟨(Sub.append.mp u).1.low, (Sub.append.mp u).2⟩) k io
/-- .. and held twice -/
theorem SOk.dup {d : D} {v : V} (x : SOk K F σ H s ((d, v) :: hs)) : SOk K F σ H s ((shr d, v) :: (shr d, v) :: hs) := by
  obtain ⟨⟨E, g, l, dd, c, u⟩, k, io⟩ := x
  obtain ⟨g1, g2, e, h1, h2⟩ := DenE.cons.mp dd
  subst e
  refine .mk' l (DenE.cons.mpr ⟨low g1, low g1 ++ g2, rfl, h1.shr, DenE.cons.mpr ⟨low g1, g2, rfl, h1.shr, h2⟩⟩) (Cl.dup c.lowL) ?_ k io
  have u1 := (Sub.append.mp u).1.low
  exact Sub.append.mpr ⟨u1, Sub.append.mpr ⟨u1, (Sub.append.mp u).2⟩⟩
theorem SOk.share {i : Nat} {d : D} (x : SOk K F σ H s hs) (e : getv s i = some d) : ∃ v, σ[i]? = some (some v) ∧ SOk K F σ H (s.set i (some (shr d))) ((shr d, v) :: hs) := by
  obtain ⟨v, hv, y⟩ := x.move e
  have z := y.dup.back hv
  rw [List.set_set] at z
  exact ⟨v, hv, z⟩
/-- a slot read that holds nothing -/
theorem SOk.lend {i : Nat} {d : D} (x : SOk K F σ H s hs) (e : getv s i = some d) (n : noL d = true) : ∃ v, σ[i]? = some (some v) ∧ SOk K F σ H s ((d, v) :: hs) := by
  obtain ⟨v, g, hv, h⟩ := x.peek e
  have := Den.nol n h
  subst this
  exact ⟨v, hv, x.atom h⟩
/-- a new list, a new tuple out of held values -/
theorem Ext.new {p : Addr} {o : HO} (h : H p = none) : Ext (fun _ => False) H (upd H p o) := ⟨fun b ob e _ => by rw [upd_ne (ne_of_none e h)]; exact e, fun _ z => z.elim⟩
theorem Kept.new {p : Addr} {o : HO} (h : H p = none) (k : Kept F H) : Kept F (upd H p o) := fun b ob e n => by
  have q := k b ob e n
  rw [upd_ne (ne_of_none q h)]; exact q
theorem Kept.free (k : Kept F H) {p : Addr} (h : H p = none) : F.H0 p = none ∨ (p, true) ∈ F.G0 := by
  cases e : F.H0 p with
  | none => exact .inl rfl
  | some o =>
    by_cases z : (p, true) ∈ F.G0
    · exact .inr z
    · rw [k p o e z] at h; cases h
theorem SOk.newL {ds : List D} {vs : List V} {p : Addr} (x : SOk K F σ H s (ds.zip vs ++ hs)) (l : vs.length = ds.length) (h : H p = none) : SOk K F σ (upd H p (.lst vs)) s ((.lst true ds, .ref p) :: hs) := by
  obtain ⟨⟨E, g, li, dd, c, u⟩, k, io⟩ := x
  rw [List.append_assoc] at dd
  obtain ⟨g1, g2, e, h1, h2⟩ := DenE.append.mp dd
  subst e
  have x1 : Ext (fun _ => False) H (upd H p (.lst vs)) := Ext.new h
  have h1' := (DenE.unzip l h1).ext x1 fun _ _ z => z
  have h2' := DenE.ext x1 h2 fun _ _ z => z
  have dom : ∀ q ∈ g1 ++ g2, q.1 ≠ p := fun q hq z => by
    obtain ⟨xs, e⟩ := DenE.dom dd q hq
    rw [z, h] at e; cases e
  refine .mk' li (DenE.cons.mpr ⟨(p, true) :: g1, g2, rfl, ⟨p, vs, g1, rfl, upd_same, rfl, h1'⟩, h2'⟩) (Cl.cons.mpr ⟨fun q hq z => absurd z.symm (dom q hq), c⟩) (fun q hq => ?_) (k.new h) io
  rcases List.mem_cons.mp hq with rfl | hq
  · rcases k.free h with z | z
    · exact .inl z
    · exact .inr ⟨true, z, fun _ => rfl⟩
  · exact u q hq
theorem SOk.newT {ds : List D} {vs : List V} {p : Addr} (x : SOk K F σ H s (ds.zip vs ++ hs)) (l : vs.length = ds.length) (h : H p = none) : SOk K F σ (upd H p (.tup vs)) s ((.tup ds, .ref p) :: hs) := by
  obtain ⟨⟨E, g, li, dd, c, u⟩, k, io⟩ := x
  rw [List.append_assoc] at dd
  obtain ⟨g1, g2, e, h1, h2⟩ := DenE.append.mp dd
  subst e
  have x1 : Ext (fun _ => False) H (upd H p (.tup vs)) := Ext.new h
  have h1' := (DenE.unzip l h1).ext x1 fun _ _ z => z
  have h2' := DenE.ext x1 h2 fun _ _ z => z
  exact .mk' li (DenE.cons.mpr ⟨g1, g2, rfl, ⟨p, vs, rfl, SqT.of upd_same, h1'⟩, h2'⟩) c u (k.new h) io
/-- a held sequence opened: its items held -/
theorem SOk.openD {ds : List D} {v : V} {o : Bool} (x : SOk K F σ H s ((.lst o ds, v) :: hs)) : ∃ a xs, v = .ref a ∧ H a = some (.lst xs) ∧ xs.length = ds.length ∧ SOk K F σ H s (ds.zip xs ++ hs) := by
  obtain ⟨⟨E, g, l, dd, c, u⟩, k, io⟩ := x
  obtain ⟨g1, g2, e, ⟨a, xs, g', ev, ha, eg, h1⟩, h2⟩ := DenE.cons.mp dd
  subst e
  refine ⟨a, xs, ev, ha, h1.length, .mk' (g := g' ++ g2) l ?_ (c.sub (by rw [eg]; exact .cons _ (.refl _))) (u.sublist (by rw [eg]; exact .cons _ (.refl _))) k io⟩
  rw [List.append_assoc]
  exact DenE.append.mpr ⟨g', g2, rfl, DenE.zip h1, h2⟩
theorem SOk.openT {ds : List D} {v : V} (x : SOk K F σ H s ((.tup ds, v) :: hs)) : ∃ a xs, v = .ref a ∧ SqT K H a xs ∧ xs.length = ds.length ∧ SOk K F σ H s (ds.zip xs ++ hs) := by
  obtain ⟨⟨E, g, l, dd, c, u⟩, k, io⟩ := x
  obtain ⟨g1, g2, e, ⟨a, xs, ev, ha, h1⟩, h2⟩ := DenE.cons.mp dd
  subst e
  refine ⟨a, xs, ev, ha, h1.length, .mk' (g := g1 ++ g2) l ?_ c u k io⟩
  rw [List.append_assoc]
  exact DenE.append.mpr ⟨g1, g2, rfl, DenE.zip h1, h2⟩
theorem SOk.item {ds : List D} {xs : List V} {i : Nat} {d : D} (x : SOk K F σ H s (ds.zip xs ++ hs)) (l : xs.length = ds.length) (e : ds[i]? = some d) : ∃ v, xs[i]? = some v ∧ SOk K F σ H s ((d, v) :: hs) := by
  obtain ⟨hi, e2⟩ := List.getElem?_eq_some_iff.mp e
  have hx : i < xs.length := by omega
  refine ⟨xs[i], List.getElem?_eq_getElem hx, x.held (.refl _) ?_⟩
  have : (ds.zip xs)[i]? = some (d, xs[i]) := by
    rw [List.getElem?_zip_eq_some]
    exact ⟨e, List.getElem?_eq_getElem hx⟩
  have s1 : List.Sublist [(d, xs[i])] (ds.zip xs) := by
    rw [List.singleton_sublist]
    exact List.mem_of_getElem? this
  exact s1.append (.refl _)
/-- a list that a slot alone holds is changed: its new items are held -/
theorem SOk.write {i : Nat} {ds ds' : List D} {ys : List V} {a : Addr} {xs : List V} {E2 : En} (x : SOk K F σ H s hs) (e : getv s i = some (.lst true ds)) (hσ : σ[i]? = some (some (.ref a))) (hH : H a = some (.lst xs))
    (l : ys.length = ds'.length) (p : (ds.zip xs ++ hs).Perm (ds'.zip ys ++ E2)) : SOk K F σ (upd H a (.lst ys)) (s.set i (some (.lst true ds'))) E2 := by
  obtain ⟨v, hv, y⟩ := x.move e
  rw [hσ] at hv
  cases hv
  obtain ⟨⟨E, g, li, dd, c, u⟩, k, io⟩ := y
  obtain ⟨g1, g2, eg0, ⟨a', xs', g', ev, ha, eg, h1⟩, h2⟩ := DenE.cons.mp dd
  cases ev
  rw [hH] at ha
  cases ha
  subst eg0
  subst eg
  -- the items and the rest
  have d0 : DenE K H ((ds.zip xs ++ hs) ++ E) (g' ++ g2) := by
    rw [List.append_assoc]
    exact DenE.append.mpr ⟨g', g2, rfl, DenE.zip h1, h2⟩
  obtain ⟨gp, d1, p1⟩ := DenE.perm (p.append_right E) d0
  have c0 : Cl (g' ++ g2) := (Cl.cons.mp c).2
  have na : ∀ q ∈ gp, q.1 ≠ a := fun q hq z => by
    have := (Cl.cons.mp c).1 q (p1.mem_iff.mpr hq) z.symm
    exact Bool.noConfusion this.1
  rw [List.append_assoc] at d1
  obtain ⟨k1, k2, ek, q1, q2⟩ := DenE.append.mp d1
  subst ek
  have x1 : Ext (fun b => b = a) H (upd H a (.lst ys)) := ⟨fun b o e n => by rw [upd_ne n]; exact e, fun b z => ⟨xs, by rw [z]; exact hH⟩⟩
  have r1 := (DenE.unzip l q1).ext x1 fun q hq => na q (List.mem_append_left _ hq)
  have r2 := DenE.ext x1 q2 fun q hq => na q (List.mem_append_right _ hq)
  have ua : F.H0 a = none ∨ ∃ b, (a, b) ∈ F.G0 ∧ (true = true → b = true) := u (a, true) (by simp)
  have y2 : SOk K F σ (upd H a (.lst ys)) (s.set i none) ((.lst true ds', .ref a) :: E2) := by
    refine .mk' li (DenE.cons.mpr ⟨(a, true) :: k1, k2, rfl, ⟨a, ys, k1, rfl, upd_same, rfl, r1⟩, r2⟩) (Cl.cons.mpr ⟨fun q hq z => absurd z.symm (na q hq), c0.perm p1⟩) (fun q hq => ?_) (fun b o eb n => ?_) io
    · rcases List.mem_cons.mp hq with rfl | hq
      · exact ua
      · exact u q (List.mem_cons_of_mem _ (p1.mem_iff.mpr hq))
    · have kb := k b o eb n
      by_cases hb : b = a
      · subst hb
        rcases ua with z | ⟨b', z, zz⟩
        · rw [z] at eb; cases eb
        · rw [zz rfl] at z
          exact absurd z n
      · rw [upd_ne hb]; exact kb
  have z := y2.back hσ
  rw [List.set_set] at z
  exact z
/-- behind new objects -/
theorem SOk.extN {o : HO} {p : Addr} (x : SOk K F σ H s hs) (h : H p = none) : SOk K F σ (upd H p o) s hs := by
  obtain ⟨⟨E, g, l, dd, c, u⟩, k, io⟩ := x
  exact .mk' l (DenE.ext (Ext.new h) dd fun _ _ z => z) c u (k.new h) io
end
end MP
set_option linter.all false
set_option maxRecDepth 100000
set_option maxHeartbeats 4000000
/-! MiniPy: the operations on values, over the layer's rules. -/
namespace MP
open PySem PySem.Spec PyProof.Rows L2

def pyOp : Op → Operator
  | .add => .Add | .sub => .Sub | .mul => .Mult | .fdiv => .FloorDiv | .mod => .Mod | .pow => .Pow
def pyCm : Cm → CmpOp
  | .eq => .Eq | .ne => .NotEq | .lt => .Lt | .le => .LtE | .gt => .Gt | .ge => .GtE | .isn => .Is | .notn => .IsNot | .isin => .In | .notin => .NotIn

/-- what is wanted of a value that a state holds -/
def OutV (K : PySem.W.Frag) (F : Fr) (σ : L2.St) (s : Env) (hs : En) (Q : VK) : Option D → Prop
  | none => False
  | some d => ∀ v H', SOk K F σ H' s ((d, v) :: hs) → Q v H'

section
variable {K : PySem.W.Frag} {H H' : Hp} {F : Fr} {σ : L2.St} {s : Env} {hs : En} {X : Cx}
theorem Den.intI {i : Int} {v : V} {g : G} (h : Den K H (.int i) v g) : v = .int i := h.1
theorem SOk.int {i : Int} {v : V} (x : SOk K F σ H s ((.int i, v) :: hs)) : v = .int i := by
  obtain ⟨g, h⟩ := x.den
  exact h.1
theorem SOk.str {i : Str} {v : V} (x : SOk K F σ H s ((.str i, v) :: hs)) : v = .str i := by
  obtain ⟨g, h⟩ := x.den
  exact h.1
theorem SOk.bl {i : Bool} {v : V} (x : SOk K F σ H s ((.bl i, v) :: hs)) : v = .bl i := by
  obtain ⟨g, h⟩ := x.den
  exact h.1
theorem den_int (i : Int) : Den K H (.int i) (.int i) [] := ⟨rfl, rfl⟩
theorem den_bl (i : Bool) : Den K H (.bl i) (.bl i) [] := ⟨rfl, rfl⟩
theorem den_str (i : Str) : Den K H (.str i) (.str i) [] := ⟨rfl, rfl⟩
theorem den_non : Den K H .non .non [] := ⟨rfl, rfl⟩

theorem log2_pow {i : Int} {j : Int} (h0 : 0 ≤ j) (h1 : j ≤ 1000) (h2 : i.natAbs.log2 < 10000) : (Builtin.Int.intBits i : Int) * j ≤ 2 ^ 27 := by
  have b : Builtin.Int.intBits i ≤ 10000 := by
    unfold Builtin.Int.intBits
    split <;> omega
  have : (Builtin.Int.intBits i : Int) * j ≤ 10000 * 1000 := Int.mul_le_mul (by omega) h1 h0 (by omega)
  omega
theorem op_powW : OpR X (binaryOp .Pow) (rI (fun i j => powOk i j = true) fun i j => .int (i ^ j.toNat)) := opI fun i j _ _ _ _ _ hc q => by
  unfold powOk at hc
  simp only [Bool.and_eq_true, decide_eq_true_eq] at hc
  exact pow_int hc.1.1 (log2_pow hc.1.1 hc.1.2 hc.2) q
theorem op_modW : OpR X (binaryOp .Mod) (rI (fun _ j => 0 < j) fun i j => .int (i % j)) := op_mod

theorem zip_append_drop {ds : List D} {xs : List V} : True := trivial
theorem noLs_mem : ∀ {ds : List D}, noLs ds = true → ∀ d ∈ ds, noL d = true
  | [], _, _, h => by cases h
  | d :: ds, hn, e, h => by
    simp only [noLs, Bool.and_eq_true] at hn
    rcases List.mem_cons.mp h with rfl | h
    · exact hn.1
    · exact noLs_mem hn.2 e h
theorem noLs_of : ∀ {ds : List D}, (∀ d ∈ ds, noL d = true) → noLs ds = true
  | [], _ => rfl
  | d :: ds, h => by
    simp only [noLs, Bool.and_eq_true]
    exact ⟨h d List.mem_cons_self, noLs_of fun e he => h e (List.mem_cons_of_mem _ he)⟩
theorem DenL.of_nol : ∀ {ds : List D} {xs : List V}, xs.length = ds.length → (∀ (i : Nat) d v, ds[i]? = some d → xs[i]? = some v → Den K H d v []) → DenL K H ds xs []
  | [], [], _, _ => ⟨rfl, rfl⟩
  | [], _ :: _, h, _ => by simp at h
  | _ :: _, [], h, _ => by simp at h
  | d :: ds, x :: xs, h, q => ⟨x, xs, [], [], rfl, rfl, q 0 d x rfl rfl, DenL.of_nol (by simpa using h) fun i e v h1 h2 => q (i + 1) e v (by simpa using h1) (by simpa using h2)⟩
theorem DenL.at_nol {ds : List D} {xs : List V} {g : G} (n : noLs ds = true) (h : DenL K H ds xs g) {i : Nat} {d : D} {v : V} (e1 : ds[i]? = some d) (e2 : xs[i]? = some v) : Den K H d v [] := by
  obtain ⟨x, g1, gi, g2, e3, _, hd, _, _⟩ := h.get e1
  rw [e2] at e3
  cases e3
  have := Den.nol (noLs_mem n d (List.mem_of_getElem? e1)) hd
  rw [this] at hd
  exact hd
theorem DenL.rep {ds : List D} {xs : List V} (h : DenL K H ds xs []) : ∀ k : Nat, DenL K H (List.replicate k ds).flatten (List.replicate k xs).flatten []
  | 0 => ⟨rfl, rfl⟩
  | k + 1 => by
    rw [List.replicate_succ, List.replicate_succ, List.flatten_cons, List.flatten_cons]
    exact DenL.append (g := []) (h := []) h (DenL.rep h k)

/-- a value held beside others that hold nothing of it: a new list of flat items -/
theorem SOk.newFlat {ds : List D} {vs : List V} {p : Addr} (x : SOk K F σ H s hs) (h : H p = none) (d : DenL K H ds vs []) : SOk K F σ (upd H p (.lst vs)) s ((.lst true ds, .ref p) :: hs) := by
  refine SOk.newL (hs := hs) ?_ d.length h
  obtain ⟨⟨E, g, l, dd, c, u⟩, k, i⟩ := x
  refine .mk' (g := g) l ?_ c u k i
  rw [List.append_assoc]
  exact DenE.append.mpr ⟨[], g, rfl, DenE.zip d, dd⟩
theorem lenOk_le {n : Nat} (h : lenOk n = true) : n ≤ sizeLine := of_decide_eq_true h
theorem SOk.zip2 {ds es : List D} {xs ys : List V} (l : xs.length = ds.length) (x : SOk K F σ H s (ds.zip xs ++ (es.zip ys ++ hs))) : SOk K F σ H s ((ds ++ es).zip (xs ++ ys) ++ hs) := by
  rw [List.zip_append l.symm, List.append_assoc]
  exact x

theorem opr_bop (op : Op) : OpR X (binaryOp (pyOp op)) (fun x y H Q => ∃ F σ s hs dx dy, SOk X.K F σ H s ((dy, y) :: (dx, x) :: hs) ∧ OutV X.K F σ s hs Q (bop op dx dy)) := by
  intro pins st σ0 H x y v u Q I rx ry ⟨F, σ, s, hs, dx, dy, so, out⟩
  have base : SOk X.K F σ H s hs := so.drop.drop
  cases dx with
  | int a =>
    have ex : x = .int a := so.swap.int
    subst ex
    cases dy with
    | int b =>
      have ey : y = .int b := so.int
      subst ey
      cases op with
      | add => exact op_add pins st σ0 H _ _ v u Q I rx ry ⟨a, b, rfl, rfl, out _ _ (base.atom (den_int _))⟩
      | sub => exact op_sub pins st σ0 H _ _ v u Q I rx ry ⟨a, b, rfl, rfl, out _ _ (base.atom (den_int _))⟩
      | mul =>
        simp only [bop] at out
        by_cases hm : mulOk a b = true
        · rw [if_pos hm] at out
          exact op_mulW pins st σ0 H _ _ v u Q I rx ry ⟨a, b, rfl, rfl, (show a.natAbs.log2 + b.natAbs.log2 < 1000000 from of_decide_eq_true hm), out _ _ (base.atom (den_int _))⟩
        · rw [if_neg hm] at out; exact out.elim
      | fdiv =>
        simp only [bop] at out
        by_cases hm : divOk b = true
        · rw [if_pos hm] at out
          have hm2 : 0 < b ∧ b.natAbs.log2 < 9000 := by
            unfold divOk at hm
            simpa using hm
          exact op_fdivW pins st σ0 H _ _ v u Q I rx ry ⟨a, b, rfl, rfl, hm2, out _ _ (base.atom (den_int _))⟩
        · rw [if_neg hm] at out; exact out.elim
      | mod =>
        simp only [bop] at out
        by_cases hm : decide (0 < b) = true
        · rw [if_pos hm] at out
          exact op_mod pins st σ0 H _ _ v u Q I rx ry ⟨a, b, rfl, rfl, of_decide_eq_true hm, out _ _ (base.atom (den_int _))⟩
        · rw [if_neg hm] at out; exact out.elim
      | pow =>
        simp only [bop] at out
        by_cases hm : powOk a b = true
        · rw [if_pos hm] at out
          exact op_powW pins st σ0 H _ _ v u Q I rx ry ⟨a, b, rfl, rfl, hm, out _ _ (base.atom (den_int _))⟩
        · rw [if_neg hm] at out; exact out.elim
    | _ => cases op <;> exact (show False from out).elim
  | str a =>
    have ex : x = .str a := so.swap.str
    subst ex
    cases dy with
    | str b =>
      have ey : y = .str b := so.str
      subst ey
      cases op with
      | add =>
        simp only [bop] at out
        by_cases hm : lenOk (a.length + b.length) = true
        · rw [if_pos hm] at out
          exact op_add_str pins st σ0 H _ _ v u Q I rx ry ⟨a, b, rfl, rfl, lenOk_le hm, out _ _ (base.atom (den_str _))⟩
        · rw [if_neg hm] at out; exact out.elim
      | _ => exact (show False from out).elim
    | _ => cases op <;> exact (show False from out).elim
  | lst o ds =>
    cases dy with
    | lst o2 es =>
      cases op with
      | add =>
        simp only [bop] at out
        by_cases hm : lenOk (ds.length + es.length) = true
        · rw [if_pos hm] at out
          obtain ⟨b, ys, ey, hb, l2, so1⟩ := so.openD
          have so2 : SOk X.K F σ H s ((.lst o ds, x) :: (es.zip ys ++ hs)) := so1.held List.perm_middle (.refl _)
          obtain ⟨a, xs, ex, ha, l1, so3⟩ := so2.openD
          subst ex ey
          refine op_cat pins st σ0 H _ _ v u Q I rx ry ⟨a, b, xs, ys, rfl, rfl, ha, hb, by rw [l1, l2]; exact lenOk_le hm, fun p hp => out _ _ (SOk.newL (so3.zip2 l1) (by rw [List.length_append, List.length_append, l1, l2]) hp)⟩
        · rw [if_neg hm] at out; exact out.elim
      | _ => exact (show False from out).elim
    | int k =>
      have ey : y = .int k := so.int
      subst ey
      cases op with
      | mul =>
        simp only [bop] at out
        by_cases hm : (noLs ds && (decide (0 ≤ k) && decide (k < 2 ^ 62)) && lenOk (ds.length * k.toNat)) = true
        · rw [if_pos hm] at out
          simp only [Bool.and_eq_true, decide_eq_true_eq] at hm
          obtain ⟨a, xs, ex, ha, l1, so3⟩ := so.drop.openD
          subst ex
          obtain ⟨g, hg⟩ := so.drop.den
          obtain ⟨a', xs', g', ea, ha', _, hd⟩ := hg
          cases ea
          rw [ha] at ha'
          cases ha'
          have hd0 : DenL X.K H ds xs [] := by
            have := DenL.nol hm.1.1 hd
            rw [this] at hd
            exact hd
          refine op_rep pins st σ0 H _ _ v u Q I rx ry ⟨a, k, xs, rfl, rfl, ha, by omega, by omega, by rw [l1]; exact lenOk_le hm.2, fun p hp => out _ _ (base.newFlat hp (hd0.rep _))⟩
        · rw [if_neg hm] at out; exact out.elim
      | _ => exact (show False from out).elim
    | _ => cases op <;> exact (show False from out).elim
  | tup ds =>
    cases dy with
    | tup es =>
      cases op with
      | add =>
        simp only [bop] at out
        by_cases hm : (lenOk (ds.length + es.length) && !ds.isEmpty && !es.isEmpty) = true
        · rw [if_pos hm] at out
          simp only [Bool.and_eq_true] at hm
          obtain ⟨b, ys, ey, hb, l2, so1⟩ := so.openT
          have so2 : SOk X.K F σ H s ((.tup ds, x) :: (es.zip ys ++ hs)) := so1.held List.perm_middle (.refl _)
          obtain ⟨a, xs, ex, ha, l1, so3⟩ := so2.openT
          subst ex ey
          have nx : xs ≠ [] := fun z => by
            subst z
            cases ds with
            | nil => simp at hm
            | cons _ _ => simp at l1
          have ny : ys ≠ [] := fun z => by
            subst z
            cases es with
            | nil => simp at hm
            | cons _ _ => simp at l2
          refine op_catT pins st σ0 H _ _ v u Q I rx ry ⟨a, b, xs, ys, rfl, rfl, ha, hb, nx, by rw [l1, l2]; exact lenOk_le hm.1.1, fun z => absurd z ny, fun _ p hp => out _ _ (SOk.newT (so3.zip2 l1) (by rw [List.length_append, List.length_append, l1, l2]) hp)⟩
        · rw [if_neg hm] at out; exact out.elim
      | _ => exact (show False from out).elim
    | _ => cases op <;> exact (show False from out).elim
  | _ => cases op <;> cases dy <;> exact (show False from out).elim

/-! ### comparisons -/
mutual
theorem Den.dp : ∀ {d : D} {v : V} {g : G}, pln d = true → Den K H d v g → Dp K H v (pd d)
  | .non, _, _, _, ⟨h, _⟩ => by subst h; exact .non
  | .bl _, _, _, _, ⟨h, _⟩ => by subst h; exact .bl _
  | .int _, _, _, _, ⟨h, _⟩ => by subst h; exact .int _
  | .str _, _, _, _, ⟨h, _⟩ => by subst h; exact .str _
  | .lst _ ds, _, _, p, ⟨a, xs, g', ev, e, _, q⟩ => by subst ev; exact .lst (SqL.of e) (DenL.dp (by simpa [pln] using p) q)
  | .tup ds, _, _, p, ⟨a, xs, ev, e, q⟩ => by subst ev; exact .tup e (DenL.dp (by simpa [pln] using p) q)
  | .exc _, _, _, p, _ => by simp [pln] at p
  | .scr _, _, _, p, _ => by simp [pln] at p
theorem DenL.dp : ∀ {ds : List D} {xs : List V} {g : G}, plns ds = true → DenL K H ds xs g → DpAll K H xs (pds ds)
  | [], _, _, _, ⟨h, _⟩ => by subst h; exact .nil
  | d :: ds, _, _, p, ⟨y, xs', g1, g2, e1, _, h1, h2⟩ => by
    subst e1
    simp only [plns, Bool.and_eq_true] at p
    exact .cons (Den.dp p.1 h1) (DenL.dp p.2 h2)
end
/-- the two values of a comparison, as they lie -/
def rCm (K : PySem.W.Frag) (o : Cm) : R2 := fun x y H Q => ∃ dx dy gx gy c, Den K H dx x gx ∧ Den K H dy y gy ∧ cmpD o dx dy = some c ∧ Q (.bl c) H
theorem isNon_iff {d : D} {v : V} {g : G} (h : Den K H d v g) : isNon d = decide (v = .non) := by
  cases d with
  | non => rw [h.1]; rfl
  | bl _ => rw [h.1]; rfl
  | int _ => rw [h.1]; rfl
  | str _ => rw [h.1]; rfl
  | lst _ _ => obtain ⟨a, _, _, e, _⟩ := h; rw [e]; rfl
  | tup _ => obtain ⟨a, _, e, _⟩ := h; rw [e]; rfl
  | exc _ => exact h.elim
  | scr _ => obtain ⟨a, e, _⟩ := h; rw [e]; rfl
theorem opr_cmp (hu : X.A.units + 64 < cLine) (o : Cm) : OpR X (compareOp (pyCm o)) (rCm X.K o) := by
  intro pins st σ0 H x y v u Q I rx ry ⟨dx, dy, gx, gy, c, hx, hy, e, q⟩
  cases o with
  | eq =>
    simp only [cmpD] at e
    split at e
    · rename_i hs
      simp only [Bool.and_eq_true, shaped] at hs
      cases e
      exact op_eqD hu pins st σ0 H _ _ v u Q I rx ry ⟨_, _, hx.dp hs.1.1, hy.dp hs.2.1, hs.1.2, hs.2.2, q⟩
    · cases e
  | ne =>
    simp only [cmpD] at e
    split at e
    · rename_i hs
      simp only [Bool.and_eq_true, shaped] at hs
      cases e
      exact op_neD hu pins st σ0 H _ _ v u Q I rx ry ⟨_, _, hx.dp hs.1.1, hy.dp hs.2.1, hs.1.2, hs.2.2, q⟩
    · cases e
  | isn =>
    simp only [cmpD] at e
    split at e
    · rename_i hs
      cases e
      rw [isNon_iff hy] at hs
      rw [isNon_iff hx] at q
      exact op_isN pins st σ0 H _ _ v u Q I rx ry ⟨of_decide_eq_true hs, q⟩
    · cases e
  | notn =>
    simp only [cmpD] at e
    split at e
    · rename_i hs
      cases e
      rw [isNon_iff hy] at hs
      rw [isNon_iff hx] at q
      exact op_notN pins st σ0 H _ _ v u Q I rx ry ⟨of_decide_eq_true hs, q⟩
    · cases e
  | isin => cases dx <;> cases dy <;> cases e
  | notin => cases dx <;> cases dy <;> cases e
  | lt =>
    cases dx with
    | int a => cases dy with
      | int b => cases e; rw [hx.1] at rx; rw [hy.1] at ry; exact op_lt pins st σ0 H _ _ v u Q I rx ry ⟨a, b, rfl, rfl, q⟩
      | _ => cases e
    | _ => cases dy <;> cases e
  | le =>
    cases dx with
    | int a => cases dy with
      | int b => cases e; rw [hx.1] at rx; rw [hy.1] at ry; exact op_le pins st σ0 H _ _ v u Q I rx ry ⟨a, b, rfl, rfl, q⟩
      | _ => cases e
    | _ => cases dy <;> cases e
  | gt =>
    cases dx with
    | int a => cases dy with
      | int b => cases e; rw [hx.1] at rx; rw [hy.1] at ry; exact op_gt pins st σ0 H _ _ v u Q I rx ry ⟨a, b, rfl, rfl, q⟩
      | _ => cases e
    | _ => cases dy <;> cases e
  | ge =>
    cases dx with
    | int a => cases dy with
      | int b => cases e; rw [hx.1] at rx; rw [hy.1] at ry; exact op_ge pins st σ0 H _ _ v u Q I rx ry ⟨a, b, rfl, rfl, q⟩
      | _ => cases e
    | _ => cases dy <;> cases e
theorem cm_mark (o : Cm) (b : Expr) (h : o ≠ .isin ∧ o ≠ .notin) : behindInMarks (pyCm o) b = false := by
  cases o <;> first | exact nomark b | exact absurd rfl h.1 | exact absurd rfl h.2
end
end MP
set_option linter.all false
set_option maxRecDepth 100000
set_option maxHeartbeats 4000000
/-! MiniPy: expressions, rule by rule. -/
namespace MP
open PySem PySem.Spec PyProof.Rows L2

/-- what is wanted of an outcome -/
def Out {α : Type} (K : PySem.W.Frag) (F : Fr) (W : WX) (σ : L2.St) (P : α → Env → Prop) : R α → Prop
  | .ok a s => P a s
  | .exc c s => ∀ H', SOk K F σ H' s [] → W (.ref (He.ga K c)) none σ H'
  | .stk => False
def OutE (K : PySem.W.Frag) (F : Fr) (W : WX) (σ : L2.St) (hs : En) (Q : VK) : R D → Prop := Out K F W σ fun d s => ∀ v H', SOk K F σ H' s ((d, v) :: hs) → Q v H'
def OutB (K : PySem.W.Frag) (F : Fr) (W : WX) (σ : L2.St) (hs : En) (Q : Bool → Hp → Prop) : R Bool → Prop := Out K F W σ fun b s => ∀ H', SOk K F σ H' s hs → Q b H'
def OutL (K : PySem.W.Frag) (F : Fr) (W : WX) (σ : L2.St) (hs : En) (Q : List V → Hp → Prop) : R (List D) → Prop :=
  Out K F W σ fun ds s => ∀ vs H', vs.length = ds.length → SOk K F σ H' s ((ds.zip vs).reverse ++ hs) → Q vs H'
/-- an expression's, a test's reading by the interpreter -/
def tX (K : PySem.W.Frag) (F : Fr) (W : WX) (f : Env → R D) : TE := fun σ H Q => ∃ s hs, SOk K F σ H s hs ∧ OutE K F W σ hs Q (f s)
def tY (K : PySem.W.Frag) (F : Fr) (W : WX) (f : Env → R Bool) : TT := fun σ H Q => ∃ s hs, SOk K F σ H s hs ∧ OutB K F W σ hs Q (f s)
/-- reading alone -/
def tPk (K : PySem.W.Frag) (F : Fr) (f : Env → Option D) : TE := fun σ H Q => ∃ s hs d, SOk K F σ H s hs ∧ f s = some d ∧ ∀ v g, Den K H d v g → Q v H

section
variable {K : PySem.W.Frag} {F : Fr} {W : WX} {σ : L2.St} {s : Env} {hs : En} {X : Cx} {H : Hp}
theorem Out.step {α β : Type} {P : β → Env → Prop} {P' : α → Env → Prop} {r : R α} {k : α → Env → R β} (h : Out K F W σ P (r.bind k)) (hk : ∀ a s1, r = .ok a s1 → Out K F W σ P (k a s1) → P' a s1) : Out K F W σ P' r := by
  cases r with
  | ok a s1 => exact hk a s1 rfl h
  | exc c s1 => exact h
  | stk => exact h
theorem Out.of {P : D → Env → Prop} {o : Option D} {s : Env} (h : Out K F W σ P (R.of o s)) : ∃ d, o = some d ∧ P d s := by
  cases o with
  | none => exact (show False from h).elim
  | some d => exact ⟨d, rfl, h⟩
theorem PE.imp {e : Expr} {t t' : TE} (h : PE X e t) (i : ∀ σ H Q, t' σ H Q → t σ H Q) : PE X e t' := ⟨fun pins s σ H Q I q => h.run pins s σ H Q I (i σ H Q q)⟩
theorem PT.imp {e : Expr} {t t' : TT} (h : PT X e t) (i : ∀ σ H Q, t' σ H Q → t σ H Q) : PT X e t' := ⟨fun pins s σ H Q I q => h.run pins s σ H Q I (i σ H Q q)⟩
theorem PW.imp {e : Expr} {t t' : TT} (h : PW X e t) (i : ∀ σ H Q, t' σ H Q → t σ H Q) : PW X e t' := ⟨fun w pins s σ H Q I q => h.run w pins s σ H Q I (i σ H Q q)⟩
theorem PA.imp {es : List Expr} {t t' : TA} (h : PA X es t) (i : ∀ σ H Q, t' σ H Q → t σ H Q) : PA X es t' := ⟨fun p pins s σ H Q I q => h.run p pins s σ H Q I (i σ H Q q)⟩
theorem PS.imp {e : Stmt} {t t' : TS} (h : PS X e t) (i : ∀ D σ H, t' D σ H → t D σ H) : PS X e t' := ⟨fun pins s σ H D I q => h.run pins s σ H D I (i D σ H q)⟩
theorem PSs.imp {e : List Stmt} {t t' : TS} (h : PSs X e t) (i : ∀ D σ H, t' D σ H → t D σ H) : PSs X e t' := ⟨fun pins s σ H D I q => h.run pins s σ H D I (i D σ H q)⟩

/-! ### names and constants -/
theorem px_v {i : Nat} {x : Str} {pos : Pos} {mv : Bool} (h : PE X (.Name x pos) (tVar i)) : PE X (.Name x pos) (tX K F W (fV i mv)) := by
  refine PE.imp h fun σ H Q ⟨s, hs, so, out⟩ => ?_
  unfold fV at out
  cases e : getv s i with
  | none => rw [e] at out; exact (show False from out).elim
  | some d =>
    rw [e] at out
    dsimp only at out
    cases mv with
    | true =>
      rw [if_pos rfl] at out
      obtain ⟨v, hv, so'⟩ := so.move e
      exact ⟨v, hv, out v H so'⟩
    | false =>
      rw [if_neg Bool.false_ne_true] at out
      by_cases n : noL d = true
      · rw [if_pos n] at out
        obtain ⟨v, hv, so'⟩ := so.lend e n
        exact ⟨v, hv, out v H so'⟩
      · rw [if_neg n] at out
        obtain ⟨v, hv, so'⟩ := so.share e
        exact ⟨v, hv, out v H so'⟩
theorem pp_v {i : Nat} {x : Str} {pos : Pos} (h : PE X (.Name x pos) (tVar i)) : PE X (.Name x pos) (tPk K F fun s => getv s i) := by
  refine PE.imp h fun σ H Q ⟨s, hs, d, so, e, q⟩ => ?_
  obtain ⟨v, g, hv, hd⟩ := so.peek e
  exact ⟨v, hv, q v g hd⟩
theorem px_k {e : Expr} {d : D} {v : V} (h : PE X e (tC v)) (hd : ∀ H, Den K H d v []) : PE X e (tX K F W (fK d)) := by
  refine PE.imp h fun σ H Q ⟨s, hs, so, out⟩ => ?_
  unfold fK at out
  split at out
  · exact out v H (so.atom (hd H))
  · exact (show False from out).elim
theorem pp_k {e : Expr} {d : D} {v : V} (h : PE X e (tC v)) (hd : ∀ H, Den K H d v []) : PE X e (tPk K F fun _ => some d) := by
  refine PE.imp h fun σ H Q ⟨s, hs, d', so, e, q⟩ => ?_
  cases e
  exact q v [] (hd H)

/-! ### reckoning -/
variable {a b c : Expr} {f g h : Env → R D} {pos : Pos}
theorem px_bin {op : Op} (hK : X.K = K) (ha : PE X a (tX K F W f)) (hb : PE X b (tX K F W g)) : PE X (.BinOp a (pyOp op) b pos) (tX K F W fun s => (f s).bind fun x s1 => (g s1).bind fun y s2 => R.of (bop op x y) s2) := by
  subst hK
  refine PE.imp (pe_op (opr_bop op) ha hb) fun σ H Q ⟨s, hs, so, out⟩ => ⟨s, hs, so, Out.step out fun d1 s1 _ out v1 H1 so1 => ⟨s1, _, so1, Out.step out fun d2 s2 _ out v2 H2 so2 => ?_⟩⟩
  obtain ⟨r, e, out⟩ := Out.of out
  refine ⟨F, σ, s2, hs, d1, d2, so2, ?_⟩
  rw [e]
  exact out
theorem px_neg (ha : PE X a (tX K F W f)) : PE X (.UnaryOp .USub a pos) (tX K F W (fNeg f)) := by
  refine PE.imp (pe_un un_neg ha) fun σ H Q ⟨s, hs, so, out⟩ => ⟨s, hs, so, Out.step out fun d s1 _ out v H1 so1 => ?_⟩
  cases d with
  | int i =>
    have := so1.int
    subst this
    exact ⟨i, rfl, out _ _ (so1.drop.atom (den_int _))⟩
  | _ => exact (show False from out).elim

/-! ### comparisons -/
/-- the comparison's value wanted as a bool -/
theorem px_cmp {o : Cm} {xa xb : MP.X} {Y : Cx} (hK : Y.K = K) (hu : Y.A.units + 64 < cLine) (ho : o ≠ .isin ∧ o ≠ .notin) (ha : PE Y a (tX K F W f)) (hb : PE Y b (tX K F W g))
    (pa : isPk xa = true → PE Y a (tPk K F (pk xa))) (pb : isPk xb = true → PE Y b (tPk K F (pk xb))) :
    PE Y (.Compare a [pyCm o] [b] pos) (tX K F W fun s => (evC o xa xb f g s).bind fun c s1 => .ok (.bl c) s1) ∧ PT Y (.Compare a [pyCm o] [b] pos) (tY K F W (evC o xa xb f g)) := by
  subst hK
  have hm := cm_mark o b ho
  by_cases hp : (isPk xa && isPk xb) = true
  · have hp' := hp
    simp only [Bool.and_eq_true] at hp'
    have h1 := pa hp'.1
    have h2 := pb hp'.2
    have ev : ∀ s, evC o xa xb f g s = match pk xa s, pk xb s with
      | some x, some y => R.of (cmpD o x y) s
      | _, _ => .stk := fun s => by unfold evC; rw [hp]; try rfl
    refine ⟨PE.imp (pe_cmpR (opr_cmp hu o) h1 h2 hm) fun σ H Q ⟨s, hs, so, out⟩ => ?_, PT.imp (pt_cmpR (opr_cmp hu o) h1 h2 hm) fun σ H Q ⟨s, hs, so, out⟩ => ?_⟩
    · dsimp only at out
      rw [ev] at out
      cases e1 : pk xa s with
      | none => rw [e1] at out; exact (show False from out).elim
      | some d1 =>
        cases e2 : pk xb s with
        | none => rw [e1, e2] at out; exact (show False from out).elim
        | some d2 =>
          rw [e1, e2] at out
          refine ⟨s, hs, d1, so, e1, fun v1 g1 hd1 => ⟨s, hs, d2, so, e2, fun v2 g2 hd2 => ?_⟩⟩
          cases e3 : cmpD o d1 d2 with
          | none => simp only [e3] at out; exact (show False from out).elim
          | some r =>
            simp only [e3] at out
            exact ⟨d1, d2, g1, g2, r, hd1, hd2, e3, out _ _ (so.atom (den_bl _))⟩
    · rw [ev] at out
      cases e1 : pk xa s with
      | none => rw [e1] at out; exact (show False from out).elim
      | some d1 =>
        cases e2 : pk xb s with
        | none => rw [e1, e2] at out; exact (show False from out).elim
        | some d2 =>
          rw [e1, e2] at out
          refine ⟨s, hs, d1, so, e1, fun v1 g1 hd1 => ⟨s, hs, d2, so, e2, fun v2 g2 hd2 => ?_⟩⟩
          cases e3 : cmpD o d1 d2 with
          | none => simp only [e3] at out; exact (show False from out).elim
          | some r =>
            simp only [e3] at out
            exact ⟨d1, d2, g1, g2, r, hd1, hd2, e3, r, rfl, out _ so⟩
  · have hp2 : (isPk xa && isPk xb) = false := by simpa using hp
    have ev : ∀ s, evC o xa xb f g s = (f s).bind fun x s1 => (g s1).bind fun y s2 => R.of (cmpD o x y) s2 := fun s => by unfold evC; rw [hp2]
    have fin : ∀ {σ : L2.St} {s2 : Env} {hs : En} {d1 d2 : D} {v1 v2 : V} {H2 : Hp} {r : Bool}, SOk Y.K F σ H2 s2 ((d2, v2) :: (d1, v1) :: hs) → cmpD o d1 d2 = some r → ∃ dx dy gx gy c, Den Y.K H2 dx v1 gx ∧ Den Y.K H2 dy v2 gy ∧ cmpD o dx dy = some c ∧ c = r := fun {σ s2 hs d1 d2 v1 v2 H2 r} so e => by
      obtain ⟨g2, h2⟩ := so.den
      obtain ⟨g1, h1⟩ := so.drop.den
      exact ⟨d1, d2, g1, g2, r, h1, h2, e, rfl⟩
    refine ⟨PE.imp (pe_cmpR (opr_cmp hu o) ha hb hm) fun σ H Q ⟨s, hs, so, out⟩ => ?_, PT.imp (pt_cmpR (opr_cmp hu o) ha hb hm) fun σ H Q ⟨s, hs, so, out⟩ => ?_⟩
    · dsimp only at out
      rw [ev] at out
      have out : Out Y.K F W σ (fun d s => ∀ v H', SOk Y.K F σ H' s ((d, v) :: hs) → Q v H') ((f s).bind fun x s1 => ((g s1).bind fun y s2 => R.of (cmpD o x y) s2).bind fun c s1 => .ok (.bl c) s1) := by
        cases hf : f s <;> rw [hf] at out <;> exact out
      refine ⟨s, hs, so, Out.step out fun d1 s1 _ out v1 H1 so1 => ⟨s1, _, so1, ?_⟩⟩
      have out : Out Y.K F W σ (fun d s => ∀ v H', SOk Y.K F σ H' s ((d, v) :: hs) → Q v H') ((g s1).bind fun y s2 => (R.of (cmpD o d1 y) s2).bind fun c s1 => .ok (.bl c) s1) := by
        cases hg : g s1 <;> rw [hg] at out <;> exact out
      refine Out.step out fun d2 s2 _ out v2 H2 so2 => ?_
      cases e3 : cmpD o d1 d2 with
      | none => rw [e3] at out; exact (show False from out).elim
      | some r =>
        rw [e3] at out
        obtain ⟨dx, dy, gx, gy, c, q1, q2, q3, rfl⟩ := fin so2 e3
        exact ⟨dx, dy, gx, gy, c, q1, q2, q3, out _ _ (so2.drop.drop.atom (den_bl _))⟩
    · rw [ev] at out
      refine ⟨s, hs, so, Out.step out fun d1 s1 _ out v1 H1 so1 => ⟨s1, _, so1, Out.step out fun d2 s2 _ out v2 H2 so2 => ?_⟩⟩
      cases e3 : cmpD o d1 d2 with
      | none => rw [e3] at out; exact (show False from out).elim
      | some r =>
        rw [e3] at out
        obtain ⟨dx, dy, gx, gy, c, q1, q2, q3, rfl⟩ := fin so2 e3
        exact ⟨dx, dy, gx, gy, c, q1, q2, q3, c, rfl, out _ so2.drop.drop⟩
theorem chn_mark (o p : Cm) (b c : Expr) (ho : p ≠ .isin ∧ p ≠ .notin) : lastMarks [pyCm o, pyCm p] [b, c] = false := by
  show behindInMarks (pyCm p) c = false
  exact cm_mark p c ho
theorem px_chn {o p : Cm} {Y : Cx} (hK : Y.K = K) (hu : Y.A.units + 64 < cLine) (hp : p ≠ .isin ∧ p ≠ .notin) (ha : PE Y a (tX K F W f)) (hb : PE Y b (tX K F W g)) (hc : PE Y c (tX K F W h)) :
    PE Y (.Compare a [pyCm o, pyCm p] [b, c] pos) (tX K F W (fChn o p f g h)) ∧ PT Y (.Compare a [pyCm o, pyCm p] [b, c] pos) (tY K F W fun s => toB (fChn o p f g h s)) := by
  subst hK
  have core : ∀ {σ : L2.St} {H : Hp} {s : Env} {hs : En} {Q : VK} {Q' : VK} , SOk Y.K F σ H s hs → OutE Y.K F W σ hs Q (fChn o p f g h s) → (∀ b H, Q (.bl b) H → Q' (.bl b) H) → tChain (rCm Y.K o) (rCm Y.K p) (tX Y.K F W f) (tX Y.K F W g) (tX Y.K F W h) σ H Q' := fun {σ H s hs Q Q'} so out hq => by
    refine ⟨s, hs, so, Out.step out fun d1 s1 _ out v1 H1 so1 => ⟨s1, _, so1, Out.step out fun d2 s2 _ out v2 H2 so2 => ?_⟩⟩
    obtain ⟨g2, h2⟩ := so2.den
    obtain ⟨g1, h1⟩ := so2.drop.den
    cases e3 : cmpD o d1 d2 with
    | none => simp only [e3] at out; exact (show False from out).elim
    | some r =>
      refine ⟨d1, d2, g1, g2, r, h1, h2, e3, r, rfl, ?_⟩
      simp only [e3] at out
      cases r with
      | false =>
        rw [if_neg Bool.false_ne_true]
        exact hq _ _ (out _ _ (so2.drop.drop.atom (den_bl _)))
      | true =>
        rw [if_pos rfl]
        refine ⟨s2, _, so2, Out.step out fun d3 s3 _ out v3 H3 so3 => ?_⟩
        obtain ⟨g3, h3⟩ := so3.den
        obtain ⟨g2', h2'⟩ := so3.drop.den
        cases e4 : cmpD p d2 d3 with
        | none => simp only [e4] at out; exact (show False from out).elim
        | some r =>
          simp only [e4] at out
          exact ⟨d2, d3, g2', g3, r, h2', h3, e4, hq _ _ (out _ _ (so3.drop.drop.drop.atom (den_bl _)))⟩
  refine ⟨PE.imp (pe_chain (opr_cmp hu o) (opr_cmp hu p) ha hb hc (chn_mark o p b c hp)) fun σ H Q ⟨s, hs, so, out⟩ => core so out fun _ _ q => q, PT.imp (pt_chain (opr_cmp hu o) (opr_cmp hu p) ha hb hc (chn_mark o p b c hp)) fun σ H Q ⟨s, hs, so, out⟩ => ?_⟩
  refine core (Q := fun v H' => ∃ k, v = .bl k ∧ Q k H') so ?_ fun _ _ q => q
  refine Out.step (P' := fun d s => ∀ v H', SOk Y.K F σ H' s ((d, v) :: hs) → ∃ k, v = .bl k ∧ Q k H') out fun d s1 _ out v H1 so1 => ?_
  cases d with
  | bl k =>
    have := so1.bl
    subst this
    exact ⟨k, rfl, out _ so1.drop⟩
  | _ => exact (show False from out).elim

/-! ### not, and, or, if -/
theorem px_not (ha : PE X a (tX K F W f)) : PE X (.UnaryOp .Not a pos) (tX K F W (fNot f)) := by
  refine PE.imp (pe_not ha) fun σ H Q ⟨s, hs, so, out⟩ => ⟨s, hs, so, Out.step out fun d s1 _ out v H1 so1 => ?_⟩
  cases d with
  | bl k =>
    have := so1.bl
    subst this
    exact ⟨k, rfl, out _ _ (so1.drop.atom (den_bl _))⟩
  | _ => exact (show False from out).elim
variable {tf tg th : Env → R Bool}
theorem py_not (ha : PT X a (tY K F W tf)) : PT X (.UnaryOp .Not a pos) (tY K F W fun s => (tf s).bind fun c s1 => .ok (!c) s1) :=
  PT.imp (pt_not ha) fun σ H Q ⟨s, hs, so, out⟩ => ⟨s, hs, so, Out.step out fun c s1 _ out H1 so1 => out H1 so1⟩
theorem px_and {rest : List Expr} (ha : PE X a (tX K F W f)) (hb : PE X (.BoolOp .And (b :: rest) pos) (tX K F W g)) : PE X (.BoolOp .And (a :: b :: rest) pos) (tX K F W (fAnd f g)) := by
  refine PE.imp (pe_and ha hb) fun σ H Q ⟨s, hs, so, out⟩ => ⟨s, hs, so, Out.step out fun d s1 _ out v H1 so1 => ?_⟩
  cases d with
  | bl k =>
    have := so1.bl
    subst this
    refine ⟨k, rfl, ?_⟩
    cases k with
    | true => rw [if_pos rfl]; exact ⟨s1, hs, so1.drop, out⟩
    | false => rw [if_neg Bool.false_ne_true]; exact out _ _ (so1.drop.atom (den_bl _))
  | _ => exact (show False from out).elim
theorem px_or {rest : List Expr} (ha : PE X a (tX K F W f)) (hb : PE X (.BoolOp .Or (b :: rest) pos) (tX K F W g)) : PE X (.BoolOp .Or (a :: b :: rest) pos) (tX K F W (fOr f g)) := by
  refine PE.imp (pe_or ha hb) fun σ H Q ⟨s, hs, so, out⟩ => ⟨s, hs, so, Out.step out fun d s1 _ out v H1 so1 => ?_⟩
  cases d with
  | bl k =>
    have := so1.bl
    subst this
    refine ⟨k, rfl, ?_⟩
    cases k with
    | true => rw [if_pos rfl]; exact out _ _ (so1.drop.atom (den_bl _))
    | false => rw [if_neg Bool.false_ne_true]; exact ⟨s1, hs, so1.drop, out⟩
  | _ => exact (show False from out).elim
theorem py_and {rest : List Expr} (ha : PT X a (tY K F W tf)) (hb : PW X (.BoolOp .And (b :: rest) pos) (tY K F W tg)) : PW X (.BoolOp .And (a :: b :: rest) pos) (tY K F W fun s => (tf s).bind fun c s1 => if c then tg s1 else .ok false s1) := by
  refine PW.imp (pw_and ha hb) fun σ H Q ⟨s, hs, so, out⟩ => ⟨s, hs, so, Out.step out fun c s1 _ out H1 so1 => ?_⟩
  cases c with
  | true => exact ⟨s1, hs, so1, out⟩
  | false => exact out H1 so1
theorem py_or {rest : List Expr} (ha : PT X a (tY K F W tf)) (hb : PW X (.BoolOp .Or (b :: rest) pos) (tY K F W tg)) : PW X (.BoolOp .Or (a :: b :: rest) pos) (tY K F W fun s => (tf s).bind fun c s1 => if c then .ok true s1 else tg s1) := by
  refine PW.imp (pw_or ha hb) fun σ H Q ⟨s, hs, so, out⟩ => ⟨s, hs, so, Out.step out fun c s1 _ out H1 so1 => ?_⟩
  cases c with
  | true => exact out H1 so1
  | false => exact ⟨s1, hs, so1, out⟩
theorem px_ife {t : Expr} (ht : PT X t (tY K F W tf)) (ha : PE X a (tX K F W f)) (hb : PE X b (tX K F W g)) : PE X (.IfExp t a b pos) (tX K F W (fIfe tf f g)) := by
  refine PE.imp (pe_ifExp ht ha hb) fun σ H Q ⟨s, hs, so, out⟩ => ⟨s, hs, so, Out.step out fun c s1 _ out H1 so1 => ?_⟩
  cases c with
  | true => rw [if_pos rfl]; exact ⟨s1, hs, so1, out⟩
  | false => rw [if_neg Bool.false_ne_true]; exact ⟨s1, hs, so1, out⟩

/-! ### rows of values -/
def tXs (K : PySem.W.Frag) (F : Fr) (W : WX) (f : Env → R (List D)) : TA := fun σ H Q => ∃ s hs, SOk K F σ H s hs ∧ OutL K F W σ hs Q (f s)
theorem pxs_nil : PA X [] (tXs K F W fun s => .ok [] s) := PA.imp pa_nil fun σ H Q ⟨s, hs, so, out⟩ => out [] H rfl so
theorem star_plain {e : Expr} {es : List Expr} {env : PySem.Env} (h : ∀ z p, e ≠ .Starred z p) : starEach (e :: es) env = (false, eval e env) :: starEach es env := by
  cases e <;> first | rfl | exact absurd rfl (h _ _)
theorem pxs_cons {e : Expr} {es : List Expr} {fs : Env → R (List D)} (hn : ∀ z p, e ≠ .Starred z p) (ha : PE X e (tX K F W f)) (hr : PA X es (tXs K F W fs)) :
    PA X (e :: es) (tXs K F W fun s => (f s).bind fun d s1 => (fs s1).bind fun ds s2 => .ok (d :: ds) s2) := by
  refine PA.imp (pa_cons ha hr (star_plain hn)) fun σ H Q ⟨s, hs, so, out⟩ => ⟨s, hs, so, Out.step out fun d s1 _ out v H1 so1 => ⟨s1, _, so1, Out.step out fun ds s2 _ out vs H2 l so2 => ?_⟩⟩
  refine out (v :: vs) H2 (by simp [l]) ?_
  rw [List.zip_cons_cons, List.reverse_cons, List.append_assoc]
  exact so2
theorem SOk.unrev {ds : List D} {vs : List V} (x : SOk K F σ H s ((ds.zip vs).reverse ++ hs)) : SOk K F σ H s (ds.zip vs ++ hs) := x.held ((List.reverse_perm _).append_right _) (.refl _)
theorem px_lst {es : List Expr} {fs : Env → R (List D)} (h : PA X es (tXs K F W fs)) : PE X (.List es pos) (tX K F W fun s => (fs s).bind fun ds s1 => if lenOk ds.length then .ok (.lst true ds) s1 else .stk) := by
  refine PE.imp (pe_lst h) fun σ H Q ⟨s, hs, so, out⟩ => ⟨s, hs, so, Out.step out fun ds s1 _ out vs H1 l so1 => ?_⟩
  by_cases hl : lenOk ds.length = true
  · rw [if_pos hl] at out
    exact ⟨by rw [l]; exact lenOk_le hl, fun p hp => out _ _ (so1.unrev.newL l hp)⟩
  · rw [if_neg hl] at out; exact (show False from out).elim
theorem px_tup {es : List Expr} {k : Nat} {fs : Env → R (List D)} (h : PA X es (tXs K F W fs)) : PE X (.Tuple es k pos) (tX K F W fun s => (fs s).bind fun ds s1 => if lenOk ds.length then .ok (.tup ds) s1 else .stk) := by
  refine PE.imp (pe_tup h) fun σ H Q ⟨s, hs, so, out⟩ => ⟨s, hs, so, Out.step out fun ds s1 _ out vs H1 l so1 => ?_⟩
  by_cases hl : lenOk ds.length = true
  · rw [if_pos hl] at out
    exact ⟨by rw [l]; exact lenOk_le hl, fun p hp => out _ _ (so1.unrev.newT l hp)⟩
  · rw [if_neg hl] at out; exact (show False from out).elim

/-! ### items -/
theorem atI_map {α β : Type} {xs : List α} {ys : List β} (l : xs.length = ys.length) {i : Int} {x : α} (h : atI xs i = some x) : ∃ j : Nat, xs[j]? = some x ∧ ∀ y, ys[j]? = some y → atI ys i = some y := by
  unfold atI at h ⊢
  cases e : ixN xs.length i with
  | none => rw [e] at h; cases h
  | some j =>
    rw [e] at h
    refine ⟨j, h, fun y hy => ?_⟩
    rw [← l, e]
    exact hy
theorem plainIx {b : Expr} (h : ∀ lo hi st p, b ≠ .Slice lo hi st p) : PlainIx b := by
  intro o i
  cases b <;> first | rfl | exact absurd rfl (h _ _ _ _)
/-- an item read off a value as it lies -/
theorem ixD_den {da db : D} {x y : V} {gx gy : G} {d : D} (hx : Den K H da x gx) (hy : Den K H db y gy) (e : ixD da db = some d) {Q : VK} (q : ∀ v g, Den K H d v g → Q v H) : rIx K x y H Q := by
  cases da with
  | lst o ds =>
    cases db with
    | int i =>
      obtain ⟨a, xs, g', ex, ha, _, hd⟩ := hx
      rw [hy.1]
      obtain ⟨j, h1, h2⟩ := atI_map hd.length.symm (show atI ds i = some d from e)
      obtain ⟨z, g1, gi, g2, h3, _, h4, _, _⟩ := hd.get h1
      exact .inl ⟨a, xs, i, z, ex, rfl, SqL.of ha, h2 z h3, q z gi h4⟩
    | _ => cases e
  | tup ds =>
    cases db with
    | int i =>
      obtain ⟨a, xs, ex, ha, hd⟩ := hx
      rw [hy.1]
      obtain ⟨j, h1, h2⟩ := atI_map hd.length.symm (show atI ds i = some d from e)
      obtain ⟨z, g1, gi, g2, h3, _, h4, _, _⟩ := hd.get h1
      exact .inr (.inl ⟨a, xs, i, z, ex, rfl, ha, h2 z h3, q z gi h4⟩)
    | _ => cases e
  | str z =>
    cases db with
    | int i =>
      rw [hx.1, hy.1]
      simp only [ixD] at e
      split at e
      · rename_i hl
        cases e2 : atI z.cps.toList i with
        | none => rw [e2] at e; cases e
        | some c =>
          rw [e2] at e
          cases e
          exact .inr (.inr ⟨z, i, c, rfl, rfl, lenOk_le hl, e2, q _ [] (den_str _)⟩)
      · cases e
    | _ => cases e
  | _ => cases db <;> cases e
theorem ixD_hold {da db : D} {x y : V} {d : D} (so : SOk K F σ H s ((db, y) :: (da, x) :: hs)) (e : ixD da db = some d) {Q : VK} (q : ∀ v, SOk K F σ H s ((d, v) :: hs) → Q v H) : rIx K x y H Q := by
  cases da with
  | lst o ds =>
    cases db with
    | int i =>
      obtain ⟨a, xs, ex, ha, l, so'⟩ := so.drop.openD
      rw [so.int]
      obtain ⟨j, h1, h2⟩ := atI_map l.symm (show atI ds i = some d from e)
      obtain ⟨z, h3, so2⟩ := so'.item l h1
      exact .inl ⟨a, xs, i, z, ex, rfl, SqL.of ha, h2 z h3, q z so2⟩
    | _ => cases e
  | tup ds =>
    cases db with
    | int i =>
      obtain ⟨a, xs, ex, ha, l, so'⟩ := so.drop.openT
      rw [so.int]
      obtain ⟨j, h1, h2⟩ := atI_map l.symm (show atI ds i = some d from e)
      obtain ⟨z, h3, so2⟩ := so'.item l h1
      exact .inr (.inl ⟨a, xs, i, z, ex, rfl, ha, h2 z h3, q z so2⟩)
    | _ => cases e
  | str z =>
    cases db with
    | int i =>
      rw [so.int, so.drop.str]
      simp only [ixD] at e
      split at e
      · rename_i hl
        cases e2 : atI z.cps.toList i with
        | none => rw [e2] at e; cases e
        | some c =>
          rw [e2] at e
          cases e
          exact .inr (.inr ⟨z, i, c, rfl, rfl, lenOk_le hl, e2, q _ (so.drop.drop.atom (den_str _))⟩)
      · cases e
    | _ => cases e
  | _ => cases db <;> cases e
theorem pp_ix {xa xb : MP.X} {Y : Cx} (hK : Y.K = K) (hs : PlainIx b) (pa : PE Y a (tPk K F (pk xa))) (pb : PE Y b (tPk K F (pk xb))) : PE Y (.Subscript a b pos) (tPk K F (pk (.ix xa xb))) := by
  subst hK
  refine PE.imp (pe_ix ix_seq pa pb hs) fun σ H Q ⟨s, hs, d, so, e, q⟩ => ?_
  simp only [pk] at e
  cases e1 : pk xa s with
  | none => simp only [e1] at e; cases e
  | some d1 =>
    cases e2 : pk xb s with
    | none => simp only [e1, e2] at e; cases e
    | some d2 =>
      simp only [e1, e2] at e
      exact ⟨s, hs, d1, so, e1, fun v1 g1 h1 => ⟨s, hs, d2, so, e2, fun v2 g2 h2 => ixD_den h1 h2 e q⟩⟩
theorem px_ix {xa xb : MP.X} {Y : Cx} (hK : Y.K = K) (hs : PlainIx b) (ha : PE Y a (tX K F W f)) (hb : PE Y b (tX K F W g))
    (pa : isPk xa = true → PE Y a (tPk K F (pk xa))) (pb : isPk xb = true → PE Y b (tPk K F (pk xb))) : PE Y (.Subscript a b pos) (tX K F W (fIx xa xb f g)) := by
  have gen : PE Y (.Subscript a b pos) (tX K F W fun s => (f s).bind fun x s1 => (g s1).bind fun y s2 => R.of (ixD x y) s2) := by
    subst hK
    refine PE.imp (pe_ix ix_seq ha hb hs) fun σ H Q ⟨s, hs, so, out⟩ => ⟨s, hs, so, Out.step out fun d1 s1 _ out v1 H1 so1 => ⟨s1, _, so1, Out.step out fun d2 s2 _ out v2 H2 so2 => ?_⟩⟩
    obtain ⟨d, e, out⟩ := Out.of out
    exact ixD_hold so2 e fun v so3 => out v H2 so3
  refine ⟨fun pins st σ H Q I ⟨s, hs', so, out⟩ => ?_⟩
  cases hp : (isPk xa && isPk xb) with
  | false =>
    refine gen.run pins st σ H Q I ⟨s, hs', so, ?_⟩
    unfold fIx at out
    rw [hp] at out
    exact out
  | true =>
    unfold fIx at out
    rw [hp] at out
    cases e : pk (.ix xa xb) s with
    | none =>
      rw [e] at out
      exact gen.run pins st σ H Q I ⟨s, hs', so, out⟩
    | some d =>
      rw [e] at out
      dsimp only at out
      by_cases n : noL d = true
      · rw [if_pos n] at out
        have hp' := hp
        simp only [Bool.and_eq_true] at hp'
        refine (pp_ix hK hs (pa hp'.1) (pb hp'.2)).run pins st σ H Q I ⟨s, hs', d, so, e, fun v g hd => ?_⟩
        have := Den.nol n hd
        subst this
        exact out v H (so.atom hd)
      · rw [if_neg n] at out
        exact gen.run pins st σ H Q I ⟨s, hs', so, out⟩
end
end MP
set_option linter.all false
set_option maxRecDepth 100000
set_option maxHeartbeats 4000000
/-! MiniPy: built-ins, slices, isinstance, pop, join. -/
namespace MP
open PySem PySem.Spec PyProof.Rows L2

section
variable {K : PySem.W.Frag} {F : Fr} {W : WX} {σ : L2.St} {s : Env} {hs : En} {Y : Cx} {H : Hp} {a b c e : Expr} {f g h : Env → R D} {pos : Pos}

/-! ### one argument that is read, an answer that holds nothing -/
theorem px_rd {E : Expr} {r : V → Hp → VK → Prop} {bf : D → Option D} {xa : X} (hK : Y.K = K) (rule : ∀ t, PE Y a t → PE Y E (fun σ H Q => t σ H fun x H1 => r x H1 Q))
    (ok : ∀ d x g H Q y, Den Y.K H d x g → bf d = some y → (∀ v, Den Y.K H y v [] → Q v H) → r x H Q)
    (ha : PE Y a (tX K F W f)) (pa : isPk xa = true → PE Y a (tPk K F (pk xa))) : PE Y E (tX K F W fun s => (evP xa f s).bind fun x s1 => R.of (bf x) s1) := by
  subst hK
  refine ⟨fun pins st σ H Q I ⟨s, hs, so, out⟩ => ?_⟩
  dsimp only at out
  unfold evP at out
  cases hp : isPk xa with
  | false =>
    rw [hp] at out
    refine (rule _ ha).run pins st σ H Q I ⟨s, hs, so, Out.step out fun d s1 _ out v H1 so1 => ?_⟩
    obtain ⟨y, e, out⟩ := Out.of out
    obtain ⟨g, hd⟩ := so1.den
    exact ok d v g H1 Q y hd e fun u hu => out u H1 (so1.drop.atom hu)
  | true =>
    rw [hp] at out
    dsimp only at out
    cases e1 : pk xa s with
    | none => rw [e1] at out; exact (show False from out).elim
    | some d =>
      rw [e1] at out
      obtain ⟨y, e, out⟩ := Out.of (show Out Y.K F W σ _ (R.of (bf d) s) from out)
      refine (rule _ (pa hp)).run pins st σ H Q I ⟨s, hs, d, so, e1, fun v g hd => ?_⟩
      exact ok d v g H Q y hd e fun u hu => out u H (so.atom hu)
theorem rule_B {id : String} {x : Str} {p : Pos} {r : List V → Hp → VK → Prop} (hc : CallR Y (.builtin id) r) (hg : Gl Y x) (hm : Y.mg x = none) (hv : bootBuiltins x = some (.builtin id)) (hn : x ≠ "__name__") (hdb : (x == ("__debug__" : Str)) = false)
    (hs : ∀ z p, a ≠ .Starred z p) (t : TE) (h : PE Y a t) : PE Y (.Call (.Name x p) [a] [] pos) (fun σ H Q => t σ H fun x H1 => r [x] H1 Q) :=
  pe_callB hc hg hm hv (pa_cons h pa_nil (star_plain hs)) hn hdb (star_plain hs) rfl
theorem rule_T {T : String} {x : Str} {p : Pos} {r : List V → Hp → VK → Prop} (hc : CallR Y (.type T) r) (hg : Gl Y x) (hm : Y.mg x = none) (hv : bootBuiltins x = some (.type T)) (hn : x ≠ "__name__") (hdb : (x == ("__debug__" : Str)) = false)
    (hs : ∀ z p, a ≠ .Starred z p) (t : TE) (h : PE Y a t) : PE Y (.Call (.Name x p) [a] [] pos) (fun σ H Q => t σ H fun x H1 => r [x] H1 Q) :=
  pe_callTy hc hg hm hv (pa_cons h pa_nil (star_plain hs)) hn hdb (star_plain hs) rfl
theorem tints_den : ∀ {ds : List D} {xs : List V} {g : G} {ns : List Int}, tints ds = some ns → DenL K H ds xs g → xs = ns.map V.int
  | [], _, _, _, e, ⟨h, _⟩ => by cases e; exact h
  | d :: ds, _, _, ns, e, ⟨x, xs', g1, g2, e1, _, h1, h2⟩ => by
    subst e1
    cases d with
    | int i =>
      simp only [tints] at e
      cases e2 : tints ds with
      | none => rw [e2] at e; cases e
      | some ms =>
        rw [e2] at e
        cases e
        rw [h1.1, tints_den e2 h2]
        rfl
    | _ => cases e
theorem tbls_den : ∀ {ds : List D} {xs : List V} {g : G} {ns : List Bool}, tbls ds = some ns → DenL K H ds xs g → xs = ns.map V.bl
  | [], _, _, _, e, ⟨h, _⟩ => by cases e; exact h
  | d :: ds, _, _, ns, e, ⟨x, xs', g1, g2, e1, _, h1, h2⟩ => by
    subst e1
    cases d with
    | bl i =>
      simp only [tbls] at e
      cases e2 : tbls ds with
      | none => rw [e2] at e; cases e
      | some ms =>
        rw [e2] at e
        cases e
        rw [h1.1, tbls_den e2 h2]
        rfl
    | _ => cases e
theorem tstrs_den : ∀ {ds : List D} {xs : List V} {g : G} {ns : List Str}, tstrs ds = some ns → DenL K H ds xs g → xs = ns.map V.str
  | [], _, _, _, e, ⟨h, _⟩ => by cases e; exact h
  | d :: ds, _, _, ns, e, ⟨x, xs', g1, g2, e1, _, h1, h2⟩ => by
    subst e1
    cases d with
    | str i =>
      simp only [tstrs] at e
      cases e2 : tstrs ds with
      | none => rw [e2] at e; cases e
      | some ms =>
        rw [e2] at e
        cases e
        rw [h1.1, tstrs_den e2 h2]
        rfl
    | _ => cases e
theorem len_ok (d : D) (x : V) (g : G) (H : Hp) (Q : VK) (y : D) (hd : Den Y.K H d x g) (e : bi1 .len d = some y) (q : ∀ v, Den Y.K H y v [] → Q v H) : ∃ z n, [x] = [z] ∧ LenV Y.K z H n ∧ Q (.int n) H := by
  cases d with
  | lst o ds =>
    obtain ⟨a, xs, g', ex, ha, _, hl⟩ := hd
    cases e
    refine ⟨x, xs.length, rfl, ?_, q _ (by rw [hl.length]; exact den_int _)⟩
    rw [ex]
    exact .inl ⟨xs, SqL.of ha, rfl⟩
  | tup ds =>
    obtain ⟨a, xs, ex, ha, hl⟩ := hd
    cases e
    refine ⟨x, xs.length, rfl, ?_, q _ (by rw [hl.length]; exact den_int _)⟩
    rw [ex]
    exact .inr ⟨xs, ha, rfl⟩
  | str z =>
    simp only [bi1, lenD] at e
    split at e
    · rename_i hl
      cases e
      refine ⟨x, z.length, rfl, ?_, q _ (den_int _)⟩
      rw [hd.1]
      exact ⟨lenOk_le hl, rfl⟩
    · cases e
  | _ => cases e
theorem pp_len {xa : X} {x : Str} {p : Pos} (hK : Y.K = K) (hg : Gl Y x) (hm : Y.mg x = none) (hv : bootBuiltins x = some (.builtin "len")) (hn : x ≠ "__name__") (hdb : (x == ("__debug__" : Str)) = false)
    (hst : ∀ z p, a ≠ .Starred z p) (pa : PE Y a (tPk K F (pk xa))) : PE Y (.Call (.Name x p) [a] [] pos) (tPk K F (pk (.bi .len (.cons xa .nil)))) := by
  subst hK
  refine PE.imp (rule_B call_len hg hm hv hn hdb hst _ pa) fun σ H Q ⟨s, hs, d, so, e, q⟩ => ?_
  simp only [pk] at e
  cases e1 : pk xa s with
  | none => rw [e1] at e; cases e
  | some d1 =>
    rw [e1] at e
    exact ⟨s, hs, d1, so, e1, fun v g hd => len_ok d1 v g H Q d hd e fun u hu => q u [] hu⟩
theorem int_ok (d : D) (x : V) (g : G) (H : Hp) (Q : VK) (y : D) (hd : Den Y.K H d x g) (e : bi1 .int d = some y) (q : ∀ v, Den Y.K H y v [] → Q v H) :
    (∃ i, [x] = [.int i] ∧ Q (.int i) H) ∨ ∃ k, [x] = [.bl k] ∧ Q (.int (if k then 1 else 0)) H := by
  cases d with
  | int i => cases e; exact .inl ⟨i, by rw [hd.1], q _ (den_int _)⟩
  | bl k => cases e; exact .inr ⟨k, by rw [hd.1], q _ (den_int _)⟩
  | _ => cases e
theorem abs_ok (d : D) (x : V) (g : G) (H : Hp) (Q : VK) (y : D) (hd : Den Y.K H d x g) (e : bi1 .abs d = some y) (q : ∀ v, Den Y.K H y v [] → Q v H) :
    ∃ i, [x] = [.int i] ∧ Q (.int (if i < 0 then -i else i)) H := by
  cases d with
  | int i => cases e; exact ⟨i, by rw [hd.1], q _ (den_int _)⟩
  | _ => cases e
theorem sum_ok (d : D) (x : V) (g : G) (H : Hp) (Q : VK) (y : D) (hd : Den Y.K H d x g) (e : bi1 .sum d = some y) (q : ∀ v, Den Y.K H y v [] → Q v H) : rSum Y.K [x] H Q := by
  cases d with
  | lst o ds =>
    obtain ⟨a, xs, g', ex, ha, _, hl⟩ := hd
    simp only [bi1] at e
    cases e2 : tints ds with
    | none => rw [e2] at e; cases e
    | some ns =>
      rw [e2] at e
      cases e
      have := tints_den e2 hl
      subst this
      exact ⟨a, ns, by rw [ex], SqL.of ha, q _ (den_int _)⟩
  | _ => cases e
/-! any, all of bools and ints; max, min of ints -/
def truV : V → Option Bool
  | .bl b => some b
  | .int i => some (i != 0)
  | _ => none
theorem ttru_den : ∀ {ds : List D} {xs : List V} {g : G} {bs : List Bool}, ttru ds = some bs → DenL K H ds xs g → xs.map truV = bs.map some
  | [], _, _, _, e, ⟨h, _⟩ => by cases e; rw [h]; rfl
  | d :: ds, _, _, bs, e, ⟨x, xs', g1, g2, e1, _, h1, h2⟩ => by
    subst e1
    cases d with
    | bl i =>
      simp only [ttru] at e
      cases e2 : ttru ds with
      | none => rw [e2] at e; cases e
      | some ms =>
        rw [e2] at e
        cases e
        rw [h1.1, List.map_cons, ttru_den e2 h2]
        rfl
    | int i =>
      simp only [ttru] at e
      cases e2 : ttru ds with
      | none => rw [e2] at e; cases e
      | some ms =>
        rw [e2] at e
        cases e
        rw [h1.1, List.map_cons, ttru_den e2 h2]
        rfl
    | _ => cases e
theorem truth_v {prog : Program} {w : World} {A : Around} {bs : List Bool} {xs : List V} {its : List Value} (rv : Vals xs its) (e : xs.map truV = bs.map some) :
    TruthOf prog w A (fun i v => its.toArray[i]? = some v) (fun i => bs.getD i false) := fun i v s Q E hv hq => by
  have hi : its[i]? = some v := by simpa using hv
  have hlt : i < xs.length := by rw [rv.length]; exact (List.getElem?_eq_some_iff.mp hi).1
  obtain ⟨u, hu, ru⟩ := rv.get (List.getElem?_eq_getElem hlt)
  rw [hi] at hu
  cases hu
  have at_ := congrArg (fun l => l[i]?) e
  simp only [List.getElem?_map, List.getElem?_eq_getElem hlt, Option.map_some] at at_
  cases hb : bs[i]? with
  | none => rw [hb] at at_; cases at_
  | some b =>
    rw [hb] at at_
    have hg : bs.getD i false = b := by rw [List.getD_eq_getElem?_getD, hb]; rfl
    simp only [hg] at hq
    cases hx : xs[i] with
    | bl k =>
      rw [hx] at at_ ru
      cases at_
      cases ru
      exact wpAny_truthy_bool hq
    | int k =>
      rw [hx] at at_ ru
      cases at_
      obtain ⟨t, rfl⟩ := ru
      exact PySem.P.truthy_int hq
    | _ => rw [hx] at at_; cases at_
def rAnyT (K : PySem.W.Frag) (f : List Bool → Bool) : List V → Hp → VK → Prop := fun vs H Q => ∃ (a : Addr) (xs : List V) (bs : List Bool), vs = [V.ref a] ∧ SqL K H a xs ∧ xs.map truV = bs.map some ∧ Q (.bl (f bs)) H
theorem cr_anyT (hc : Y.calm = true) : CallR Y (.builtin "any") (rAnyT Y.K fun bs => bs.any id) := by
  intro pins s σ H vs us Q J r ⟨a, xs, bs, ev, hs, e, q⟩
  subst ev
  obtain ⟨its, rv, hl, _⟩ := J.list hs
  rw [Vals.ref1 r]
  refine call_any_walk (iter_any hl.isList fun s2 e2 st hne => ?_)
  subst e2
  have len : its.toArray.size = bs.length := by
    have := congrArg List.length e
    simp only [List.length_map] at this
    rw [List.size_toArray, ← rv.length, this]
  refine ⟨_, _, _, _, _, _, _, rfl, Walks.list (A := Y.A.in1) (J.ok.hd hc) _ a hne its.toArray, st, truth_v rv e, fun h' tk kp => ⟨.bl _, H, J.kept fun b o eo => kp b o (fun m => ?_) (Heap.get?_push_of_some _ eo), ?_, q⟩⟩
  · rw [List.mem_singleton.mp m] at eo
    exact absurd (Heap.lt_size eo) (Nat.lt_irrefl _)
  · show Value.bool _ = Value.bool (bs.any id)
    rw [← L2.any_range bs, len]
theorem cr_allT (hc : Y.calm = true) : CallR Y (.builtin "all") (rAnyT Y.K fun bs => bs.all id) := by
  intro pins s σ H vs us Q J r ⟨a, xs, bs, ev, hs, e, q⟩
  subst ev
  obtain ⟨its, rv, hl, _⟩ := J.list hs
  rw [Vals.ref1 r]
  refine call_all_walk (iter_any hl.isList fun s2 e2 st hne => ?_)
  subst e2
  have len : its.toArray.size = bs.length := by
    have := congrArg List.length e
    simp only [List.length_map] at this
    rw [List.size_toArray, ← rv.length, this]
  refine ⟨_, _, _, _, _, _, _, rfl, Walks.list (A := Y.A.in1) (J.ok.hd hc) _ a hne its.toArray, st, truth_v rv e, fun h' tk kp => ⟨.bl _, H, J.kept fun b o eo => kp b o (fun m => ?_) (Heap.get?_push_of_some _ eo), ?_, q⟩⟩
  · rw [List.mem_singleton.mp m] at eo
    exact absurd (Heap.lt_size eo) (Nat.lt_irrefl _)
  · show Value.bool _ = Value.bool (bs.all id)
    rw [← L2.all_range bs, len]
theorem all_ok (d : D) (x : V) (g : G) (H : Hp) (Q : VK) (y : D) (hd : Den Y.K H d x g) (e : bi1 .all d = some y) (q : ∀ v, Den Y.K H y v [] → Q v H) : rAnyT Y.K (fun bs => bs.all id) [x] H Q := by
  cases d with
  | lst o ds =>
    obtain ⟨a, xs, g', ex, ha, _, hl⟩ := hd
    simp only [bi1] at e
    cases e2 : ttru ds with
    | none => rw [e2] at e; cases e
    | some bs =>
      rw [e2] at e
      cases e
      exact ⟨a, xs, bs, by rw [ex], SqL.of ha, ttru_den e2 hl, q _ (den_bl _)⟩
  | _ => cases e
theorem any_ok (d : D) (x : V) (g : G) (H : Hp) (Q : VK) (y : D) (hd : Den Y.K H d x g) (e : bi1 .any d = some y) (q : ∀ v, Den Y.K H y v [] → Q v H) : rAnyT Y.K (fun bs => bs.any id) [x] H Q := by
  cases d with
  | lst o ds =>
    obtain ⟨a, xs, g', ex, ha, _, hl⟩ := hd
    simp only [bi1] at e
    cases e2 : ttru ds with
    | none => rw [e2] at e; cases e
    | some bs =>
      rw [e2] at e
      cases e
      exact ⟨a, xs, bs, by rw [ex], SqL.of ha, ttru_den e2 hl, q _ (den_bl _)⟩
  | _ => cases e
theorem foldl_max : ∀ (ns : List Int) (n : Int), n ≤ ns.foldl max n ∧ (∀ y ∈ ns, y ≤ ns.foldl max n) ∧ (ns.foldl max n = n ∨ ns.foldl max n ∈ ns)
  | [], n => ⟨Int.le_refl _, (fun _ h => nomatch h), .inl rfl⟩
  | m :: ns, n => by
    obtain ⟨h1, h2, h3⟩ := foldl_max ns (max n m)
    simp only [List.foldl_cons]
    refine ⟨by omega, fun y hy => ?_, ?_⟩
    · rcases List.mem_cons.mp hy with rfl | hy
      · omega
      · exact h2 y hy
    · rcases h3 with h3 | h3
      · by_cases hm : n ≤ m
        · right; rw [h3, Int.max_eq_right hm]; exact .head _
        · left; rw [h3]; omega
      · right; exact .tail _ h3
theorem foldl_min : ∀ (ns : List Int) (n : Int), ns.foldl min n ≤ n ∧ (∀ y ∈ ns, ns.foldl min n ≤ y) ∧ (ns.foldl min n = n ∨ ns.foldl min n ∈ ns)
  | [], n => ⟨Int.le_refl _, (fun _ h => nomatch h), .inl rfl⟩
  | m :: ns, n => by
    obtain ⟨h1, h2, h3⟩ := foldl_min ns (min n m)
    simp only [List.foldl_cons]
    refine ⟨by omega, fun y hy => ?_, ?_⟩
    · rcases List.mem_cons.mp hy with rfl | hy
      · omega
      · exact h2 y hy
    · rcases h3 with h3 | h3
      · by_cases hm : m ≤ n
        · right; rw [h3, Int.min_eq_right hm]; exact .head _
        · left; rw [h3]; omega
      · right; exact .tail _ h3
theorem max_ok (d : D) (x : V) (g : G) (H : Hp) (Q : VK) (y : D) (hd : Den Y.K H d x g) (e : bi1 .max1 d = some y) (q : ∀ v, Den Y.K H y v [] → Q v H) : rMax Y.K [x] H Q := by
  cases d with
  | lst o ds =>
    obtain ⟨a, xs, g', ex, ha, _, hl⟩ := hd
    simp only [bi1] at e
    cases e2 : tints ds with
    | none => rw [e2] at e; cases e
    | some ns =>
      rw [e2] at e
      have := tints_den e2 hl
      subst this
      cases ns with
      | nil => cases e
      | cons n ns =>
        cases e
        obtain ⟨h1, h2, h3⟩ := foldl_max ns n
        refine ⟨a, n :: ns, by rw [ex], SqL.of ha, Nat.succ_pos _, fun m hm hmax => ?_⟩
        have : m = ns.foldl max n := by
          have u : m ≤ ns.foldl max n := by
            rcases List.mem_cons.mp hm with rfl | hm
            · exact h1
            · exact h2 m hm
          have l : ns.foldl max n ≤ m := by
            rcases h3 with h3 | h3
            · rw [h3]; exact hmax n (.head _)
            · exact hmax _ (.tail _ h3)
          omega
        subst this
        exact q _ (den_int _)
  | _ => cases e
theorem min_ok (d : D) (x : V) (g : G) (H : Hp) (Q : VK) (y : D) (hd : Den Y.K H d x g) (e : bi1 .min1 d = some y) (q : ∀ v, Den Y.K H y v [] → Q v H) : rMin Y.K [x] H Q := by
  cases d with
  | lst o ds =>
    obtain ⟨a, xs, g', ex, ha, _, hl⟩ := hd
    simp only [bi1] at e
    cases e2 : tints ds with
    | none => rw [e2] at e; cases e
    | some ns =>
      rw [e2] at e
      have := tints_den e2 hl
      subst this
      cases ns with
      | nil => cases e
      | cons n ns =>
        cases e
        obtain ⟨h1, h2, h3⟩ := foldl_min ns n
        refine ⟨a, n :: ns, by rw [ex], SqL.of ha, Nat.succ_pos _, fun m hm hmax => ?_⟩
        have : m = ns.foldl min n := by
          have u : ns.foldl min n ≤ m := by
            rcases List.mem_cons.mp hm with rfl | hm
            · exact h1
            · exact h2 m hm
          have l : m ≤ ns.foldl min n := by
            rcases h3 with h3 | h3
            · rw [h3]; exact hmax n (.head _)
            · exact hmax _ (.tail _ h3)
          omega
        subst this
        exact q _ (den_int _)
  | _ => cases e
/-- repr of data -/
def rRepr (K : PySem.W.Frag) : List V → Hp → VK → Prop := fun xs H Q => ∃ x d, xs = [x] ∧ Dp K H x d ∧ d.showable = true ∧ d.canLay0 = true ∧ d.depth ≤ 64 ∧ d.shown.length ≤ sizeLine ∧ Q (.str d.shown) H
theorem call_repr (hg : Y.A.guards = some []) (hu : Y.A.units + 80 < cLine) : CallR Y (.builtin "repr") (rRepr Y.K) := by
  intro pins st σ H xs us Q I r h
  obtain ⟨x, d, rfl, hd, h1, h2, h3, h4, q⟩ := h
  obtain ⟨u, rfl, rx⟩ := vals1 r
  obtain ⟨as, hr⟩ := Dp.reads I d x u hd rx
  have nd : d.hasDict = true → sysModules ∉ as := PyData.noDict_hsm (PyData.hasDict_of_canLay d h2)
  cases hd with
  | non =>
    cases rx
    exact PySem.P.repr_of_none ⟨.str _, H, I.tok _, ⟨_, rfl⟩, by simpa only [PyData.shown] using q⟩
  | bl b =>
    cases rx
    exact PySem.P.repr_of_bool ⟨.str _, H, I.tok _, ⟨_, rfl⟩, by simpa only [PyData.shown] using q⟩
  | int i =>
    obtain ⟨t, rfl⟩ := rx
    exact PySem.P.repr_of_int (by simpa [PyData.showable] using h1) ⟨.str _, H, I.tok _, ⟨_, rfl⟩, by simpa only [PyData.shown] using q⟩
  | str z =>
    obtain ⟨t, rfl⟩ := rx
    exact PySem.P.repr_of_str ⟨.str _, H, I.tok _, ⟨_, rfl⟩, by simpa only [PyData.shown] using q⟩ (by simpa only [PyData.shown] using h4)
  | lst hs ha =>
    cases rx
    exact repr_of_reads' hr h1 nd hg (by omega) (fun _ _ e => e) (fun h' t tk kp => ⟨.str _, H, I.kept (t' := tk) kp, ⟨t, rfl⟩, q⟩) h4
  | tup hs ha =>
    cases rx
    exact repr_of_reads' hr h1 nd hg (by omega) (fun _ _ e => e) (fun h' t tk kp => ⟨.str _, H, I.kept (t' := tk) kp, ⟨t, rfl⟩, q⟩) h4
theorem repr_ok (d : D) (x : V) (g : G) (H : Hp) (Q : VK) (y : D) (hd : Den Y.K H d x g) (e : bi1 .repr d = some y) (q : ∀ v, Den Y.K H y v [] → Q v H) : rRepr Y.K [x] H Q := by
  simp only [bi1] at e
  split at e
  · rename_i hc
    cases e
    simp only [Bool.and_eq_true, decide_eq_true_eq] at hc
    exact ⟨x, pd d, rfl, hd.dp hc.1.1.1.1, hc.1.1.1.2, hc.1.1.2, hc.1.2, lenOk_le hc.2, q _ (den_str _)⟩
  · cases e
/-- the one-place built-ins -/
structure BiOk (Y : Cx) : Prop where
  calm : Y.calm = true
  guards : Y.A.guards = some []
  units : Y.A.units + 80 < cLine
def biName : Bi → Str
  | .len => "len" | .int => "int" | .abs => "abs" | .list => "list" | .tuple => "tuple" | .sum => "sum" | .all => "all" | .any => "any" | .max1 => "max" | .min1 => "min" | .max2 => "max" | .min2 => "min" | .repr => "repr" | .sorted => "sorted" | .str => "str"
theorem px_bi1 {bi : Bi} {xa : X} {p : Pos} (hK : Y.K = K) (ok : BiOk Y) (hg : Gl Y (biName bi)) (hm : Y.mg (biName bi) = none) (hst : ∀ z p, a ≠ .Starred z p)
    (hb : bi = .len ∨ bi = .int ∨ bi = .abs ∨ bi = .sum ∨ bi = .all ∨ bi = .any ∨ bi = .repr ∨ bi = .max1 ∨ bi = .min1)
    (ha : PE Y a (tX K F W f)) (pa : isPk xa = true → PE Y a (tPk K F (pk xa))) : PE Y (.Call (.Name (biName bi) p) [a] [] pos) (tX K F W (fBi1 bi xa f)) := by
  rcases hb with rfl | rfl | rfl | rfl | rfl | rfl | rfl | rfl | rfl
  · exact px_rd hK (rule_B call_len hg hm PySem.boot_len (by decide) (by decide) hst) len_ok ha pa
  · exact px_rd hK (rule_T call_int1 hg hm PyProof.Rows.boot_int (by decide) (by decide) hst) int_ok ha pa
  · exact px_rd hK (rule_B call_abs hg hm PyProof.Rows.boot_abs (by decide) (by decide) hst) abs_ok ha pa
  · exact px_rd hK (rule_B (cr_sum ok.calm) hg hm PyProof.Rows.boot_sum (by decide) (by decide) hst) sum_ok ha pa
  · exact px_rd hK (rule_B (cr_allT ok.calm) hg hm (by decide +kernel) (by decide) (by decide) hst) all_ok ha pa
  · exact px_rd hK (rule_B (cr_anyT ok.calm) hg hm (by decide +kernel) (by decide) (by decide) hst) any_ok ha pa
  · exact px_rd hK (rule_B (call_repr ok.guards ok.units) hg hm (by decide +kernel) (by decide) (by decide) hst) repr_ok ha pa
  · exact px_rd hK (rule_B (cr_max ok.calm) hg hm PyProof.Rows.boot_max (by decide) (by decide) hst) max_ok ha pa
  · exact px_rd hK (rule_B (cr_min ok.calm) hg hm PyProof.Rows.boot_min (by decide) (by decide) hst) min_ok ha pa
theorem px_bi2 {bi : Bi} {p : Pos} (hK : Y.K = K) (ok : BiOk Y) (hg : Gl Y (biName bi)) (hm : Y.mg (biName bi) = none) (h1 : ∀ z p, a ≠ .Starred z p) (h2 : ∀ z p, b ≠ .Starred z p)
    (hb : bi = .max2 ∨ bi = .min2) (ha : PE Y a (tX K F W f)) (hb2 : PE Y b (tX K F W g)) : PE Y (.Call (.Name (biName bi) p) [a, b] [] pos) (tX K F W (fBi2 bi f g)) := by
  subst hK
  have hpl : (backTo pos (starEach [b] Y.env)).any (·.1) = false := by rw [star_plain h2]; rfl
  rcases hb with rfl | rfl
  · refine PE.imp (pe_callB (call_max2 ok.calm) hg hm PyProof.Rows.boot_max (pa_cons ha (pa_cons hb2 pa_nil (star_plain h2)) (star_plain h1)) (by decide) (by decide) (star_plain h1) hpl) fun σ H Q ⟨s, hs, so, out⟩ =>
      ⟨s, hs, so, Out.step out fun d1 s1 _ out v1 H1 so1 => ⟨s1, _, so1, Out.step out fun d2 s2 _ out v2 H2 so2 => ?_⟩⟩
    obtain ⟨d, e, out⟩ := Out.of out
    cases d1 with
    | int i => cases d2 with
      | int j =>
        cases e
        rw [so2.int, so2.swap.int]
        exact ⟨i, j, rfl, out _ _ (so2.drop.drop.atom (den_int _))⟩
      | _ => cases e
    | _ => cases d2 <;> cases e
  · refine PE.imp (pe_callB (call_min2 ok.calm) hg hm PyProof.Rows.boot_min (pa_cons ha (pa_cons hb2 pa_nil (star_plain h2)) (star_plain h1)) (by decide) (by decide) (star_plain h1) hpl) fun σ H Q ⟨s, hs, so, out⟩ =>
      ⟨s, hs, so, Out.step out fun d1 s1 _ out v1 H1 so1 => ⟨s1, _, so1, Out.step out fun d2 s2 _ out v2 H2 so2 => ?_⟩⟩
    obtain ⟨d, e, out⟩ := Out.of out
    cases d1 with
    | int i => cases d2 with
      | int j =>
        cases e
        rw [so2.int, so2.swap.int]
        exact ⟨i, j, rfl, out _ _ (so2.drop.drop.atom (den_int _))⟩
      | _ => cases e
    | _ => cases d2 <;> cases e

/-! ### items taken out -/
/-- held, or read where it holds no list -/
def Rdy (K : PySem.W.Frag) (F : Fr) (σ : L2.St) (H : Hp) (s : Env) (hs : En) (d : D) (v : V) : Prop :=
  SOk K F σ H s ((d, v) :: hs) ∨ (SOk K F σ H s hs ∧ (∃ ds, itemsD d = some ds ∧ noLs ds = true) ∧ ∃ g, Den K H d v g)
def tR (K : PySem.W.Frag) (F : Fr) (W : WX) (x : X) (f : Env → R D) : TE := fun σ H Q => ∃ s hs, SOk K F σ H s hs ∧ Out K F W σ (fun d s => ∀ v H', Rdy K F σ H' s hs d v → Q v H') (evR x f s)
theorem px_r {x : X} (ha : PE Y a (tX K F W f)) (pa : isPk x = true → PE Y a (tPk K F (pk x))) : PE Y a (tR K F W x f) := by
  refine ⟨fun pins st σ H Q I ⟨s, hs, so, out⟩ => ?_⟩
  have gen : Out K F W σ (fun d s => ∀ v H', Rdy K F σ H' s hs d v → Q v H') (f s) → wpAny (model Y.prog Y.w) Y.A (eval a Y.env) (EP Y pins σ Q) Y.xe st := fun o => by
    refine ha.run pins st σ H Q I ⟨s, hs, so, ?_⟩
    cases hf : f s with
    | ok d s1 => rw [hf] at o; exact fun v H' so' => o v H' (.inl so')
    | exc c s1 => rw [hf] at o; exact o
    | stk => rw [hf] at o; exact o
  unfold evR at out
  cases x with
  | v i mv =>
    cases mv with
    | true => exact gen out
    | false =>
      dsimp only at out
      cases e1 : (getv s i).bind itemsD with
      | none => rw [e1] at out; exact (show False from out).elim
      | some xs =>
        rw [e1] at out
        dsimp only at out
        by_cases n : noLs xs = true
        · rw [if_pos n] at out
          obtain ⟨d, e2, out⟩ := Out.of out
          refine (pa rfl).run pins st σ H Q I ⟨s, hs, d, so, e2, fun v g hd => out v H (.inr ⟨so, ⟨xs, ?_, n⟩, g, hd⟩)⟩
          rw [e2] at e1
          exact e1
        · rw [if_neg n] at out
          exact gen out
  | _ => exact gen out
/-- its items as a row -/
theorem Rdy.row {d : D} {v : V} {ds : List D} (x : Rdy K F σ H s hs d v) (e : itemsD d = some ds) : ∃ p xs, v = .ref p ∧ xs.length = ds.length ∧ SOk K F σ H s (ds.zip xs ++ hs) ∧
    ((∃ o, d = .lst o ds ∧ H p = some (.lst xs)) ∨ (d = .tup ds ∧ SqT K H p xs) ∨ SqL K H p xs) := by
  rcases x with so | ⟨so, ⟨ds', e', n⟩, g, hd⟩
  · cases d with
    | lst o zs =>
      cases e
      obtain ⟨p, xs, h1, h2, h3, h4⟩ := so.openD
      exact ⟨p, xs, h1, h3, h4, .inl ⟨o, rfl, h2⟩⟩
    | tup zs =>
      cases e
      obtain ⟨p, xs, h1, h2, h3, h4⟩ := so.openT
      exact ⟨p, xs, h1, h3, h4, .inr (.inl ⟨rfl, h2⟩)⟩
    | scr ns =>
      cases e
      obtain ⟨g, p, h1, h2, h3⟩ := so.den
      refine ⟨p, ns.map V.int, h1, by simp, ?_, .inr (.inr h2.sq)⟩
      have so' := so.drop
      obtain ⟨⟨E, g, l, dd, c, u⟩, k, io⟩ := so'
      refine .mk' (g := g) l ?_ c u k io
      rw [List.append_assoc]
      refine DenE.append.mpr ⟨[], g, rfl, DenE.zip (DenL.of_nol (by simp) fun i d v e1 e2 => ?_), dd⟩
      rw [List.getElem?_map] at e1 e2
      cases e3 : ns[i]? with
      | none => rw [e3] at e1; cases e1
      | some n => rw [e3] at e1 e2; cases e1; cases e2; exact den_int _
    | _ => cases e
  · rw [e] at e'
    cases e'
    have fin : ∀ {xs : List V} {g : G}, DenL K H ds xs g → SOk K F σ H s (ds.zip xs ++ hs) := fun {xs g} hl => by
      have := DenL.nol n hl
      subst this
      obtain ⟨⟨E, g, l, dd, c, u⟩, k, io⟩ := so
      refine .mk' (g := g) l ?_ c u k io
      rw [List.append_assoc]
      exact DenE.append.mpr ⟨[], g, rfl, DenE.zip hl, dd⟩
    cases d with
    | lst o zs =>
      cases e
      obtain ⟨p, xs, g', h1, h2, _, h3⟩ := hd
      exact ⟨p, xs, h1, h3.length, fin h3, .inl ⟨o, rfl, h2⟩⟩
    | tup zs =>
      cases e
      obtain ⟨p, xs, h1, h2, h3⟩ := hd
      exact ⟨p, xs, h1, h3.length, fin h3, .inr (.inl ⟨rfl, h2⟩)⟩
    | scr ns =>
      cases e
      obtain ⟨p, h1, h2, h3⟩ := hd
      refine ⟨p, ns.map V.int, h1, by simp, fin (g := []) (DenL.of_nol (by simp) fun i d v e1 e2 => ?_), .inr (.inr h2.sq)⟩
      rw [List.getElem?_map] at e1 e2
      cases e3 : ns[i]? with
      | none => rw [e3] at e1; cases e1
      | some n => rw [e3] at e1 e2; cases e1; cases e2; exact den_int _
    | _ => cases e
theorem px_list {xa : X} {p : Pos} (hK : Y.K = K) (hg : Gl Y "list") (hm : Y.mg "list" = none) (hst : ∀ z p, a ≠ .Starred z p) (ha : PE Y a (tX K F W f)) (pa : isPk xa = true → PE Y a (tPk K F (pk xa))) :
    PE Y (.Call (.Name "list" p) [a] [] pos) (tX K F W (fBi1 .list xa f)) := by
  subst hK
  refine PE.imp (rule_T call_list_of hg hm PyProof.Rows.boot_list (by decide) (by decide) hst _ (px_r ha pa)) fun σ H Q ⟨s, hs, so, out⟩ => ⟨s, hs, so, Out.step out fun d s1 _ out v H1 rd => ?_⟩
  obtain ⟨y, e, out⟩ := Out.of out
  cases d with
  | lst o ds =>
    cases e
    obtain ⟨q, xs, h1, h2, h3, h4⟩ := rd.row rfl
    rcases h4 with ⟨_, _, h4⟩ | ⟨h4, _⟩ | h4
    · exact ⟨q, xs, by rw [h1], .inl (SqL.of h4), fun l hl => out _ _ (h3.newL h2 hl)⟩
    · cases h4
    · exact ⟨q, xs, by rw [h1], .inl h4, fun l hl => out _ _ (h3.newL h2 hl)⟩
  | tup ds =>
    cases e
    obtain ⟨q, xs, h1, h2, h3, h4⟩ := rd.row rfl
    rcases h4 with ⟨_, h4, _⟩ | ⟨_, h4⟩ | h4
    · cases h4
    · exact ⟨q, xs, by rw [h1], .inr h4, fun l hl => out _ _ (h3.newL h2 hl)⟩
    · exact ⟨q, xs, by rw [h1], .inl h4, fun l hl => out _ _ (h3.newL h2 hl)⟩
  | scr ns =>
    cases e
    obtain ⟨q, xs, h1, h2, h3, h4⟩ := rd.row rfl
    rcases h4 with ⟨_, h4, _⟩ | ⟨h4, _⟩ | h4
    · cases h4
    · cases h4
    · exact ⟨q, xs, by rw [h1], .inl h4, fun l hl => out _ _ (h3.newL h2 hl)⟩
  | _ => cases e
theorem px_tuple {xa : X} {p : Pos} (hK : Y.K = K) (hg : Gl Y "tuple") (hm : Y.mg "tuple" = none) (hst : ∀ z p, a ≠ .Starred z p) (ha : PE Y a (tX K F W f)) (pa : isPk xa = true → PE Y a (tPk K F (pk xa))) :
    PE Y (.Call (.Name "tuple" p) [a] [] pos) (tX K F W (fBi1 .tuple xa f)) := by
  subst hK
  refine PE.imp (rule_T call_tuple_of hg hm PyProof.Rows.boot_tuple (by decide) (by decide) hst _ (px_r ha pa)) fun σ H Q ⟨s, hs, so, out⟩ => ⟨s, hs, so, Out.step out fun d s1 _ out v H1 rd => ?_⟩
  obtain ⟨y, e, out⟩ := Out.of out
  cases d with
  | lst o ds =>
    cases e
    obtain ⟨q, xs, h1, h2, h3, h4⟩ := rd.row rfl
    rcases h4 with ⟨_, _, h4⟩ | ⟨h4, _⟩ | h4
    · exact ⟨q, xs, by rw [h1], .inl ⟨SqL.of h4, fun l hl => out _ _ (h3.newT h2 hl)⟩⟩
    · cases h4
    · exact ⟨q, xs, by rw [h1], .inl ⟨h4, fun l hl => out _ _ (h3.newT h2 hl)⟩⟩
  | tup ds =>
    cases e
    rcases rd with so1 | ⟨so1, ⟨ds', e', n⟩, g, hd⟩
    · obtain ⟨g, q, xs, h1, h2, h3⟩ := so1.den
      subst h1
      exact ⟨q, xs, rfl, .inr ⟨h2, out _ _ so1⟩⟩
    · cases e'
      have hd' := hd
      obtain ⟨q, xs, h1, h2, h3⟩ := hd
      have := DenL.nol n h3
      subst this
      subst h1
      exact ⟨q, xs, rfl, .inr ⟨h2, out _ _ (so1.atom hd')⟩⟩
  | _ => cases e

/-! ### slices -/
def tO (K : PySem.W.Frag) (F : Fr) (x : Xo) : TO := fun σ H Q => ∃ s hs o, SOk K F σ H s hs ∧ evo x s = some o ∧ Q o H
theorem PO.imp {X : Cx} {e : Option Expr} {t t' : TO} (h : PO X e t) (i : ∀ σ H Q, t' σ H Q → t σ H Q) : PO X e t' := ⟨fun pins s σ H Q I q => h.run pins s σ H Q I (i σ H Q q)⟩
theorem pxo_none : PO Y none (tO K F .none) := PO.imp po_none fun σ H Q ⟨s, hs, o, so, e, q⟩ => by cases e; exact q
theorem pxo_some {xa : X} (hp : isPk xa = true) (pa : PE Y a (tPk K F (pk xa))) : PO Y (some a) (tO K F (.some xa)) := PO.imp (po_some pa) fun σ H Q ⟨s, hs, o, so, e, q⟩ => by
  simp only [evo, hp] at e
  split at e
  · rename_i i e2
    cases e
    exact ⟨s, hs, .int i, so, e2, fun v g hd => ⟨i, hd.1, q⟩⟩
  · cases e
theorem drop_zip' {α β : Type} : ∀ (n : Nat) (xs : List α) (ys : List β), (xs.drop n).zip (ys.drop n) = (xs.zip ys).drop n
  | 0, _, _ => rfl
  | _ + 1, [], _ => by simp
  | _ + 1, _ :: _, [] => by simp
  | n + 1, _ :: xs, _ :: ys => drop_zip' n xs ys
theorem take_zip' {α β : Type} : ∀ (n : Nat) (xs : List α) (ys : List β), (xs.take n).zip (ys.take n) = (xs.zip ys).take n
  | 0, _, _ => rfl
  | _ + 1, [], _ => by simp
  | _ + 1, _ :: _, [] => by simp
  | n + 1, _ :: xs, _ :: ys => by
    show _ :: (xs.take n).zip (ys.take n) = _ :: (xs.zip ys).take n
    rw [take_zip' n xs ys]
theorem cut_zip {ds : List D} {xs : List V} (l : xs.length = ds.length) (lo hi : Option Int) : (cutD ds lo hi).zip (cutV xs lo hi) = ((ds.zip xs).drop (HT.sIx xs.length 0 lo)).take (HT.sIx xs.length xs.length hi - HT.sIx xs.length 0 lo) := by
  unfold cutD cutV
  rw [l, take_zip', drop_zip']
theorem cut_len {ds : List D} {xs : List V} (l : xs.length = ds.length) (lo hi : Option Int) : (cutV xs lo hi).length = (cutD ds lo hi).length := by
  unfold cutD cutV
  rw [List.length_take, List.length_drop, List.length_take, List.length_drop, l]
theorem SOk.cut {ds : List D} {xs : List V} (so : SOk K F σ H s (ds.zip xs ++ hs)) (l : xs.length = ds.length) (lo hi : Option Int) : SOk K F σ H s ((cutD ds lo hi).zip (cutV xs lo hi) ++ hs) := by
  rw [cut_zip l]
  exact so.held (.refl _) (List.Sublist.append ((List.take_sublist _ _).trans (List.drop_sublist _ _)) (.refl _))
theorem px_sl {xa : X} {lo hi : Option Expr} {p2 : Pos} {xl xh : Xo} (hK : Y.K = K) (ha : PE Y a (tX K F W f)) (pa : isPk xa = true → PE Y a (tPk K F (pk xa)))
    (hl : PO Y lo (tO K F xl)) (hh : PO Y hi (tO K F xh)) :
    PE Y (.Subscript a (.Slice lo hi none p2) pos) (tX K F W fun s => (evR xa f s).bind fun x s1 => match evo xl s1, evo xh s1 with
      | some l, some h => R.of (slD x l h) s1
      | _, _ => .stk) := by
  subst hK
  refine PE.imp (pe_slice (SlR.or sl_list sl_tup) (px_r ha pa) hl hh) fun σ H Q ⟨s, hs, so, out⟩ => ⟨s, hs, so, Out.step out fun d s1 _ out v H1 rd => ?_⟩
  obtain ⟨hs1, so1⟩ : ∃ hs1, SOk Y.K F σ H1 s1 hs1 := by
    rcases rd with so1 | ⟨so1, _⟩
    · exact ⟨_, so1⟩
    · exact ⟨_, so1⟩
  cases e1 : evo xl s1 with
  | none => simp only [e1] at out; exact (show False from out).elim
  | some l =>
    cases e2 : evo xh s1 with
    | none => simp only [e1, e2] at out; exact (show False from out).elim
    | some h =>
      simp only [e1, e2] at out
      obtain ⟨y, e, out⟩ := Out.of out
      refine ⟨s1, hs1, l, so1, e1, s1, hs1, h, so1, e2, ?_⟩
      cases d with
      | lst o ds =>
        cases e
        obtain ⟨q, xs, h1, h2, h3, h4⟩ := rd.row rfl
        have hq : SqL Y.K H1 q xs := by
          rcases h4 with ⟨_, _, h4⟩ | ⟨h4, _⟩ | h4
          · exact SqL.of h4
          · cases h4
          · exact h4
        exact .inl ⟨q, xs, h1, hq, fun p hp => out _ _ ((h3.cut h2 l h).newL (cut_len h2 l h) hp)⟩
      | tup ds =>
        simp only [slD] at e
        split at e
        · rename_i hlt
          cases e
          have hlt := of_decide_eq_true hlt
          have hq : ∃ q xs, v = .ref q ∧ xs.length = ds.length ∧ SOk Y.K F σ H1 s1 (ds.zip xs ++ hs) ∧ SqT Y.K H1 q xs := by
            rcases rd with so2 | ⟨so2, ⟨ds', e', n⟩, g, hd⟩
            · obtain ⟨q, xs, a1, a2, a3, a4⟩ := so2.openT
              exact ⟨q, xs, a1, a3, a4, a2⟩
            · cases e'
              obtain ⟨q, xs, a1, a2, a3⟩ := hd
              have := DenL.nol n a3
              subst this
              refine ⟨q, xs, a1, a3.length, ?_, a2⟩
              obtain ⟨⟨E, g, l, dd, c, u⟩, k, io⟩ := so2
              refine .mk' (g := g) l ?_ c u k io
              rw [List.append_assoc]
              exact DenE.append.mpr ⟨[], g, rfl, DenE.zip a3, dd⟩
          obtain ⟨q, xs, h1, h2, h3, h4⟩ := hq
          refine .inr ⟨q, xs, h1, h4, fun ⟨z1, z2⟩ => ?_, fun p hp => out _ _ ((h3.cut h2 l h).newT (cut_len h2 l h) hp)⟩
          rw [h2] at z1 z2
          unfold cutD at hlt
          rw [z1, z2] at hlt
          simp at hlt
        · cases e
      | _ => cases e

/-! ### a list from its end -/
theorem pe_rev {X : Cx} {e : Expr} {te : TE} {pos p2 p3 p4 : Pos} {k : Nat} (he : PE X e te) : PE X (.Subscript e (.Slice none none (some (.UnaryOp .USub (.Constant (.int 1) k p3) p4)) p2) pos) (fun σ H Q => te σ H fun x H1 => ∃ a xs, x = .ref a ∧ SqL X.K H1 a xs ∧ ∀ p, H1 p = none → Q (.ref p) (upd H1 p (.lst xs.reverse))) := by
  refine ⟨fun pins s σ H Q I h => ?_⟩
  refine Subscript_ (thn (he.run pins s σ H _ I h) fun v s1 ⟨x, H1, I1, r1, a, xs, e1, hx, q⟩ => ?_)
  subst e1
  cases r1
  refine wpAny_Slice ?_
  rw [evalPart_none]
  refine wpAny_pure (wpAny_pure ?_)
  have st : PE X (.UnaryOp .USub (.Constant (.int 1) k p3) p4) _ := pe_un (pos := p4) un_neg (pe_int (i := 1) (j := k) (pos := p3))
  rw [evalPart_some]
  refine thn (st.run pins s1 σ H1 (fun x H' => x = .int (-1) ∧ H' = H1) I1 ⟨1, rfl, rfl, rfl⟩) fun vs s2 ⟨y, H2, I2, r2, e2, e3⟩ => ?_
  subst e2
  subst e3
  obtain ⟨tk, rfl⟩ := r2
  have I4 : Inv X pins σ H2 { s2 with heap := s2.heap.push { cls := .type "slice", data := .fields #[.none, .none, .int (-1) tk] } } := I2.kept (t' := s2.toks) fun b ob q => Heap.get?_push_of_some _ q
  obtain ⟨its, r, ht, hz⟩ := I4.list hx
  have hlen := r.length
  show wpAny (model X.prog X.w) X.A (subscriptTail e (.Slice none none (some (.UnaryOp .USub (.Constant (.int 1) k p3) p4)) p2) (.ref a) (.ref s2.heap.objs.size)) (EP X pins σ Q) X.xe { s2 with heap := s2.heap.push { cls := .type "slice", data := .fields #[.none, .none, .int (-1) tk] } }
  refine tail_any ht.isList.typeIs slot_list_getitem.lookup ?_ (by with_unfolding_all rfl)
  refine wpAny_getItem_list_slice ht.isList (Heap.IsSliceOf.new ..) .none .none (.int _ _) (by simp) ?_ (by rw [List.size_toArray] <;> omega)
  rw [PySem.W.krv_pick]
  refine ⟨.ref (s2.heap.push { cls := .type "slice", data := .fields #[.none, .none, .int (-1) tk] }).objs.size, _, I4.laid (t' := s2.toks) (o := .lst xs.reverse) (fun b ob q => Heap.get?_push_of_some _ q) (Nat.le_refl _) ?_, rfl, q _ (I4.hok.fresh (Nat.le_refl _))⟩
  exact ⟨by rw [List.length_reverse]; exact hz, _, 0, r.reverse, Heap.get?_push_size _ rfl⟩
theorem rev_zip {α β : Type} : ∀ {ds : List α} {xs : List β}, xs.length = ds.length → ds.reverse.zip xs.reverse = (ds.zip xs).reverse
  | [], [], _ => rfl
  | d :: ds, x :: xs, l => by
    have l' : xs.length = ds.length := by simpa using l
    rw [List.reverse_cons, List.reverse_cons, List.zip_append (by rw [List.length_reverse, List.length_reverse, l']), rev_zip l']
    show _ ++ [(d, x)] = ((d, x) :: ds.zip xs).reverse
    rw [List.reverse_cons]
theorem SOk.rev {ds : List D} {xs : List V} (so : SOk K F σ H s (ds.zip xs ++ hs)) (l : xs.length = ds.length) : SOk K F σ H s (ds.reverse.zip xs.reverse ++ hs) := by
  rw [rev_zip l]
  exact so.held (List.Perm.append_right _ (List.reverse_perm _).symm) (.refl _)
theorem px_rev {xa : X} {p2 p3 p4 : Pos} {k : Nat} (hK : Y.K = K) (ha : PE Y a (tX K F W f)) (pa : isPk xa = true → PE Y a (tPk K F (pk xa))) :
    PE Y (.Subscript a (.Slice none none (some (.UnaryOp .USub (.Constant (.int 1) k p3) p4)) p2) pos) (tX K F W fun s => (evR xa f s).bind fun x s1 => R.of (revD x) s1) := by
  subst hK
  refine PE.imp (pe_rev (px_r ha pa)) fun σ H Q ⟨s, hs, so, out⟩ => ⟨s, hs, so, Out.step out fun d s1 _ out v H1 rd => ?_⟩
  obtain ⟨y, e, out⟩ := Out.of out
  cases d with
  | lst o ds =>
    cases e
    obtain ⟨q, xs, h1, h2, h3, h4⟩ := rd.row rfl
    have hq : SqL Y.K H1 q xs := by
      rcases h4 with ⟨_, _, h4⟩ | ⟨h4, _⟩ | h4
      · exact SqL.of h4
      · cases h4
      · exact h4
    exact ⟨q, xs, h1, hq, fun p hp => out _ _ ((h3.rev h2).newL (by rw [List.length_reverse, List.length_reverse, h2]) hp)⟩
  | _ => cases e

/-! ### isinstance -/
def tyN : D → String
  | .non => "NoneType" | .bl _ => "bool" | .int _ => "int" | .str _ => "str" | .lst _ _ => "list" | .tup _ => "tuple" | .exc _ => "object" | .scr _ => "list"
def tyS : Ty → String
  | .int => "int" | .bool => "bool" | .str => "str" | .list => "list" | .tuple => "tuple" | .cls _ => "object"
def tyB : String → Ty → Bool
  | "int", .int => true
  | "bool", .int => true
  | "bool", .bool => true
  | "str", .str => true
  | "list", .list => true
  | "tuple", .tuple => true
  | _, _ => false
theorem kit_all : ∀ a ∈ ["NoneType", "bool", "int", "str", "list", "tuple"], ∀ b ∈ [Ty.int, .bool, .str, .list, .tuple], kitB a (tyS b) = some (tyB a b) := by decide +kernel
theorem tyD_eq {d : D} (he : isExc d = false) (t : Ty) (ht : ∀ c, t ≠ .cls c) : tyD t d = tyB (tyN d) t := by
  cases d <;> cases t <;> first | rfl | exact absurd rfl (ht _) | (cases he)
theorem kit_d {d : D} {t : Ty} (he : isExc d = false) (ht : ∀ c, t ≠ .cls c) : PySem.W.kitOne K (.type (tyN d)) (.type (tyS t)) = some (tyD t d) := by
  rw [tyD_eq he t ht]
  refine kit_ty (kit_all _ ?_ _ ?_)
  · cases d <;> first | (cases he; done) | simp [tyN]
  · cases t <;> first | exact absurd rfl (ht _) | simp
theorem kit_any {d : D} (he : isExc d = false) : ∀ {ts : List Ty}, (∀ t ∈ ts, ∀ c, t ≠ .cls c) → PySem.W.kitAny K (.type (tyN d)) (ts.map fun t => .type (tyS t)) = some (isiD ts d)
  | [], _ => rfl
  | t :: ts, h => by
    have h1 := kit_d (K := K) (d := d) he (h t List.mem_cons_self)
    have h2 := kit_any he fun u hu => h u (List.mem_cons_of_mem _ hu)
    refine kitAny_cons (b := tyD t d) h1 (fun e => ?_) fun e => ?_
    · show PySem.W.kitAny K (.type (tyN d)) (ts.map fun t => .type (tyS t)) = some (isiD (t :: ts) d)
      rw [h2]
      show some (isiD ts d) = some (tyD t d || isiD ts d)
      rw [e]; rfl
    · show (tyD t d || isiD ts d) = true
      rw [e]; rfl
theorem ty_den {d : D} {v : V} {g : G} (he : isExc d = false) (h : Den K H d v g) : TyX K H v (.type (tyN d)) := by
  cases d with
  | non => rw [h.1]; exact .base .non
  | bl b => rw [h.1]; exact .base (.bl b)
  | int i => rw [h.1]; exact .base (.int i)
  | str i => rw [h.1]; exact .base (.str i)
  | lst o ds => obtain ⟨a, xs, g', e, ha, _⟩ := h; rw [e]; exact .base (.lst ha)
  | tup ds =>
    obtain ⟨a, xs, e, ha, _⟩ := h
    rw [e]
    rcases ha with (ha | ⟨o, ha⟩) | ⟨o, its, n, hk, hc, _⟩
    · exact .base (.tup ha)
    · exact .fTuple ha
    · exact .kTuple hk hc
  | exc c => cases he
  | scr ns =>
    obtain ⟨a, e, ha, _⟩ := h
    rw [e]
    rcases ha with ⟨o, ha⟩ | ⟨o, its, n, hk, hc, _⟩
    · exact .base (.frz ha)
    · exact .kList hk hc
/-- the row of classes as it is written -/
def tTys (ts : List Ty) : TA := fun _ H Q => Q (ts.map fun t => V.ty (tyS t)) H
theorem pxt_nil : PA Y [] (tTys []) := PA.imp pa_nil fun σ H Q h => h
theorem ty_boot (t : Ty) (ht : ∀ c, t ≠ .cls c) : bootBuiltins (tyS t : Str) = some (.type (tyS t)) := by
  cases t <;> first | decide +kernel | exact absurd rfl (ht _)
theorem ty_name (t : Ty) : ((tyS t : Str) ≠ "__name__") ∧ (((tyS t : Str) == ("__debug__" : Str)) = false) := by
  cases t <;> (dsimp only [tyS]; exact ⟨by decide, by decide⟩)
theorem pe_ty {t : Ty} {p : Pos} (ht : ∀ c, t ≠ .cls c) (hg : Gl Y (tyS t)) (hm : Y.mg (tyS t) = none) : PE Y (.Name (tyS t) p) (tC (.ty (tyS t))) :=
  pe_bltn hg hm (ty_boot t ht) rfl (ty_name t).1 (ty_name t).2
theorem pxt_cons {t : Ty} {ts : List Ty} {p : Pos} {es : List Expr} (ht : ∀ c, t ≠ .cls c) (hg : Gl Y (tyS t)) (hm : Y.mg (tyS t) = none) (hr : PA Y es (tTys ts)) : PA Y (.Name (tyS t) p :: es) (tTys (t :: ts)) :=
  PA.imp (pa_cons (pe_ty ht hg hm) hr rfl) fun σ H Q h => h
theorem paired_cls : ∀ ts : List Ty, Paired ClsV (ts.map fun t => V.ty (tyS t)) (ts.map fun t => Value.type (tyS t))
  | [] => .nil
  | t :: ts => .cons (.ty _) (paired_cls ts)
/-- isinstance(a, T), isinstance(a, (T1, T2)): the two readings of the first argument -/
theorem px_isi {E : Expr} {r : V → Hp → VK → Prop} {xa : X} {ts : List Ty} (hK : Y.K = K) (rule : ∀ t, PE Y a t → PE Y E (fun σ H Q => t σ H fun x H1 => r x H1 Q))
    (ok : ∀ d x g H Q, isExc d = false → Den Y.K H d x g → (∀ H', (H' = H ∨ ∃ p o, H p = none ∧ H' = upd H p o) → Q (.bl (isiD ts d)) H') → r x H Q)
    (ha : PE Y a (tX K F W f)) (pa : isPk xa = true → PE Y a (tPk K F (pk xa))) : PE Y E (tX K F W (fIsi xa ts f)) := by
  subst hK
  have keep : ∀ {σ : L2.St} {s : Env} {hs : En} {H H' : Hp}, SOk Y.K F σ H s hs → (H' = H ∨ ∃ p o, H p = none ∧ H' = upd H p o) → SOk Y.K F σ H' s hs := fun {σ s hs H H'} so h => by
    rcases h with rfl | ⟨p, o, hp, rfl⟩
    · exact so
    · exact so.extN hp
  refine ⟨fun pins st σ H Q I ⟨s, hs, so, out⟩ => ?_⟩
  unfold fIsi evP at out
  cases hp : isPk xa with
  | false =>
    rw [hp] at out
    refine (rule _ ha).run pins st σ H Q I ⟨s, hs, so, Out.step out fun d s1 _ out v H1 so1 => ?_⟩
    cases he : isExc d with
    | true => rw [he] at out; exact (show False from out).elim
    | false =>
      rw [he] at out
      obtain ⟨g, hd⟩ := so1.den
      exact ok d v g H1 Q he hd fun H' hh => out _ H' ((keep so1.drop hh).atom (den_bl _))
  | true =>
    rw [hp] at out
    dsimp only at out
    cases e1 : pk xa s with
    | none => rw [e1] at out; exact (show False from out).elim
    | some d =>
      rw [e1] at out
      cases he : isExc d with
      | true => simp only [R.of, R.bind, he] at out; exact (show False from out).elim
      | false =>
        simp only [R.of, R.bind, he] at out
        refine (rule _ (pa hp)).run pins st σ H Q I ⟨s, hs, d, so, e1, fun v g hd => ?_⟩
        exact ok d v g H Q he hd fun H' hh => (show ∀ v H', SOk Y.K F σ H' s ((.bl (isiD ts d), v) :: hs) → Q v H' from out) _ H' ((keep so hh).atom (den_bl _))
theorem px_isi1 {xa : X} {t : Ty} {p p2 : Pos} (hK : Y.K = K) (ht : ∀ c, t ≠ .cls c) (hg : Gl Y "isinstance") (hm : Y.mg "isinstance" = none) (hg2 : Gl Y (tyS t)) (hm2 : Y.mg (tyS t) = none) (hst : ∀ z p, a ≠ .Starred z p)
    (ha : PE Y a (tX K F W f)) (pa : isPk xa = true → PE Y a (tPk K F (pk xa))) : PE Y (.Call (.Name "isinstance" p) [a, .Name (tyS t) p2] [] pos) (tX K F W (fIsi xa [t] f)) := by
  refine px_isi (r := fun x H Q => rIsi Y.K [x, .ty (tyS t)] H Q) hK (fun t' h => pe_callB call_isi hg hm PyProof.Rows.boot_isinstance (pa_cons h (pa_cons (pe_ty ht hg2 hm2) pa_nil rfl) (star_plain hst)) (by decide) (by decide) (star_plain hst) rfl) (fun d x g H Q he hd q => ?_) ha pa
  exact ⟨x, _, _, _, _, rfl, .ty _, ty_den he hd, kit_d he ht, by
    have := q H (.inl rfl)
    rw [show isiD [t] d = tyD t d from Bool.or_false _] at this
    exact this⟩
theorem px_isiT {xa : X} {ts : List Ty} {es : List Expr} {k : Nat} {p p2 : Pos} (hK : Y.K = K) (ht : ∀ t ∈ ts, ∀ c, t ≠ .cls c) (hg : Gl Y "isinstance") (hm : Y.mg "isinstance" = none) (hl : lenOk ts.length = true) (hes : PA Y es (tTys ts)) (hst : ∀ z p, a ≠ .Starred z p)
    (ha : PE Y a (tX K F W f)) (pa : isPk xa = true → PE Y a (tPk K F (pk xa))) : PE Y (.Call (.Name "isinstance" p) [a, .Tuple es k p2] [] pos) (tX K F W (fIsi xa ts f)) := by
  refine px_isi (r := fun x H Q => (ts.map fun t => V.ty (tyS t)).length ≤ sizeLine ∧ ∀ q, H q = none → rIsiT Y.K [x, .ref q] (upd H q (.tup (ts.map fun t => V.ty (tyS t)))) Q) hK (fun t' h => ?_) (fun d x g H Q he hd q => ?_) ha pa
  · exact pe_callB call_isiT hg hm PyProof.Rows.boot_isinstance (pa_cons h (pa_cons (pe_tup hes) pa_nil rfl) (star_plain hst)) (by decide) (by decide) (star_plain hst) rfl
  · refine ⟨by rw [List.length_map]; exact lenOk_le hl, fun p hp => ⟨x, p, _, _, _, _, rfl, upd_same, paired_cls ts, ?_, kit_any he ht, q _ (.inr ⟨p, _, hp, rfl⟩)⟩⟩
    exact ty_den he (hd.ext (Ext.new hp) fun _ _ z => z)

/-! ### pop, join -/
theorem px_pop {i : Nat} {x : Str} {p ap : Pos} (hK : Y.K = K) (hv : PE Y (.Name x p) (tVar i)) (hline : (ap.endLine == pos.line) = true) :
    PE Y (.Call (.Attribute (.Name x p) "pop" ap) [] [] pos) (tX K F W (fPop i)) := by
  subst hK
  refine PE.imp (pe_bm0 PySem.F.plainAttrs_list PySem.F.slot_list_pop PySem.F.type_list_pop mt_pop hv rfl hline) fun σ H Q ⟨s, hs, so, out⟩ => ?_
  unfold fPop at out
  split at out
  · rename_i ds e
    split at out
    · rename_i d e2
      have e0 := e
      obtain ⟨v, hv, so1⟩ := so.move e
      obtain ⟨a, xs, ev, ha, l, so2⟩ := so1.openD
      subst ev
      have hne : ds ≠ [] := fun z => by rw [z] at e2; cases e2
      have hx : xs ≠ [] := fun z => by rw [z] at l; exact hne (List.length_eq_zero_iff.mp l.symm)
      have el : xs[xs.length - 1]? = some (xs.getLast hx) := by
        rw [← List.getLast?_eq_getElem?, List.getLast?_eq_some_getLast hx]
      have ed : ds.getLast hne = d := by
        rw [List.getLast?_eq_some_getLast hne] at e2
        exact Option.some.inj e2
      have dz : ds.zip xs = ds.dropLast.zip xs.dropLast ++ [(d, xs.getLast hx)] := by
        have h1 : ds = ds.dropLast ++ [d] := by rw [← ed]; exact (List.dropLast_concat_getLast hne).symm
        have h2 : xs = xs.dropLast ++ [xs.getLast hx] := (List.dropLast_concat_getLast hx).symm
        have l2 : ds.dropLast.length = xs.dropLast.length := by rw [List.length_dropLast, List.length_dropLast, l]
        calc ds.zip xs = (ds.dropLast ++ [d]).zip (xs.dropLast ++ [xs.getLast hx]) := by rw [← h1, ← h2]
          _ = _ := by rw [List.zip_append l2]; rfl
      refine ⟨_, hv, .inl ⟨rfl, xs, SqL.of ha⟩, a, xs, _, rfl, rfl, ha, el, out _ _ ?_⟩
      refine so.write (E2 := (d, xs.getLast hx) :: hs) e0 hv ha (by rw [List.length_dropLast, List.length_dropLast, l]) ?_
      rw [dz, List.append_assoc]
      exact List.Perm.refl _
    · exact (show False from out).elim
  · exact (show False from out).elim
end
end MP
set_option linter.all false
set_option maxRecDepth 100000
set_option maxHeartbeats 4000000
/-! MiniPy: calls of the text's own defs. -/
namespace MP
open PySem PySem.Spec PyProof.Rows L2

/-! ### what a def promises -/
def Post (K : PySem.W.Frag) (H : Hp) (g : G) (rs : List D) (vs : List V) (H' : Hp) : Prop :=
  Ext (fun a => (a, true) ∈ g) H H' ∧ ∃ g', DenL K H' rs vs g' ∧ Cl g' ∧ ∀ p ∈ g', H p.1 = none ∨ ∃ b, (p.1, b) ∈ g ∧ (p.2 = true → b = true)
def pickV (io : List Nat) (vs : List V) : List V := io.map fun i => vs.getD i .non
def spI (K : PySem.W.Frag) (io : List Nat) (run : List D → CR) : Sp := fun vs H Q E => ∃ ds g, DenL K H ds vs g ∧ Cl g ∧ (match run ds with
  | .ok r os => os.length = io.length ∧ ∀ v H', Post K H g (r :: os) (v :: pickV io vs) H' → Q v H'
  | .exc c os => os.length = io.length ∧ ∀ H', Post K H g os (pickV io vs) H' → E (.ref (He.ga K c)) none H'
  | .stk => False)
/-- a def keeps its promise where no repr is under way -/
structure FnG (P : Program) (w : World) (K : PySem.W.Frag) (mg : Str → Option Value) (base : Heap) (k : Nat) (f : Addr) (fd : FuncData) (ps : List Str) (sp : Sp) : Prop where
  len : ∀ vs H Q E, sp vs H Q E → vs.length = ps.length
  run : ∀ (A : Around) (outer : List PySem.Env) (s : Shared) (H : Hp) (args : Args) (us : List Value) (vs : List V) (Q : VK) (E : XK), Room k A → A.guards = some [] → Env0 P w K mg base A outer s H → BindsTo s fd args (ps.zip us) →
    Vals vs us → sp vs H Q E → codeAny (model P w) A (.call (.ref f) args) (L2.CR (L2N.CX P w) outer P w H s Q E) s

mutual
theorem shr_shr : ∀ d : D, shr (shr d) = shr d
  | .non => rfl | .bl _ => rfl | .int _ => rfl | .str _ => rfl | .exc _ => rfl | .scr _ => rfl
  | .lst _ xs => by simp only [shr, shrs_shrs xs]
  | .tup xs => by simp only [shr, shrs_shrs xs]
theorem shrs_shrs : ∀ ds : List D, shrs (shrs ds) = shrs ds
  | [] => rfl
  | d :: ds => by simp only [shrs, shr_shr d, shrs_shrs ds]
end
section
variable {K : PySem.W.Frag} {H H' : Hp} {F : Fr} {W : WX} {σ : L2.St} {s : Env} {hs : En}
mutual
theorem Den.low : ∀ {d : D} {v : V} {g : G}, shr d = d → Den K H d v g → ∀ p ∈ g, p.2 = false
  | .non, _, _, _, ⟨_, h⟩ => by simp [h]
  | .bl _, _, _, _, ⟨_, h⟩ => by simp [h]
  | .int _, _, _, _, ⟨_, h⟩ => by simp [h]
  | .str _, _, _, _, ⟨_, h⟩ => by simp [h]
  | .lst o ds, _, _, e, ⟨a, xs, g', _, _, eg, q⟩ => by
    simp only [MP.shr, D.lst.injEq] at e
    intro p hp
    rw [eg] at hp
    rcases List.mem_cons.mp hp with rfl | hp
    · exact e.1.symm
    · exact DenL.low e.2 q p hp
  | .tup ds, _, _, e, ⟨a, xs, _, _, q⟩ => by
    simp only [MP.shr, D.tup.injEq] at e
    exact DenL.low e q
  | .exc _, _, _, _, h => h.elim
  | .scr _, _, _, _, ⟨_, _, _, h⟩ => by simp [h]
theorem DenL.low : ∀ {ds : List D} {xs : List V} {g : G}, shrs ds = ds → DenL K H ds xs g → ∀ p ∈ g, p.2 = false
  | [], _, _, _, ⟨_, h⟩ => by simp [h]
  | d :: ds, _, _, e, ⟨y, xs', g1, g2, _, eg, h1, h2⟩ => by
    simp only [shrs, List.cons.injEq] at e
    intro p hp
    rw [eg] at hp
    rcases List.mem_append.mp hp with hp | hp
    · exact Den.low e.1 h1 p hp
    · exact DenL.low e.2 h2 p hp
end
def slotV (σ : L2.St) (i : Nat) : V := match σ[i]? with
  | some (some v) => v
  | _ => .non
def fillV : As → List V → L2.St → List V
  | .nil, _, _ => []
  | .lent i as, vs, σ => slotV σ i :: fillV as vs σ
  | .gone i as, vs, σ => slotV σ i :: fillV as vs σ
  | .io i as, vs, σ => slotV σ i :: fillV as vs σ
  | .val _ as, v :: vs, σ => v :: fillV as vs σ
  | .own _ as, v :: vs, σ => v :: fillV as vs σ
  | .val _ _, [], _ => []
  | .own _ _, [], _ => []
theorem slotV_of {i : Nat} {v : V} (h : σ[i]? = some (some v)) : slotV σ i = v := by unfold slotV; rw [h]
theorem getv_set_ne {s : Env} {i j : Nat} {o : Option D} (h : j ≠ i) : getv (s.set j o) i = getv s i := by
  unfold getv
  rw [List.getElem?_set_ne h]
theorem getv_set_none {s : Env} {i : Nat} : getv (s.set i none) i = none := by
  unfold getv
  by_cases h : i < s.length
  · rw [List.getElem?_set_self h]; rfl
  · rw [List.getElem?_eq_none (by simpa using h)]; rfl
theorem getv_wipe {s : Env} {j : Nat} : ∀ {l : List Nat}, j ∉ l → getv (wipeE s l) j = getv s j
  | [], _ => rfl
  | i :: l, h => by
    simp only [List.mem_cons, not_or] at h
    unfold wipeE
    rw [getv_set_ne (Ne.symm h.1), getv_wipe h.2]
theorem wipe_comm {s : Env} {i : Nat} : ∀ {l : List Nat}, wipeE (s.set i none) l = (wipeE s l).set i none
  | [] => rfl
  | j :: l => by
    unfold wipeE
    rw [wipe_comm]
    by_cases h : i = j
    · subst h; rfl
    · rw [List.set_comm _ _ h]
theorem fillA_set {i : Nat} {o : Option D} : ∀ {as : As} {vs : List D} {s : Env}, i ∉ ioA as → i ∉ goneA as → i ∉ lentA as → fillA as vs (s.set i o) = fillA as vs s
  | .nil, _, _, _, _, _ => rfl
  | .lent j as, vs, s, h1, h2, h3 => by
    simp only [lentA, List.mem_cons, not_or] at h3
    simp only [fillA, getv_set_ne h3.1, fillA_set (as := as) h1 h2 h3.2]
  | .gone j as, vs, s, h1, h2, h3 => by
    simp only [goneA, List.mem_cons, not_or] at h2
    simp only [fillA, getv_set_ne h2.1, fillA_set (as := as) h1 h2.2 h3]
  | .io j as, vs, s, h1, h2, h3 => by
    simp only [ioA, List.mem_cons, not_or] at h1
    simp only [fillA, getv_set_ne h1.1, fillA_set (as := as) h1.2 h2 h3]
  | .val _ as, v :: vs, s, h1, h2, h3 => by
    simp only [fillA, fillA_set (as := as) h1 h2 h3]
  | .own _ as, v :: vs, s, h1, h2, h3 => by
    simp only [fillA, fillA_set (as := as) h1 h2 h3]
  | .val _ _, [], _, _, _, _ => rfl
  | .own _ _, [], _, _, _, _ => rfl

/-- the arguments' footprint beside the rest's; t: every lent slot is shared already -/
structure ArgsOk (K : PySem.W.Frag) (F : Fr) (σ : L2.St) (H : Hp) (s : Env) (hs : En) (ds : List D) (vs : List V) (t : Prop) : Prop where
  ex : ∃ gA gh gE E, DenL K H ds vs gA ∧ Live σ s E ∧ DenE K H hs gh ∧ DenE K H E gE ∧ Cl gA ∧ Cl (gh ++ gE) ∧ Sub F gA ∧ Sub F (gh ++ gE) ∧ (∀ p ∈ gA, ∀ q ∈ gh, Ap p q) ∧ (∀ p ∈ gA, p.2 = true → ∀ q ∈ gE, q.1 ≠ p.1) ∧ (t → ∀ p ∈ gA, ∀ q ∈ gE, Ap p q)
theorem args_ok {t : Prop} : ∀ (as : As) {vs : List D} {vals : List V} {s : Env} {hs : En} {ds : List D}, SOk K F σ H s (vs.zip vals ++ hs) → vals.length = vs.length → fillA as vs s = some ds → (ioA as ++ goneA as).Nodup → (∀ i ∈ ioA as ++ goneA as, i ∉ lentA as) →
    (t → ∀ i ∈ lentA as, ∀ d, getv s i = some d → shr d = d) → ArgsOk K F σ H (wipeE s (ioA as ++ goneA as)) hs ds (fillV as vals σ) t
  | .nil, vs, vals, s, hs, ds, so, l, e, _, _, _ => by
    cases e
    have so2 : SOk K F σ H s hs := so.held (.refl _) (List.sublist_append_right _ _)
    obtain ⟨⟨E, g, li, dd, c, u⟩, k, io⟩ := so2
    obtain ⟨gh, gE, eg, h1, h2⟩ := DenE.append.mp dd
    subst eg
    exact ⟨⟨[], gh, gE, E, ⟨rfl, rfl⟩, li, h1, h2, List.Pairwise.nil, c, (fun _ h => by cases h), u, (fun _ h => by cases h), (fun _ h => by cases h), (fun _ _ h => by cases h)⟩⟩
  | .lent i as, vs, vals, s, hs, ds, so, l, e, nd, nl, ht => by
    simp only [fillA] at e
    split at e
    · rename_i d ds' e1 e2
      cases e
      have ni : i ∉ ioA as ++ goneA as := fun z => nl i z (by simp [lentA])
      obtain ⟨gA, gh, gE, E, a1, a2, a3, a4, a5, a6, a7, a8, a9, a10, a11⟩ := (args_ok (t := t) as so l e2 nd (fun j hj z => nl j hj (by simp [lentA, z])) (fun tt j hj d hd => ht tt j (by simp [lentA, hj]) d hd)).ex
      have e3 : getv (wipeE s (ioA as ++ goneA as)) i = some d := by rw [getv_wipe ni]; exact e1
      obtain ⟨v, E1, E2, b1, b2, b3, b4⟩ := a2.get e3
      rw [b2] at a4
      obtain ⟨k1, k2, ek, c1, c2⟩ := DenE.append.mp a4
      obtain ⟨k3, k4, ek2, c3, c4⟩ := DenE.cons.mp c2
      have c3 : Den K H d v k3 := c3
      have mem : ∀ p ∈ k3, p ∈ gE := fun p hp => by rw [ek, ek2]; simp [hp]
      have mlow : ∀ p ∈ MP.low k3, p.2 = false ∧ ∃ b, (p.1, b) ∈ gE := fun p hp => by
        obtain ⟨h1, b, h2⟩ := mem_low hp
        exact ⟨h1, b, mem _ h2⟩
      show ArgsOk K F σ H (wipeE s (ioA as ++ goneA as)) hs (shr d :: ds') (slotV σ i :: fillV as vals σ) t
      rw [slotV_of b1]
      refine ⟨⟨MP.low k3 ++ gA, gh, gE, E, ⟨v, _, _, _, rfl, rfl, c3.shr, a1⟩, a2, a3, by rw [b2]; exact a4, Cl.append.mpr ⟨Cl.low _, a5, fun p hp q hq z => ?_⟩, a6, Sub.append.mpr ⟨?_, a7⟩, a8, fun p hp q hq z => ?_, fun p hp z q hq => ?_, fun tt p hp q hq z => ?_⟩⟩
      · obtain ⟨h1, b, h2⟩ := mlow p hp
        refine ⟨h1, ?_⟩
        cases hq2 : q.2 with
        | false => rfl
        | true => exact absurd z (a10 q hq hq2 (p.1, b) h2)
      · exact Sub.low fun p hp => (Sub.append.mp a8).2 p (mem p hp)
      · rcases List.mem_append.mp hp with hp | hp
        · obtain ⟨h1, b, h2⟩ := mlow p hp
          exact ⟨h1, ((Cl.append.mp a6).2.2 q hq _ h2 z.symm).1⟩
        · exact a9 p hp q hq z
      · rcases List.mem_append.mp hp with hp | hp
        · rw [(mlow p hp).1] at z; cases z
        · exact a10 p hp z q hq
      · rcases List.mem_append.mp hp with hp | hp
        · obtain ⟨h1, b, h2⟩ := mem_low hp
          have hlow : ∀ r ∈ k3, r.2 = false := c3.low (ht tt i (by simp [lentA]) d e1)
          have hb : b = false := hlow _ h2
          refine ⟨h1, ?_⟩
          -- the address stands in gE unshared: q is shared too
          have cE : Cl gE := (Cl.append.mp a6).2.1
          by_cases hq2 : q = (p.1, b)
          · rw [hq2]; exact hb
          · have pq : ∀ {l : G}, Cl l → (p.1, b) ∈ l → q ∈ l → Ap (p.1, b) q := fun {l} cl m1 m2 => by
              induction l with
              | nil => cases m1
              | cons x l ih =>
                obtain ⟨y1, y2⟩ := Cl.cons.mp cl
                rcases List.mem_cons.mp m1 with e1 | m1
                · rcases List.mem_cons.mp m2 with e2 | m2
                  · exact absurd (e2.trans e1.symm) hq2
                  · rw [e1]; exact y1 q m2
                · rcases List.mem_cons.mp m2 with e2 | m2
                  · rw [e2]; exact (y1 _ m1).symm
                  · exact ih y2 m1 m2
            exact (pq cE (mem _ h2) hq z).2
        · exact a11 tt p hp q hq z
    · cases e
  | .gone i as, vs, vals, s, hs, ds, so, l, e, nd, nl, ht => by
    simp only [fillA] at e
    split at e
    · rename_i d ds' e1 e2
      cases e
      have nd' : (i :: (ioA as ++ goneA as)).Nodup := (List.perm_middle (l₁ := ioA as) (l₂ := goneA as) (a := i)).nodup_iff.mp nd
      obtain ⟨ni, nd2⟩ := List.nodup_cons.mp nd'
      have nli : i ∉ lentA as := nl i (by simp [goneA])
      obtain ⟨v, hv, so1⟩ := so.move e1
      have so2 : SOk K F σ H (s.set i none) (vs.zip vals ++ ((shr d, v) :: hs)) := so1.shrH.held List.perm_middle.symm (.refl _)
      have nm : ∀ j ∈ ioA as ++ goneA as, j ≠ i := fun j hj z => ni (z ▸ hj)
      have e2' : fillA as vs (s.set i none) = some ds' := by
        rw [fillA_set (fun z => ni (List.mem_append_left _ z)) (fun z => ni (List.mem_append_right _ z)) nli]; exact e2
      obtain ⟨gA, gh, gE, E, a1, a2, a3, a4, a5, a6, a7, a8, a9, a10, a11⟩ := (args_ok (t := t) as so2 l e2' nd2 (fun j hj z => nl j (by simp only [ioA, goneA, List.mem_append, List.mem_cons] at hj ⊢; rcases hj with h | h <;> simp [h]) z) (fun tt j hj d' hd => ht tt j hj d' (by rw [getv_set_ne (fun z : i = j => nli (by rw [z]; exact hj))] at hd; exact hd))).ex
      obtain ⟨g1, g2, eg, b1, b2⟩ := DenE.cons.mp a3
      subst eg
      have c6 := Cl.append.mp a6
      have c8 := Sub.append.mp a8
      have h12 := Cl.append.mp c6.1
      have b1 : Den K H (shr d) v g1 := b1
      have hlow : ∀ r ∈ g1, r.2 = false := b1.low (shr_shr d)
      have ew : wipeE s (ioA (.gone i as) ++ goneA (.gone i as)) = wipeE (s.set i none) (ioA as ++ goneA as) := by
        show wipeE s (ioA as ++ i :: goneA as) = _
        have : ∀ (l1 l2 : List Nat), wipeE s (l1 ++ i :: l2) = (wipeE s (l1 ++ l2)).set i none := fun l1 l2 => by
          induction l1 with
          | nil => rfl
          | cons j l1 ih =>
            show (wipeE s (l1 ++ i :: l2)).set j none = ((wipeE s (l1 ++ l2)).set j none).set i none
            rw [ih]
            by_cases h : i = j
            · subst h; rfl
            · rw [List.set_comm _ _ h]
        rw [this, wipe_comm]
      rw [ew]
      show ArgsOk K F σ H _ hs (shr d :: ds') (slotV σ i :: fillV as vals σ) t
      rw [slotV_of hv]
      exact ⟨⟨g1 ++ gA, g2, gE, E, ⟨v, _, _, _, rfl, rfl, b1, a1⟩, a2, b2, a4, Cl.append.mpr ⟨h12.1, a5, fun p hp q hq => (a9 q hq p (List.mem_append_left _ hp)).symm⟩, Cl.append.mpr ⟨h12.2.1, c6.2.1, fun p hp q hq => c6.2.2 p (List.mem_append_right _ hp) q hq⟩, Sub.append.mpr ⟨(Sub.append.mp c8.1).1, a7⟩, Sub.append.mpr ⟨(Sub.append.mp c8.1).2, c8.2⟩,
        fun p hp q hq => (List.mem_append.mp hp).elim (fun h => h12.2.2 p h q hq) fun h => a9 p h q (List.mem_append_right _ hq), fun p hp z q hq => (List.mem_append.mp hp).elim (fun h => by rw [hlow p h] at z; cases z) fun h => a10 p h z q hq,
        fun tt p hp q hq => (List.mem_append.mp hp).elim (fun h => c6.2.2 p (List.mem_append_left _ h) q hq) fun h => a11 tt p h q hq⟩⟩
    · cases e
  | .io i as, vs, vals, s, hs, ds, so, l, e, nd, nl, ht => by
    simp only [fillA] at e
    split at e
    · rename_i d ds' e1 e2
      cases e
      obtain ⟨ni, nd2⟩ := List.nodup_cons.mp (show (i :: (ioA as ++ goneA as)).Nodup from nd)
      have nli : i ∉ lentA as := nl i (by simp [ioA])
      obtain ⟨v, hv, so1⟩ := so.move e1
      have so2 : SOk K F σ H (s.set i none) (vs.zip vals ++ ((d, v) :: hs)) := so1.held List.perm_middle.symm (.refl _)
      have e2' : fillA as vs (s.set i none) = some ds' := by
        rw [fillA_set (fun z => ni (List.mem_append_left _ z)) (fun z => ni (List.mem_append_right _ z)) nli]; exact e2
      obtain ⟨gA, gh, gE, E, a1, a2, a3, a4, a5, a6, a7, a8, a9, a10, a11⟩ := (args_ok (t := t) as so2 l e2' nd2 (fun j hj z => nl j (List.mem_cons_of_mem _ hj) z) (fun tt j hj d' hd => ht tt j hj d' (by rw [getv_set_ne (fun z : i = j => nli (by rw [z]; exact hj))] at hd; exact hd))).ex
      obtain ⟨g1, g2, eg, b1, b2⟩ := DenE.cons.mp a3
      subst eg
      have c6 := Cl.append.mp a6
      have c8 := Sub.append.mp a8
      have h12 := Cl.append.mp c6.1
      have b1 : Den K H d v g1 := b1
      have ew : wipeE s (ioA (.io i as) ++ goneA (.io i as)) = wipeE (s.set i none) (ioA as ++ goneA as) := by
        show (wipeE s (ioA as ++ goneA as)).set i none = _
        rw [wipe_comm]
      rw [ew]
      show ArgsOk K F σ H _ hs (d :: ds') (slotV σ i :: fillV as vals σ) t
      rw [slotV_of hv]
      exact ⟨⟨g1 ++ gA, g2, gE, E, ⟨v, _, _, _, rfl, rfl, b1, a1⟩, a2, b2, a4, Cl.append.mpr ⟨h12.1, a5, fun p hp q hq => (a9 q hq p (List.mem_append_left _ hp)).symm⟩, Cl.append.mpr ⟨h12.2.1, c6.2.1, fun p hp q hq => c6.2.2 p (List.mem_append_right _ hp) q hq⟩, Sub.append.mpr ⟨(Sub.append.mp c8.1).1, a7⟩, Sub.append.mpr ⟨(Sub.append.mp c8.1).2, c8.2⟩,
        fun p hp q hq => (List.mem_append.mp hp).elim (fun h => h12.2.2 p h q hq) fun h => a9 p h q (List.mem_append_right _ hq), fun p hp z q hq => (List.mem_append.mp hp).elim (fun h e3 => by
          have := (c6.2.2 p (List.mem_append_left _ h) q hq e3.symm).1
          rw [z] at this; cases this) fun h => a10 p h z q hq,
        fun tt p hp q hq => (List.mem_append.mp hp).elim (fun h => c6.2.2 p (List.mem_append_left _ h) q hq) fun h => a11 tt p h q hq⟩⟩
    · cases e
  | .val x as, w :: vs, v :: vals, s, hs, ds, so, l, e, nd, nl, ht => by
    simp only [fillA] at e
    cases e2 : fillA as vs s with
    | none => rw [e2] at e; cases e
    | some ds' =>
      rw [e2] at e
      cases e
      have so1 : SOk K F σ H s ((w, v) :: (vs.zip vals ++ hs)) := so
      have so2 : SOk K F σ H s (vs.zip vals ++ ((shr w, v) :: hs)) := so1.shrH.held List.perm_middle.symm (.refl _)
      obtain ⟨gA, gh, gE, E, a1, a2, a3, a4, a5, a6, a7, a8, a9, a10, a11⟩ := (args_ok (t := t) as so2 (by simpa using l) e2 nd nl ht).ex
      obtain ⟨g1, g2, eg, b1, b2⟩ := DenE.cons.mp a3
      subst eg
      have c6 := Cl.append.mp a6
      have c8 := Sub.append.mp a8
      have h12 := Cl.append.mp c6.1
      have b1 : Den K H (shr w) v g1 := b1
      have hlow : ∀ r ∈ g1, r.2 = false := b1.low (shr_shr w)
      exact ⟨⟨g1 ++ gA, g2, gE, E, ⟨v, _, _, _, rfl, rfl, b1, a1⟩, a2, b2, a4, Cl.append.mpr ⟨h12.1, a5, fun p hp q hq => (a9 q hq p (List.mem_append_left _ hp)).symm⟩, Cl.append.mpr ⟨h12.2.1, c6.2.1, fun p hp q hq => c6.2.2 p (List.mem_append_right _ hp) q hq⟩, Sub.append.mpr ⟨(Sub.append.mp c8.1).1, a7⟩, Sub.append.mpr ⟨(Sub.append.mp c8.1).2, c8.2⟩,
        fun p hp q hq => (List.mem_append.mp hp).elim (fun h => h12.2.2 p h q hq) fun h => a9 p h q (List.mem_append_right _ hq), fun p hp z q hq => (List.mem_append.mp hp).elim (fun h => by rw [hlow p h] at z; cases z) fun h => a10 p h z q hq,
        fun tt p hp q hq => (List.mem_append.mp hp).elim (fun h => c6.2.2 p (List.mem_append_left _ h) q hq) fun h => a11 tt p h q hq⟩⟩
  | .own x as, w :: vs, v :: vals, s, hs, ds, so, l, e, nd, nl, ht => by
    simp only [fillA] at e
    cases e2 : fillA as vs s with
    | none => rw [e2] at e; cases e
    | some ds' =>
      rw [e2] at e
      cases e
      have so1 : SOk K F σ H s ((w, v) :: (vs.zip vals ++ hs)) := so
      have so2 : SOk K F σ H s (vs.zip vals ++ ((w, v) :: hs)) := so1.held List.perm_middle.symm (.refl _)
      obtain ⟨gA, gh, gE, E, a1, a2, a3, a4, a5, a6, a7, a8, a9, a10, a11⟩ := (args_ok (t := t) as so2 (by simpa using l) e2 nd nl ht).ex
      obtain ⟨g1, g2, eg, b1, b2⟩ := DenE.cons.mp a3
      subst eg
      have c6 := Cl.append.mp a6
      have c8 := Sub.append.mp a8
      have h12 := Cl.append.mp c6.1
      have b1 : Den K H w v g1 := b1
      exact ⟨⟨g1 ++ gA, g2, gE, E, ⟨v, _, _, _, rfl, rfl, b1, a1⟩, a2, b2, a4, Cl.append.mpr ⟨h12.1, a5, fun p hp q hq => (a9 q hq p (List.mem_append_left _ hp)).symm⟩, Cl.append.mpr ⟨h12.2.1, c6.2.1, fun p hp q hq => c6.2.2 p (List.mem_append_right _ hp) q hq⟩, Sub.append.mpr ⟨(Sub.append.mp c8.1).1, a7⟩, Sub.append.mpr ⟨(Sub.append.mp c8.1).2, c8.2⟩,
        fun p hp q hq => (List.mem_append.mp hp).elim (fun h => h12.2.2 p h q hq) fun h => a9 p h q (List.mem_append_right _ hq), fun p hp z q hq => (List.mem_append.mp hp).elim (fun h e3 => by
          have := (c6.2.2 p (List.mem_append_left _ h) q hq e3.symm).1
          rw [z] at this; cases this) fun h => a10 p h z q hq,
        fun tt p hp q hq => (List.mem_append.mp hp).elim (fun h => c6.2.2 p (List.mem_append_left _ h) q hq) fun h => a11 tt p h q hq⟩⟩
  | .val _ _, [], _, _, _, _, _, _, e, _, _, _ => by cases e
  | .own _ _, [], _, _, _, _, _, _, e, _, _, _ => by cases e
  | .val _ _, _ :: _, [], _, _, _, _, l, _, _, _, _ => by simp at l
  | .own _ _, _ :: _, [], _, _, _, _, l, _, _, _, _ => by simp at l

/-- behind the call -/
theorem ArgsOk.after {t : Prop} {ds : List D} {vs : List V} (x : ArgsOk K F σ H s hs ds vs t) (k : Kept F H) (io : ∀ p ∈ F.io, σ[p.1]? = some (some p.2)) :
    ∃ gA, DenL K H ds vs gA ∧ Cl gA ∧ ∀ rs us H', (owns rs = true ∨ t) → Post K H gA rs us H' → us.length = rs.length ∧ SOk K F σ H' s (rs.zip us ++ hs) := by
  obtain ⟨gA, gh, gE, E, a1, a2, a3, a4, a5, a6, a7, a8, a9, a10, a11⟩ := x.ex
  refine ⟨gA, a1, a5, fun rs us H' ho ⟨x1, g', d', c', f'⟩ => ⟨d'.length, ?_⟩⟩
  -- what the rest holds is not the callee's
  have rest : ∀ q ∈ gh ++ gE, ¬ (q.1, true) ∈ gA := fun q hq z => by
    rcases List.mem_append.mp hq with hq | hq
    · have := (a9 _ z q hq rfl).1
      cases this
    · exact a10 _ z rfl q hq rfl
  have rd : DenE K H (hs ++ E) (gh ++ gE) := DenE.append.mpr ⟨gh, gE, rfl, a3, a4⟩
  have rd' := DenE.ext x1 rd rest
  have dom := DenE.dom rd
  have cross : ∀ p ∈ g', ∀ q ∈ gh ++ gE, Ap p q := fun p hp q hq z => by
    rcases f' p hp with fr | ⟨b, hb, hb2⟩
    · obtain ⟨xs, e⟩ := dom q hq
      rw [← z, fr] at e; cases e
    · rcases List.mem_append.mp hq with hq | hq
      · have := a9 _ hb q hq z
        refine ⟨?_, this.2⟩
        cases h2 : p.2 with
        | false => rfl
        | true => rw [hb2 h2] at this; cases this.1
      · rcases ho with ho | tt
        · have h2 := shrs_own d' ho p hp
          rw [hb2 h2] at hb
          exact absurd z.symm (a10 _ hb rfl q hq)
        · have := a11 tt _ hb q hq z
          refine ⟨?_, this.2⟩
          cases h2 : p.2 with
          | false => rfl
          | true => rw [hb2 h2] at this; cases this.1
  refine .mk' (g := g' ++ (gh ++ gE)) a2 ?_ (Cl.append.mpr ⟨c', a6, cross⟩) (Sub.append.mpr ⟨fun p hp => ?_, a8⟩) (fun b o eb n => ?_) io
  · rw [List.append_assoc]
    exact DenE.append.mpr ⟨g', gh ++ gE, rfl, DenE.zip d', rd'⟩
  · rcases f' p hp with fr | ⟨b, hb, hb2⟩
    · rcases k.free fr with z | z
      · exact .inl z
      · exact .inr ⟨true, z, fun _ => rfl⟩
    · rcases a7 _ hb with z | ⟨b', h1, h2⟩
      · exact .inl z
      · exact .inr ⟨b', h1, fun z => h2 (hb2 z)⟩
  · refine x1.keep b o (k b o eb n) fun z => ?_
    rcases a7 _ z with y | ⟨b', h1, h2⟩
    · rw [eb] at y; cases y
    · rw [h2 rfl] at h1; exact n h1
def shr1 (i : Nat) (s : Env) : Env := match getv s i with
      | some d => s.set i (some (shr d))
      | none => s
theorem getv_shrAll {j : Nat} : ∀ {l : List Nat} {s : Env}, getv (shrAll l s) j = if j ∈ l then (getv s j).map shr else getv s j
  | [], s => by simp [shrAll]
  | i :: l, s => by
    have e1 : getv (shr1 i s) j = if i = j then (getv s j).map shr else getv s j := by
      unfold shr1
      by_cases h : i = j
      · subst h
        rw [if_pos rfl]
        cases e : getv s i with
        | none => dsimp only; rw [e]; rfl
        | some d =>
          dsimp only
          unfold getv at e ⊢
          have hi : i < s.length := by
            by_cases hi : i < s.length
            · exact hi
            · rw [List.getElem?_eq_none (by simpa using hi)] at e; cases e
          rw [List.getElem?_set_self hi]
          rfl
      · rw [if_neg h]
        cases e : getv s i with
        | none => rfl
        | some d => exact getv_set_ne h
    show getv (shrAll l (shr1 i s)) j = _
    rw [getv_shrAll, e1]
    by_cases h : i = j
    · subst h
      simp only [List.mem_cons, true_or, if_true]
      split
      · cases getv s i with
        | none => rfl
        | some d => simp [shr_shr]
      · rfl
    · have h' : ¬ j = i := fun z => h z.symm
      simp only [List.mem_cons, h', false_or, if_neg h]
theorem SOk.shrAll : ∀ {l : List Nat} {s : Env}, SOk K F σ H s hs → SOk K F σ H (shrAll l s) hs
  | [], _, so => so
  | i :: l, s, so => by
    unfold MP.shrAll
    cases e : getv s i with
    | none => exact SOk.shrAll so
    | some d =>
      obtain ⟨v, hv, so1⟩ := so.move e
      have so2 := so1.shrH.back hv
      rw [List.set_set] at so2
      exact SOk.shrAll so2
theorem fillA_shr {l : List Nat} : ∀ {as : As} {vs : List D} {s : Env}, (∀ i ∈ ioA as, i ∉ l) → fillA as vs (MP.shrAll l s) = fillA as vs s
  | .nil, _, _, _ => rfl
  | .lent j as, vs, s, h => by
    simp only [fillA, getv_shrAll, fillA_shr (as := as) h]
    by_cases hj : j ∈ l
    · rw [if_pos hj]
      cases getv s j with
      | none => rfl
      | some d =>
        cases fillA as vs s with
        | none => rfl
        | some ds => simp only [Option.map_some, shr_shr]
    · rw [if_neg hj]
  | .gone j as, vs, s, h => by
    simp only [fillA, getv_shrAll, fillA_shr (as := as) h]
    by_cases hj : j ∈ l
    · rw [if_pos hj]
      cases getv s j with
      | none => rfl
      | some d =>
        cases fillA as vs s with
        | none => rfl
        | some ds => simp only [Option.map_some, shr_shr]
    · rw [if_neg hj]
  | .io j as, vs, s, h => by
    simp only [fillA, getv_shrAll, fillA_shr (as := as) fun i hi => h i (List.mem_cons_of_mem _ hi)]
    rw [if_neg (h j List.mem_cons_self)]
  | .val _ as, v :: vs, s, h => by simp only [fillA, fillA_shr (as := as) h]
  | .own _ as, v :: vs, s, h => by simp only [fillA, fillA_shr (as := as) h]
  | .val _ _, [], _, _ => rfl
  | .own _ _, [], _, _ => rfl
theorem putAll_ok : ∀ {is : List Nat} {os : List D} {s : Env}, SOk K F σ H s (os.zip (is.map (slotV σ)) ++ hs) → os.length = is.length → (∀ i ∈ is, ∃ v, σ[i]? = some (some v)) → SOk K F σ H (putAll is os s) hs
  | [], [], _, so, _, _ => so
  | [], _ :: _, _, _, l, _ => by simp at l
  | _ :: _, [], _, _, l, _ => by simp at l
  | i :: is, d :: os, s, so, l, hσ => by
    obtain ⟨v, hv⟩ := hσ i List.mem_cons_self
    have so1 : SOk K F σ H s ((d, slotV σ i) :: (os.zip (is.map (slotV σ)) ++ hs)) := so
    rw [slotV_of hv] at so1
    exact putAll_ok (is := is) (os := os) (s := s.set i (some d)) (so1.back hv) (by simpa using l) fun j hj => hσ j (List.mem_cons_of_mem _ hj)
theorem live_io : ∀ {as : As} {vs : List D} {s : Env} {ds : List D}, SOk K F σ H s hs → fillA as vs s = some ds → ∀ i ∈ ioA as, ∃ v, σ[i]? = some (some v)
  | .nil, _, _, _, _, _, _, h => by cases h
  | .lent j as, vs, s, ds, so, e, i, h => by
    simp only [fillA] at e
    split at e
    · rename_i _ _ e1 e2; exact live_io so e2 i h
    · cases e
  | .gone j as, vs, s, ds, so, e, i, h => by
    simp only [fillA] at e
    split at e
    · rename_i _ _ e1 e2; exact live_io so e2 i h
    · cases e
  | .io j as, vs, s, ds, so, e, i, h => by
    simp only [fillA] at e
    split at e
    · rename_i _ _ e1 e2
      rcases List.mem_cons.mp h with rfl | h
      · obtain ⟨v, g, hv, _⟩ := so.peek e1
        exact ⟨v, hv⟩
      · exact live_io so e2 i h
    · cases e
  | .val _ as, v :: vs, s, ds, so, e, i, h => by
    simp only [fillA] at e
    cases e2 : fillA as vs s with
    | none => rw [e2] at e; cases e
    | some ds' => exact live_io so e2 i h
  | .own _ as, v :: vs, s, ds, so, e, i, h => by
    simp only [fillA] at e
    cases e2 : fillA as vs s with
    | none => rw [e2] at e; cases e
    | some ds' => exact live_io so e2 i h
  | .val _ _, [], _, _, _, e, _, _ => by cases e
  | .own _ _, [], _, _, _, e, _, _ => by cases e
theorem pick_fill {σ : L2.St} {dvs : List V} : ∀ {as : As} {vs : List D} {s : Env} {ds : List D} {vals : List V} {pre : List V}, fillA as vs s = some ds → vals.length = vs.length → pickV (posA pre.length as) (pre ++ (fillV as vals σ ++ dvs)) = (ioA as).map (slotV σ)
  | .nil, _, _, _, _, _, _, _ => rfl
  | .lent j as, vs, s, ds, vals, pre, e, l => by
    simp only [fillA] at e
    split at e
    · rename_i _ _ e1 e2
      have := pick_fill (pre := pre ++ [slotV σ j]) (vals := vals) (dvs := dvs) (σ := σ) e2 l
      rw [List.length_append] at this
      simpa [posA, ioA, fillV] using this
    · cases e
  | .gone j as, vs, s, ds, vals, pre, e, l => by
    simp only [fillA] at e
    split at e
    · rename_i _ _ e1 e2
      have := pick_fill (pre := pre ++ [slotV σ j]) (vals := vals) (dvs := dvs) (σ := σ) e2 l
      rw [List.length_append] at this
      simpa [posA, ioA, fillV] using this
    · cases e
  | .io j as, vs, s, ds, vals, pre, e, l => by
    simp only [fillA] at e
    split at e
    · rename_i _ _ e1 e2
      have := pick_fill (pre := pre ++ [slotV σ j]) (vals := vals) (dvs := dvs) (σ := σ) e2 l
      rw [List.length_append] at this
      have h2 : (pre ++ (fillV (.io j as) vals σ ++ dvs)).getD pre.length .non = slotV σ j := by
        simp [fillV, List.getD_eq_getElem?_getD]
      show pickV (pre.length :: posA (pre.length + 1) as) _ = slotV σ j :: (ioA as).map (slotV σ)
      show (pre ++ (fillV (.io j as) vals σ ++ dvs)).getD pre.length .non :: pickV (posA (pre.length + 1) as) (pre ++ (fillV (.io j as) vals σ ++ dvs)) = _
      rw [h2]
      congr 1
      simpa [fillV] using this
    · cases e
  | .val _ as, v :: vs, s, ds, w :: vals, pre, e, l => by
    simp only [fillA] at e
    cases e2 : fillA as vs s with
    | none => rw [e2] at e; cases e
    | some ds' =>
      have := pick_fill (pre := pre ++ [w]) (vals := vals) (dvs := dvs) (σ := σ) e2 (by simpa using l)
      rw [List.length_append] at this
      simpa [posA, ioA, fillV] using this
  | .own _ as, v :: vs, s, ds, w :: vals, pre, e, l => by
    simp only [fillA] at e
    cases e2 : fillA as vs s with
    | none => rw [e2] at e; cases e
    | some ds' =>
      have := pick_fill (pre := pre ++ [w]) (vals := vals) (dvs := dvs) (σ := σ) e2 (by simpa using l)
      rw [List.length_append] at this
      simpa [posA, ioA, fillV] using this
  | .val _ _, [], _, _, _, _, e, _ => by cases e
  | .own _ _, [], _, _, _, _, e, _ => by cases e
  | .val _ _, _ :: _, _, _, [], _, _, l => by simp at l
  | .own _ _, _ :: _, _, _, [], _, _, l => by simp at l
end

/-! ### the arguments -/
section
variable {K : PySem.W.Frag} {F : Fr} {W : WX} {Y : Cx} {a : Expr} {f : Env → R D}
def tAs (K : PySem.W.Frag) (F : Fr) (W : WX) (as : As) (f : Env → R (List D)) : TA := fun σ H Q => ∃ s hs, SOk K F σ H s hs ∧
  Out K F W σ (fun ds s => ∀ vals H', vals.length = ds.length → SOk K F σ H' s ((ds.zip vals).reverse ++ hs) → Q (fillV as vals σ) H') (f s)
variable {cl : Nat → List D → MP.CR}
theorem pxa_nil : PA Y [] (tAs K F W .nil (evA cl .nil)) := PA.imp pa_nil fun σ H Q ⟨s, hs, so, out⟩ => out [] H rfl so
theorem pxa_name {i : Nat} {x : Str} {p : Pos} {es : List Expr} {as as' : As} (hv : PE Y (.Name x p) (tVar i)) (hr : PA Y es (tAs K F W as (evA cl as)))
    (e1 : ∀ s, evA cl as' s = match getv s i with
      | some _ => evA cl as s
      | none => .stk) (e2 : ∀ vals σ, fillV as' vals σ = slotV σ i :: fillV as vals σ) : PA Y (.Name x p :: es) (tAs K F W as' (evA cl as')) := by
  refine PA.imp (pa_cons hv hr rfl) fun σ H Q ⟨s, hs, so, out⟩ => ?_
  rw [e1] at out
  cases e : getv s i with
  | none => rw [e] at out; exact (show False from out).elim
  | some d =>
    rw [e] at out
    obtain ⟨v, g, hv, _⟩ := so.peek e
    refine ⟨v, hv, s, hs, so, ?_⟩
    cases hf : evA cl as s with
    | ok ds s1 =>
      rw [hf] at out
      intro vals H' l so'
      have := out vals H' l so'
      rw [e2, slotV_of hv] at this
      exact this
    | exc c s1 => rw [hf] at out; exact out
    | stk => rw [hf] at out; exact out
theorem pxa_val {es : List Expr} {as : As} {x : X} (hn : ∀ z p, a ≠ .Starred z p) (ha : PE Y a (tX K F W (evX cl x).val)) (hr : PA Y es (tAs K F W as (evA cl as))) : PA Y (a :: es) (tAs K F W (.val x as) (evA cl (.val x as))) := by
  refine PA.imp (pa_cons ha hr (star_plain hn)) fun σ H Q ⟨s, hs, so, out⟩ => ⟨s, hs, so, ?_⟩
  simp only [evA] at out
  refine Out.step out fun d s1 _ out v H1 so1 => ⟨s1, _, so1, Out.step out fun ds s2 _ out vals H2 l so2 => ?_⟩
  refine out (v :: vals) H2 (by simp [l]) ?_
  rw [List.zip_cons_cons, List.reverse_cons, List.append_assoc]
  exact so2

theorem pxa_own {es : List Expr} {as : As} {x : X} (hn : ∀ z p, a ≠ .Starred z p) (ha : PE Y a (tX K F W (evX cl x).val)) (hr : PA Y es (tAs K F W as (evA cl as))) : PA Y (a :: es) (tAs K F W (.own x as) (evA cl (.own x as))) := by
  refine PA.imp (pa_cons ha hr (star_plain hn)) fun σ H Q ⟨s, hs, so, out⟩ => ⟨s, hs, so, ?_⟩
  simp only [evA] at out
  refine Out.step out fun d s1 _ out v H1 so1 => ⟨s1, _, so1, Out.step out fun ds s2 _ out vals H2 l so2 => ?_⟩
  refine out (v :: vals) H2 (by simp [l]) ?_
  rw [List.zip_cons_cons, List.reverse_cons, List.append_assoc]
  exact so2

/-! ### the call -/
theorem passAtN {X : Cx} {W : WX} (tk : L2N.Takes X W) (σ : L2.St) : PassesAt (L2N.CX X.prog X.w) X σ (fun cls d H => W cls d σ H) := fun _ _ _ e s' I c => tk e s' (L2N.XE.of_call I (fun _ _ _ h => h) c)
theorem run_fnG {k : Nat} {fa : Addr} {fd : FuncData} {ps : List Str} {sp : Sp} {dvs : List V} {ds : List Value} {E : L2.St → XK} {pins : List (Addr × Obj)} {σ : L2.St} {H : Hp} {s : Shared} {Q : VK} {us : List Value} {vs : List V}
    (G : FnG Y.prog Y.w Y.K Y.mg Y.base k fa fd ps sp) (hr : Room k Y.A) (hg : Y.A.guards = some []) (hb : Binds Y.K fd ps ds) (hd : Vals dvs ds) (hx : PassesAt (L2N.CX Y.prog Y.w) Y σ (E σ))
    (I : Inv Y pins σ H s) (r : Vals vs us) (h : sp (vs ++ dvs) H Q (E σ)) : wpAny (model Y.prog Y.w) Y.A (PySem.call (.ref fa) us) (EP Y pins σ Q) Y.xe s := by
  have all : Vals (vs ++ dvs) (us ++ ds) := r.append hd
  have len : (us ++ ds).length = ps.length := all.length ▸ G.len _ _ _ _ h
  refine wpAny_call (codeAny_mono (G.run Y.A Y.stack s H ⟨us, []⟩ (us ++ ds) (vs ++ dvs) Q (E σ) hr hg I.env0 (hb s us I.kIn len) all h) fun r s' hq => ?_)
  match r, hq with
  | .error e, hq => exact hx pins H s e s' I hq
  | .ok (.ret u), hq => exact I.after hq
  | .ok .next, hq => exact False.elim hq
  | .ok .brk, hq => exact False.elim hq
  | .ok .cont, hq => exact False.elim hq
/-- the reading of a call -/
theorem call_read {as : As} {run : List D → MP.CR} {dv : List D} {dvs : List V} {σ : L2.St} {H : Hp} {s : Env} {hs : En} {Q : VK} {vs : List D} {vals : List V} (so : SOk K F σ H s (vs.zip vals ++ hs)) (l : vals.length = vs.length)
    (hd : ∀ H, DenL K H dv dvs []) (out : OutE K F W σ hs Q (match okA as, fillA as vs s with
      | true, some ds => callE as s (run (ds ++ dv))
      | _, _ => .stk)) : spI K (posA 0 as) run (fillV as vals σ ++ dvs) H Q (fun cls d H' => W cls d σ H') := by
  cases eo : okA as with
  | false => rw [eo] at out; exact (show False from out).elim
  | true =>
    cases ef : fillA as vs s with
    | none => rw [eo, ef] at out; exact (show False from out).elim
    | some ds =>
      rw [eo, ef] at out
      dsimp only at out
      unfold okA at eo
      simp only [Bool.and_eq_true, decide_eq_true_eq, List.all_eq_true, Bool.not_eq_true', List.contains_eq_mem, decide_eq_false_iff_not] at eo
      obtain ⟨nd, nl⟩ := eo
      have hpick : pickV (posA 0 as) (fillV as vals σ ++ dvs) = (ioA as).map (slotV σ) := pick_fill (pre := []) ef l
      have hlen : (posA 0 as).length = (ioA as).length := by
        have := congrArg List.length hpick
        simpa [pickV] using this
      have hlive := live_io so ef
      -- the state at the call: as it is, or the lent slots shared
      have go : ∀ (t : Prop) (s0 : Env), SOk K F σ H s0 (vs.zip vals ++ hs) → fillA as vs s0 = some ds → (t → ∀ i ∈ lentA as, ∀ d, getv s0 i = some d → shr d = d) →
          ∃ gA, DenL K H (ds ++ dv) (fillV as vals σ ++ dvs) gA ∧ Cl gA ∧ (∀ r os v H', (owns (r :: os) = true ∨ t) → os.length = (ioA as).length → Post K H gA (r :: os) (v :: (ioA as).map (slotV σ)) H' → SOk K F σ H' (putAll (ioA as) os (wipeE s0 (ioA as ++ goneA as))) ((r, v) :: hs)) ∧
            (∀ os H', (owns os = true ∨ t) → os.length = (ioA as).length → Post K H gA os ((ioA as).map (slotV σ)) H' → SOk K F σ H' (putAll (ioA as) os (wipeE s0 (ioA as ++ goneA as))) hs) := fun t s0 so0 ef0 ht => by
        obtain ⟨gA, d1, c1, aft⟩ := (args_ok (t := t) as so0 l ef0 nd nl ht).after so.kept so.io
        refine ⟨gA, ?_, c1, fun r os v H' ho lo po => ?_, fun os H' ho lo po => ?_⟩
        · have := DenL.append d1 (hd H)
          rwa [List.append_nil] at this
        · obtain ⟨_, so1⟩ := aft _ _ H' ho po
          have so2 : SOk K F σ H' (wipeE s0 (ioA as ++ goneA as)) (os.zip ((ioA as).map (slotV σ)) ++ ((r, v) :: hs)) := so1.held List.perm_middle.symm (.refl _)
          exact putAll_ok so2 lo hlive
        · obtain ⟨_, so1⟩ := aft _ _ H' ho po
          exact putAll_ok so1 lo hlive
      have go2 : ∀ b : Bool, ∃ gA, DenL K H (ds ++ dv) (fillV as vals σ ++ dvs) gA ∧ Cl gA ∧ (∀ r os v H', (owns (r :: os) = true ∨ b = false) → os.length = (ioA as).length → Post K H gA (r :: os) (v :: (ioA as).map (slotV σ)) H' → SOk K F σ H' (putAll (ioA as) os (wipeE (if b then s else MP.shrAll (lentA as) s) (ioA as ++ goneA as))) ((r, v) :: hs)) ∧
            (∀ os H', (owns os = true ∨ b = false) → os.length = (ioA as).length → Post K H gA os ((ioA as).map (slotV σ)) H' → SOk K F σ H' (putAll (ioA as) os (wipeE (if b then s else MP.shrAll (lentA as) s) (ioA as ++ goneA as))) hs) := fun b => by
        cases b with
        | true => exact go _ s so ef fun z => by cases z
        | false =>
          refine go _ _ (SOk.shrAll so) (show fillA as vs (MP.shrAll (lentA as) s) = some ds by rw [fillA_shr fun i hi z => nl i (List.mem_append_left _ hi) z]; exact ef) fun _ i hi d e => ?_
          have e : getv (MP.shrAll (lentA as) s) i = some d := e
          rw [getv_shrAll, if_pos hi] at e
          cases e2 : getv s i with
          | none => rw [e2] at e; cases e
          | some d' => rw [e2] at e; cases e; exact shr_shr d'
      cases er : run (ds ++ dv) with
      | stk => rw [er] at out; exact (show False from out).elim
      | ok r os =>
        rw [er] at out
        simp only [callE] at out
        by_cases lo : (os.length == (ioA as).length) = true
        · rw [if_pos lo] at out
          have lo' : os.length = (ioA as).length := by simpa using lo
          obtain ⟨gA, d1, c1, aft, _⟩ := go2 (own r && owns os)
          refine ⟨ds ++ dv, gA, d1, c1, ?_⟩
          rw [er]
          refine ⟨by rw [hlen]; exact lo', fun v H' po => out v H' (aft r os v H' ?_ lo' (by rw [hpick] at po; exact po))⟩
          show (own r && owns os) = true ∨ _
          cases own r && owns os with
          | true => exact .inl rfl
          | false => exact .inr rfl
        · rw [if_neg lo] at out; exact (show False from out).elim
      | exc c os =>
        rw [er] at out
        simp only [callE] at out
        by_cases lo : (os.length == (ioA as).length) = true
        · rw [if_pos lo] at out
          have lo' : os.length = (ioA as).length := by simpa using lo
          obtain ⟨gA, d1, c1, _, aft⟩ := go2 (owns os)
          refine ⟨ds ++ dv, gA, d1, c1, ?_⟩
          rw [er]
          refine ⟨by rw [hlen]; exact lo', fun H' po => out H' ((aft os H' ?_ lo' (by rw [hpick] at po; exact po)).held (.refl _) (List.nil_sublist _))⟩
          cases owns os with
          | true => exact .inl rfl
          | false => exact .inr rfl
        · rw [if_neg lo] at out; exact (show False from out).elim
end
end MP
set_option linter.all false
set_option maxRecDepth 100000
set_option maxHeartbeats 4000000
/-! MiniPy: the call rule, what a loop walks, comprehensions. -/
namespace MP
open PySem PySem.Spec PyProof.Rows L2
section
variable {K : PySem.W.Frag} {F : Fr} {W : WX} {Y : Cx} {a : Expr} {f : Env → R D}
variable {cl : Nat → List D → MP.CR}
theorem px_call {x : Str} {p pos : Pos} {es : List Expr} {as : As} {fn k : Nat} {fa : Addr} {fd : FuncData} {ps : List Str} {dv : List D} {dvs : List V} {dds : List Value} (hK : Y.K = K)
    (G : FnG Y.prog Y.w Y.K Y.mg Y.base k fa fd ps (spI K (posA 0 as) (cl fn))) (hr : Room k Y.A) (hgd : Y.A.guards = some []) (hg : Gl Y x) (hm : Y.mg x = some (.ref fa)) (hk : PySem.W.keepIn Y.K (.ref fa) = true) (hb : Binds Y.K fd ps dds) (hdv : Vals dvs dds)
    (hden : ∀ H, DenL K H dv dvs []) (tk : L2N.Takes Y W) (ha : PA Y (a :: es) (tAs K F W as (evA cl as))) (hdb : (x == ("__debug__" : Str)) = false) (hn : ∀ z p, a ≠ .Starred z p) (hpl : (backTo pos (starEach es Y.env)).any (·.1) = false) :
    PE Y (.Call (.Name x p) (a :: es) [] pos) (tX K F W (evX cl (.call fn as dv)).val) := by
  subst hK
  refine ⟨fun pins st σ H Q I ⟨s, hs, so, out⟩ => ?_⟩
  refine wpAny_Call_Name_kw (ld_glob I hg hm ?_ hdb)
  have out' : OutE Y.K F W σ hs Q ((evA cl as s).bind fun vs s1 => match okA as, fillA as vs s1 with
    | true, some ds => callE as s1 (cl fn (ds ++ dv))
    | _, _ => .stk) := by
    simp only [evX, mkE] at out
    exact out
  refine PySem.W.callWith_K (h₀ := Y.base) I.ok.mod.kin hk (thn (ha.run pos pins st σ H (fun us H1 => spI Y.K (posA 0 as) (cl fn) (us ++ dvs) H1 Q (fun cls d H' => W cls d σ H')) I ⟨s, hs, so, Out.step out' fun vs s1 _ out vals H1 l so1 => ?_⟩) fun us s1 ⟨vs, H1, I1, r, q⟩ => ⟨I1.kIn, ?_⟩) (star_plain hn) hpl
  · exact call_read (so1.held ((List.reverse_perm _).append_right _) (.refl _)) l hden out
  · exact run_fnG (E := fun σ cls d H' => W cls d σ H') G hr hgd hb hdv (passAtN tk σ) I1 r q
theorem px_call0 {x : Str} {p pos : Pos} {fn k : Nat} {fa : Addr} {fd : FuncData} {ps : List Str} {dv : List D} {dvs : List V} {dds : List Value} (hK : Y.K = K)
    (G : FnG Y.prog Y.w Y.K Y.mg Y.base k fa fd ps (spI K [] (cl fn))) (hr : Room k Y.A) (hgd : Y.A.guards = some []) (hg : Gl Y x) (hm : Y.mg x = some (.ref fa)) (hk : PySem.W.keepIn Y.K (.ref fa) = true) (hb : Binds Y.K fd ps dds) (hdv : Vals dvs dds)
    (hden : ∀ H, DenL K H dv dvs []) (tk : L2N.Takes Y W) (hdb : (x == ("__debug__" : Str)) = false) : PE Y (.Call (.Name x p) [] [] pos) (tX K F W (evX cl (.call fn .nil dv)).val) := by
  subst hK
  refine ⟨fun pins st σ H Q I ⟨s, hs, so, out⟩ => ?_⟩
  refine wpAny_Call_Name_kw (ld_glob I hg hm ?_ hdb)
  have out' : OutE Y.K F W σ hs Q (match okA .nil, fillA .nil [] s with
    | true, some ds => callE .nil s (cl fn (ds ++ dv))
    | _, _ => .stk) := by
    simp only [evX, mkE, evA] at out
    exact out
  refine PySem.W.callWith_K0 I.kIn hk (run_fnG (us := []) (vs := []) (E := fun σ cls d H' => W cls d σ H') G hr hgd hb hdv (passAtN tk σ) I .nil ?_)
  exact call_read (as := .nil) (vs := []) (vals := []) so rfl hden out'
end
end MP
set_option linter.all false
set_option maxRecDepth 100000
set_option maxHeartbeats 4000000
/-! MiniPy: what a loop walks, targets, comprehensions. -/
namespace MP
open PySem PySem.Spec PyProof.Rows L2

section
variable {K : PySem.W.Frag} {F : Fr} {W : WX} {σ : L2.St} {s : Env} {hs : En} {Y : Cx} {H : Hp} {a : Expr} {f : Env → R D}
/-- a held list that nobody else holds is changed -/
theorem SOk.writeH {ds ds' : List D} {ys : List V} {p : Addr} {xs : List V} {E2 : En} (x : SOk K F σ H s ((.lst true ds, .ref p) :: hs)) (hH : H p = some (.lst xs))
    (l : ys.length = ds'.length) (pm : (ds.zip xs ++ hs).Perm (ds'.zip ys ++ E2)) : SOk K F σ (upd H p (.lst ys)) s ((.lst true ds', .ref p) :: E2) := by
  obtain ⟨⟨E, g, li, dd, c, u⟩, k, io⟩ := x
  obtain ⟨g1, g2, eg0, ⟨a', xs', g', ev, ha, eg, h1⟩, h2⟩ := DenE.cons.mp dd
  cases ev
  rw [hH] at ha
  cases ha
  subst eg0
  subst eg
  have d0 : DenE K H ((ds.zip xs ++ hs) ++ E) (g' ++ g2) := by
    rw [List.append_assoc]
    exact DenE.append.mpr ⟨g', g2, rfl, DenE.zip h1, h2⟩
  obtain ⟨gp, d1, p1⟩ := DenE.perm (pm.append_right E) d0
  have c0 : Cl (g' ++ g2) := (Cl.cons.mp c).2
  have na : ∀ q ∈ gp, q.1 ≠ p := fun q hq z => by
    have := (Cl.cons.mp c).1 q (p1.mem_iff.mpr hq) z.symm
    exact Bool.noConfusion this.1
  rw [List.append_assoc] at d1
  obtain ⟨k1, k2, ek, q1, q2⟩ := DenE.append.mp d1
  subst ek
  have x1 : Ext (fun b => b = p) H (upd H p (.lst ys)) := ⟨fun b o e n => by rw [upd_ne n]; exact e, fun b z => ⟨xs, by rw [z]; exact hH⟩⟩
  have r1 := (DenE.unzip l q1).ext x1 fun q hq => na q (List.mem_append_left _ hq)
  have r2 := DenE.ext x1 q2 fun q hq => na q (List.mem_append_right _ hq)
  have ua : F.H0 p = none ∨ ∃ b, (p, b) ∈ F.G0 ∧ (true = true → b = true) := u (p, true) (by simp)
  refine .mk' li (DenE.cons.mpr ⟨(p, true) :: k1, k2, rfl, ⟨p, ys, k1, rfl, upd_same, rfl, r1⟩, r2⟩) (Cl.cons.mpr ⟨fun q hq z => absurd z.symm (na q hq), c0.perm p1⟩) (fun q hq => ?_) (fun b o eb n => ?_) io
  · rcases List.mem_cons.mp hq with rfl | hq
    · exact ua
    · exact u q (List.mem_cons_of_mem _ (p1.mem_iff.mpr hq))
  · have kb := k b o eb n
    by_cases hb : b = p
    · subst hb
      rcases ua with z | ⟨b', z, zz⟩
      · rw [z] at eb; cases eb
      · rw [zz rfl] at z
        exact absurd z n
    · rw [upd_ne hb]; exact kb

/-! ### targets -/
theorem wipe_set_mem {σ : L2.St} {j : Nat} {o : Option V} : ∀ {ws : List Nat}, j ∈ ws → wipe (σ.set j o) ws = wipe σ ws
  | w :: ws, h => by
    unfold wipe
    by_cases hj : j ∈ ws
    · rw [wipe_set_mem hj]
    · rcases List.mem_cons.mp h with rfl | h
      · have : ∀ (l : List Nat), wipe (σ.set j o) l = (wipe σ l).set j o ∨ j ∈ l := fun l => by
          induction l with
          | nil => exact .inl rfl
          | cons v l ih =>
            by_cases e : j = v
            · exact .inr (by simp [e])
            · rcases ih with ih | ih
              · left
                unfold wipe
                rw [ih, List.set_comm _ _ e]
              · exact .inr (List.mem_cons_of_mem _ ih)
        rcases this ws with e | e
        · rw [e, List.set_set]
        · exact absurd e hj
      · exact absurd h hj
theorem wipe_wipe {σ : L2.St} : ∀ (vs ws : List Nat), (∀ v ∈ vs, v ∈ ws) → wipe (wipe σ vs) ws = wipe σ ws
  | [], _, _ => rfl
  | v :: vs, ws, h => by
    show wipe ((wipe σ vs).set v none) ws = _
    rw [wipe_set_mem (h v List.mem_cons_self), wipe_wipe vs ws fun u hu => h u (List.mem_cons_of_mem _ hu)]
/-- a target's reading -/
def tG (K : PySem.W.Frag) (F : Fr) (tg : Tg) : TG := fun v σ H Q => ∃ s hs d s', SOk K F σ H s ((d, v) :: hs) ∧ tgE tg d s = some s' ∧ (∀ p ∈ F.io, p.1 ∉ tgSlots tg) ∧
  ∀ σ', SOk K F σ' H s' hs → (∀ ws, (∀ j ∈ tgSlots tg, j ∈ ws) → wipe σ' ws = wipe σ ws) → Q σ' H
theorem PG.imp {X : Cx} {e : Expr} {t t' : TG} (h : PG X e t) (i : ∀ v σ H Q, t' v σ H Q → t v σ H Q) : PG X e t' := ⟨fun pins s σ H v u Q I r q => h.run pins s σ H v u Q I r (i v σ H Q q)⟩
theorem PGs.imp {X : Cx} {e : List Expr} {t t' : TGs} (h : PGs X e t) (i : ∀ v σ H Q, t' v σ H Q → t v σ H Q) : PGs X e t' := ⟨fun pins s σ H v u Q I r q => h.run pins s σ H v u Q I r (i v σ H Q q)⟩
theorem pgx_name {i : Nat} {x : Str} {p : Pos} (h : PG Y (.Name x p) (gName i)) : PG Y (.Name x p) (tG K F (.nm i)) := by
  refine PG.imp h fun v σ H Q ⟨s, hs, d, s', so, e, hio, q⟩ => ?_
  cases e
  exact q _ (so.store fun p hp z => hio p hp (by simp [tgSlots, z])) fun ws hw => wipe_set_mem (hw i (by simp [tgSlots]))
/-- several names, one after another -/
def putTs (s : Env) (is : List Nat) (ds : List D) : Env := (is.zip ds).foldl (fun s p => s.set p.1 (some p.2)) s
def tGs (K : PySem.W.Frag) (F : Fr) (is : List Nat) : TGs := fun vs σ H Q => ∃ s hs ds, vs.length = ds.length ∧ is.length = ds.length ∧ SOk K F σ H s (ds.zip vs ++ hs) ∧ (∀ p ∈ F.io, p.1 ∉ is) ∧
  ∀ σ', SOk K F σ' H (putTs s is ds) hs → (∀ ws, (∀ j ∈ is, j ∈ ws) → wipe σ' ws = wipe σ ws) → Q σ' H
theorem pgxs_nil : PGs Y [] (tGs K F []) := PGs.imp pgs_nil fun vs σ H Q ⟨s, hs, ds, l1, l2, so, hio, q⟩ => by
  have e : ds = [] := List.length_eq_zero_iff.mp l2.symm
  subst e
  have e2 : vs = [] := List.length_eq_zero_iff.mp l1
  subst e2
  exact ⟨rfl, q σ so fun _ _ => rfl⟩
theorem pgxs_cons {i : Nat} {is : List Nat} {e : Expr} {es : List Expr} (h1 : PG Y e (gName i)) (h2 : PGs Y es (tGs K F is)) (hs' : (assignEach (e :: es) Y.env).map (·.2) = assign e Y.env :: (assignEach es Y.env).map (·.2)) : PGs Y (e :: es) (tGs K F (i :: is)) := by
  refine PGs.imp (pgs_cons h1 h2 hs') fun vs σ H Q ⟨s, hs, ds, l1, l2, so, hio, q⟩ => ?_
  match vs, ds, l1, l2, so, q with
  | v :: vs, d :: ds, l1, l2, so, q =>
    have so1 : SOk K F (σ.set i (some v)) H (s.set i (some d)) (ds.zip vs ++ hs) := SOk.store so fun p hp z => hio p hp (by simp [z])
    refine ⟨v, vs, rfl, s.set i (some d), hs, ds, by simpa using l1, by simpa using l2, so1, fun p hp z => hio p hp (List.mem_cons_of_mem _ z), fun σ' so2 hw => q σ' so2 fun ws hw2 => ?_⟩
    rw [hw ws fun j hj => hw2 j (List.mem_cons_of_mem _ hj), wipe_set_mem (hw2 i List.mem_cons_self)]
  | [], _ :: _, l1, _, _, _ => simp at l1
  | _ :: _, [], l1, _, _, _ => simp at l1
  | [], [], _, l2, _, _ => simp at l2
theorem pgx_tup {is : List Nat} {es : List Expr} {k : Nat} {p : Pos} (hK : Y.K = K) (hc : Y.calm = true) (h : PGs Y es (tGs K F is)) (hn : (assignEach es Y.env).length = is.length) (hst : (assignEach es Y.env).findIdx? (·.1) = none) : PG Y (.Tuple es k p) (tG K F (.tp is)) := by
  subst hK
  refine PG.imp (pg_tup hc h hn hst) fun v σ H Q ⟨s, hs, d, s', so, e, hio, q⟩ => ?_
  cases d with
  | tup ds =>
    simp only [tgE] at e
    split at e
    · rename_i hl
      cases e
      have hl : is.length = ds.length := by simpa using hl
      obtain ⟨a, xs, ev, ha, l, so1⟩ := so.openT
      exact ⟨a, xs, ev, ha, by rw [l, hl], s, hs, ds, l, hl, so1, hio, q⟩
    · cases e
  | _ => cases e

/-! ### what is walked -/
/-- the items ds come in their order while hw is held -/
structure Wk (K : PySem.W.Frag) (J : L2.It) (hw : En) (ds : List D) : Prop where
  go : ∀ {F : Fr} {σ : L2.St} {H : Hp} {s : Env} {hs : En} {i : Nat}, SOk K F σ H s (hw ++ hs) → i < ds.length → J.go i H
  yld : ∀ {F : Fr} {σ : L2.St} {H H' : Hp} {s : Env} {hs : En} {i : Nat} {x : V} {d : D}, SOk K F σ H s (hw ++ hs) → J.yld i H x H' → ds[i]? = some d → SOk K F σ H' s ((d, x) :: (hw ++ hs))
  stop : ∀ {F : Fr} {σ : L2.St} {H : Hp} {s : Env} {hs : En}, SOk K F σ H s (hw ++ hs) → J.stop ds.length H
def tIt (K : PySem.W.Frag) (F : Fr) (W : WX) (it : MP.It) (f : Env → R (List D)) : TI := fun σ H R => ∃ s hs, SOk K F σ H s hs ∧
  Out K F W σ (fun ds s' => ∀ J H' hw, Wk K J hw ds → SOk K F σ H' s' (hw ++ hs) → (match it with
    | .lent i => ∃ d v, getv s i = some d ∧ hw = [(d, v)] ∧ σ[i]? = some (some v)
    | _ => True) → R J H') (f s)
theorem PI.imp {X : Cx} {tg e : Expr} {t t' : TI} (h : PI X tg e t) (i : ∀ σ H Q, t' σ H Q → t σ H Q) : PI X tg e t' := ⟨fun pins s σ H Q I q => h.run pins s σ H Q I (i σ H Q q)⟩
/-- a list or a tuple, as it comes -/
def iSeq (K : PySem.W.Frag) (tl : TE) : TI := fun σ H R => tl σ H fun x H1 => ∃ a, x = .ref a ∧ ((∃ xs, SqL K H1 a xs) ∧ R (Itl K a) H1 ∨ (∃ xs, SqT K H1 a xs) ∧ R (Itt K a) H1)
theorem pi_seq {tg l : Expr} {tl : TE} (hl : PE Y l tl) : PI Y tg l (iSeq Y.K tl) := by
  refine ⟨fun pins s σ H R I h => thn (hl.run pins s σ H _ I h) fun v s1 hv => ?_⟩
  obtain ⟨x, H1, I1, r1, a, rfl, q⟩ := hv
  obtain rfl : v = Value.ref a := r1
  have fresh : FpOk Y pins H1 s1.heap.objs.size := I1.fpOk (Nat.le_refl _) (I1.hok.fresh (Nat.le_refl _))
  have one : ∀ b ∈ [s1.heap.objs.size], FpOk Y pins H1 b := fun b hb => by
    rw [List.mem_singleton] at hb
    rw [hb]
    exact fresh
  rcases q with ⟨⟨xs, hq⟩, q⟩ | ⟨⟨xs, hq⟩, q⟩
  · obtain ⟨its, _, pl, _⟩ := I1.list hq
    exact wpAny_pyIter_list pl.isList ⟨_, _, _, _, H1, rfl, I1.kept (t' := s1.toks) (fun b o => Heap.get?_push_of_some _), turn_list a _, ⟨_, Heap.get?_push_size _ rfl, rfl, rfl⟩, one, q⟩
  · obtain ⟨its, _, pl, _⟩ := I1.tuple hq
    have pt : s1.heap.IsTuple a its.toArray := pl
    exact wpAny_pyIter_tuple pt ⟨_, _, _, _, H1, rfl, I1.kept (t' := s1.toks) (fun b o => Heap.get?_push_of_some _), turn_tuple a _, ⟨_, Heap.get?_push_size _ rfl, rfl, rfl⟩, one, q⟩
theorem SqL.own {K : PySem.W.Frag} {H : Hp} {p : Addr} {xs ys : List V} (h : H p = some (.lst xs)) (q : ∀ zs, SqL K H p zs → zs = ys) : xs = ys := q xs (SqL.of h)
/-- a held list walked -/
theorem wk_lst {p : Addr} {ds : List D} : Wk K (Itl K p) [(.lst false (shrs ds), .ref p)] (shrs ds) where
  go := fun {F σ H s hs i} so hi => by
    obtain ⟨a, xs, ev, ha, l, _⟩ := SOk.openD so
    cases ev
    have : i < xs.length := by rw [l]; exact hi
    exact ⟨xs, xs[i], SqL.of ha, List.getElem?_eq_getElem this⟩
  yld := fun {F σ H H' s hs i x d} so y e => by
    obtain ⟨rfl, y⟩ := y
    have so2 := SOk.dup so
    have es : shr (.lst false (shrs ds)) = .lst false (shrs ds) := by simp only [shr, shrs_shrs]
    rw [es] at so2
    obtain ⟨a, xs, ev, ha, l, so3⟩ := so2.openD
    cases ev
    obtain ⟨v, hv, so4⟩ := so3.item l e
    have := y xs (SqL.of ha)
    rw [hv] at this
    cases this
    exact so4
  stop := fun {F σ H s hs} so => by
    obtain ⟨a, xs, ev, ha, l, _⟩ := SOk.openD so
    cases ev
    exact ⟨xs, SqL.of ha, Nat.le_of_eq l⟩
theorem wk_tup {p : Addr} {ds : List D} {xs0 : List V} : Wk K (Itt K p) [(.tup (shrs ds), .ref p)] (shrs ds) where
  go := fun {F σ H s hs i} so hi => by
    obtain ⟨a, xs, ev, ha, l, _⟩ := SOk.openT so
    cases ev
    have : i < xs.length := by rw [l]; exact hi
    exact ⟨xs, xs[i], ha, List.getElem?_eq_getElem this⟩
  yld := fun {F σ H H' s hs i x d} so y e => by
    obtain ⟨rfl, y⟩ := y
    have so2 := SOk.dup so
    have es : shr (.tup (shrs ds)) = .tup (shrs ds) := by simp only [shr, shrs_shrs]
    rw [es] at so2
    obtain ⟨a, xs, ev, ha, l, so3⟩ := so2.openT
    cases ev
    obtain ⟨v, hv, so4⟩ := so3.item l e
    have := y xs ha
    rw [hv] at this
    cases this
    exact so4
  stop := fun {F σ H s hs} so => by
    obtain ⟨a, xs, ev, ha, l, _⟩ := SOk.openT so
    cases ev
    exact ⟨xs, ha, Nat.le_of_eq l⟩
theorem Out.ofA {α : Type} {P : α → Env → Prop} {o : Option α} {s : Env} (h : Out K F W σ P (R.of o s)) : ∃ d, o = some d ∧ P d s := by
  cases o with
  | none => exact (show False from h).elim
  | some d => exact ⟨d, rfl, h⟩
theorem shrs_ints : ∀ l : List Int, shrs (l.map D.int) = l.map D.int
  | [] => rfl
  | _ :: l => by simp only [List.map_cons, shrs, shr, shrs_ints l]
theorem wk_scr {p : Addr} {ns : List Int} : Wk K (Itl K p) [(.scr ns, .ref p)] (ns.map .int) where
  go := fun {F σ H s hs i} so hi => by
    obtain ⟨g, p', ev, hp, _⟩ := SOk.den so
    cases ev
    have hi' : i < (ns.map V.int).length := by simpa using hi
    exact ⟨_, _, hp.sq, List.getElem?_eq_getElem hi'⟩
  yld := fun {F σ H H' s hs i x d} so y e => by
    obtain ⟨rfl, y⟩ := y
    obtain ⟨g, p', ev, hp, _⟩ := SOk.den so
    cases ev
    have h1 := y _ hp.sq
    rw [List.getElem?_map] at e
    rw [List.getElem?_map] at h1
    cases e3 : ns[i]? with
    | none => rw [e3] at e; cases e
    | some n =>
      rw [e3] at e h1
      cases e
      cases h1
      exact SOk.atom so (den_int _)
  stop := fun {F σ H s hs} so => by
    obtain ⟨g, p', ev, hp, _⟩ := SOk.den so
    cases ev
    exact ⟨_, hp.sq, by simp⟩
theorem pix_seq {tg : Expr} {x : X} {cl : Nat → List D → MP.CR} (hK : Y.K = K) (ha : PE Y a (tX K F W (evX cl x).val)) : PI Y tg a (tIt K F W (.seq x) (evI cl (.seq x))) := by
  subst hK
  refine PI.imp (pi_seq ha) fun σ H R ⟨s, hs, so, out⟩ => ?_
  simp only [evI] at out
  refine ⟨s, hs, so, Out.step out fun d s1 _ out v H1 so1 => ?_⟩
  cases d with
  | lst o ds =>
    have so2 := so1.shrH
    obtain ⟨p, xs, ev, hp, l, _⟩ := so2.openD
    subst ev
    exact ⟨p, rfl, .inl ⟨⟨xs, SqL.of hp⟩, out _ _ _ wk_lst so2 trivial⟩⟩
  | tup ds =>
    have so2 := so1.shrH
    obtain ⟨p, xs, ev, hp, l, _⟩ := so2.openT
    subst ev
    exact ⟨p, rfl, .inr ⟨⟨xs, hp⟩, out _ _ _ (wk_tup (xs0 := xs)) so2 trivial⟩⟩
  | scr ns =>
    obtain ⟨g, p, ev, hp, _⟩ := so1.den
    subst ev
    simp only [itemsD, Option.map_some, shrs_ints] at out
    exact ⟨p, rfl, .inl ⟨⟨_, hp.sq⟩, out _ H1 [(.scr ns, .ref p)] wk_scr so1 trivial⟩⟩
  | _ => exact (show False from out).elim
theorem pix_lent {tg : Expr} {i : Nat} {x : Str} {p : Pos} {cl : Nat → List D → MP.CR} (hK : Y.K = K) (hv : PE Y (.Name x p) (tVar i)) : PI Y tg (.Name x p) (tIt K F W (.lent i) (evI cl (.lent i))) := by
  subst hK
  refine PI.imp (pi_seq hv) fun σ H R ⟨s, hs, so, out⟩ => ?_
  simp only [evI] at out
  cases e : getv s i with
  | none => rw [e] at out; exact (show False from out).elim
  | some d =>
    rw [e] at out
    obtain ⟨v, hσ, so1⟩ := so.move e
    refine ⟨v, hσ, ?_⟩
    cases d with
    | lst o ds =>
      simp only [Option.bind_some, itemsD] at out
      by_cases n : noLs ds = true
      · rw [if_pos n] at out
        obtain ⟨q, xs, ev, hq, l, _⟩ := so1.openD
        subst ev
        refine ⟨q, rfl, .inl ⟨⟨xs, SqL.of hq⟩, out _ H [(.lst o ds, .ref q)] ⟨fun {F σ H s hs i} so hi => ?_, fun {F σ H H' s hs i x d} so y e => ?_, fun {F σ H s hs} so => ?_⟩ so1 ⟨_, _, rfl, rfl, hσ⟩⟩⟩
        · obtain ⟨a, xs, ev, ha, l, _⟩ := SOk.openD so
          cases ev
          have : i < xs.length := by rw [l]; exact hi
          exact ⟨xs, xs[i], SqL.of ha, List.getElem?_eq_getElem this⟩
        · obtain ⟨rfl, y⟩ := y
          obtain ⟨g, a, xs, g', ev, ha, _, hd⟩ := SOk.den so
          cases ev
          have h1 := y xs (SqL.of ha)
          exact SOk.atom so (DenL.at_nol n hd e h1)
        · obtain ⟨a, xs, ev, ha, l, _⟩ := SOk.openD so
          cases ev
          exact ⟨xs, SqL.of ha, Nat.le_of_eq l⟩
      · rw [if_neg n] at out; exact (show False from out).elim
    | tup ds =>
      simp only [Option.bind_some, itemsD] at out
      by_cases n : noLs ds = true
      · rw [if_pos n] at out
        obtain ⟨q, xs, ev, hq, l, _⟩ := so1.openT
        subst ev
        refine ⟨q, rfl, .inr ⟨⟨xs, hq⟩, out _ H [(.tup ds, .ref q)] ⟨fun {F σ H s hs i} so hi => ?_, fun {F σ H H' s hs i x d} so y e => ?_, fun {F σ H s hs} so => ?_⟩ so1 ⟨_, _, rfl, rfl, hσ⟩⟩⟩
        · obtain ⟨a, xs, ev, ha, l, _⟩ := SOk.openT so
          cases ev
          have : i < xs.length := by rw [l]; exact hi
          exact ⟨xs, xs[i], ha, List.getElem?_eq_getElem this⟩
        · obtain ⟨rfl, y⟩ := y
          obtain ⟨g, a, xs, ev, ha, hd⟩ := SOk.den so
          cases ev
          have h1 := y xs ha
          exact SOk.atom so (DenL.at_nol n hd e h1)
        · obtain ⟨a, xs, ev, ha, l, _⟩ := SOk.openT so
          cases ev
          exact ⟨xs, ha, Nat.le_of_eq l⟩
      · rw [if_neg n] at out; exact (show False from out).elim
    | scr ns =>
      simp only [Option.bind_some, itemsD] at out
      by_cases n : noLs (ns.map D.int) = true
      · rw [if_pos n] at out
        obtain ⟨g, p, ev, hp, _⟩ := so1.den
        subst ev
        exact ⟨p, rfl, .inl ⟨⟨_, hp.sq⟩, out _ H [(.scr ns, .ref p)] wk_scr so1 ⟨_, _, rfl, rfl, hσ⟩⟩⟩
      · rw [if_neg n] at out; exact (show False from out).elim
    | _ => exact (show False from out).elim
theorem wk_rng {lo c : Int} {n : Nat} : Wk K (Itc lo c n) [] (rngD lo c n) where
  go := fun {F σ H s hs i} _ hi => by
    have : i < n := by simpa [rngD] using hi
    exact this
  yld := fun {F σ H H' s hs i x d} so y e => by
    obtain ⟨rfl, rfl⟩ := y
    simp only [rngD, List.getElem?_map] at e
    cases e2 : (List.range n)[i]? with
    | none => rw [e2] at e; cases e
    | some j =>
      rw [e2] at e
      have : j = i := by
        have := List.getElem?_eq_some_iff.mp e2
        obtain ⟨h, h2⟩ := this
        simp at h2
        exact h2.symm
      subst this
      cases e
      exact so.atom (den_int _)
  stop := fun _ => by simp [rngD, Itc]
theorem wk_rng1 {lo : Int} {n : Nat} : Wk K (Itr lo n) [] (rngD lo 1 n) where
  go := fun {F σ H s hs i} _ hi => by
    have : i < n := by simpa [rngD] using hi
    exact this
  yld := fun {F σ H H' s hs i x d} so y e => by
    obtain ⟨rfl, rfl⟩ := y
    simp only [rngD, List.getElem?_map] at e
    cases e2 : (List.range n)[i]? with
    | none => rw [e2] at e; cases e
    | some j =>
      rw [e2] at e
      have : j = i := by
        have := List.getElem?_eq_some_iff.mp e2
        obtain ⟨h, h2⟩ := this
        simp at h2
        exact h2.symm
      subst this
      cases e
      show SOk K F σ H' s ((D.int (lo + ↑j * 1), V.int (lo + ↑j)) :: ([] ++ hs))
      rw [Int.mul_one]
      exact so.atom (den_int _)
  stop := fun _ => by simp [rngD, Itr]
theorem rng_ok {i j : Int} : (decide (-(2 ^ 62) ≤ i) && decide (i < 2 ^ 62)) = true → -(2 ^ 62) ≤ i ∧ i < 2 ^ 62 := fun h => by
  simpa only [Bool.and_eq_true, decide_eq_true_eq] using h
theorem pix_rng1 {tg : Expr} {p pos : Pos} {x : X} {cl : Nat → List D → MP.CR} (hg : Gl Y "range") (hm : Y.mg "range" = none) (hn : ∀ z p, a ≠ .Starred z p) (ha : PE Y a (tX K F W (evX cl x).val)) : PI Y tg (.Call (.Name "range" p) [a] [] pos) (tIt K F W (.rng (.cons x .nil)) (evI cl (.rng (.cons x .nil)))) := by
  refine PI.imp (pi_range1 hg hm (pa_cons ha pa_nil (star_plain hn)) (star_plain hn)) fun σ H RR ⟨s, hs, so, out⟩ => ?_
  simp only [evI, evs] at out
  have out := (show Out K F W σ _ (((evX cl x).val s).bind fun d s1 => R.of (rngL [d]) s1) by
    cases e : (evX cl x).val s <;> rw [e] at out <;> exact out)
  refine ⟨s, hs, so, Out.step out fun d s1 _ out v H1 so1 => ?_⟩
  obtain ⟨ds, e, out2⟩ := Out.ofA out
  cases d with
  | int j =>
    simp only [rngL] at e
    split at e
    · rename_i hb
      cases e
      obtain ⟨h1, h2⟩ := rng_ok (i := j) (j := j) hb
      exact ⟨j, by rw [so1.int], h1, h2, out2 _ _ [] wk_rng1 so1.drop trivial⟩
    · cases e
  | _ => cases e
theorem pix_rng2 {tg b : Expr} {p pos : Pos} {x y : X} {cl : Nat → List D → MP.CR} (hg : Gl Y "range") (hm : Y.mg "range" = none) (hn : ∀ z p, a ≠ .Starred z p) (hn2 : ∀ z p, b ≠ .Starred z p) (ha : PE Y a (tX K F W (evX cl x).val)) (hb : PE Y b (tX K F W (evX cl y).val)) : PI Y tg (.Call (.Name "range" p) [a, b] [] pos) (tIt K F W (.rng (.cons x (.cons y .nil))) (evI cl (.rng (.cons x (.cons y .nil))))) := by
  refine PI.imp (pi_range2 hg hm (pa_cons ha (pa_cons hb pa_nil (star_plain hn2)) (star_plain hn)) (by rw [star_plain hn, star_plain hn2]; rfl) (star_plain hn2)) fun σ H RR ⟨s, hs, so, out⟩ => ?_
  simp only [evI, evs] at out
  have out := (show Out K F W σ _ (((evX cl x).val s).bind fun d s1 => ((evX cl y).val s1).bind fun d2 s2 => R.of (rngL [d, d2]) s2) by
    cases e : (evX cl x).val s with
    | ok d s1 =>
      rw [e] at out
      simp only [R.bind] at out ⊢
      cases e2 : (evX cl y).val s1 <;> simp only [e2] at out ⊢ <;> exact out
    | _ => rw [e] at out; exact out)
  refine ⟨s, hs, so, Out.step out fun d s1 _ out v H1 so1 => ⟨s1, _, so1, Out.step out fun d2 s2 _ out v2 H2 so2 => ?_⟩⟩
  obtain ⟨ds, e, out2⟩ := Out.ofA out
  cases d with
  | int i =>
    cases d2 with
    | int j =>
      simp only [rngL] at e
      split at e
      · rename_i hb
        cases e
        rw [Bool.and_eq_true] at hb
        obtain ⟨h1, h2⟩ := rng_ok (i := i) (j := i) hb.1
        obtain ⟨h3, h4⟩ := rng_ok (i := j) (j := j) hb.2
        exact ⟨i, j, by rw [so2.int, so2.drop.int], ⟨h1, h2, h3, h4⟩, out2 _ _ [] wk_rng1 so2.drop.drop trivial⟩
      · cases e
    | _ => cases e
  | _ => cases d2 <;> cases e
theorem rg_pos {i j c : Int} (h1 : -(2 ^ 62) ≤ i) (h2 : i < 2 ^ 62) (h3 : -(2 ^ 62) ≤ j) (h4 : j < 2 ^ 62) (c0 : 0 < c) (c1 : c < 2 ^ 29) : RgC i j c ((j - i + c - 1) / c).toNat := by
  have rs : Builtin.Range.rangeSize i j c = (((j - i + c - 1) / c).toNat : Int) := by
    unfold Builtin.Range.rangeSize
    rw [if_pos c0]
    by_cases h : i < j
    · rw [if_pos h]
      have e : j - i + c - 1 = (j - i - 1) + 1 * c := by omega
      rw [e, Int.add_mul_ediv_right _ _ (by omega)]
      have : 0 ≤ (j - i - 1) / c := Int.ediv_nonneg (by omega) (by omega)
      omega
    · rw [if_neg h]
      have : (j - i + c - 1) / c < 1 := Int.ediv_lt_of_lt_mul c0 (by omega)
      omega
  refine ⟨by omega, by omega, ?_, rs⟩
  have bd : Builtin.Range.rangeSize i j c ≤ 2 ^ 63 - 1 ∧ 0 ≤ Builtin.Range.rangeSize i j c := by
    unfold Builtin.Range.rangeSize
    rw [if_pos c0]
    split
    · have h1 : (j - i - 1) / c ≤ j - i - 1 := Int.ediv_le_self _ (by omega)
      have h2 : 0 ≤ (j - i - 1) / c := Int.ediv_nonneg (by omega) (by omega)
      omega
    · omega
  unfold Builtin.Range.small
  simp only [Builtin.Range.rangeFitsLong, Bool.and_eq_true, Bool.or_eq_true, decide_eq_true_eq, beq_iff_eq]
  rw [if_pos c0]
  simp only [Bool.and_eq_true, decide_eq_true_eq]
  omega
theorem pix_rng3 {tg b c : Expr} {p pos : Pos} {x y z : X} {cl : Nat → List D → MP.CR} (hg : Gl Y "range") (hm : Y.mg "range" = none) (hn : ∀ z p, a ≠ .Starred z p) (hn2 : ∀ z p, b ≠ .Starred z p) (hn3 : ∀ z p, c ≠ .Starred z p) (ha : PE Y a (tX K F W (evX cl x).val)) (hb : PE Y b (tX K F W (evX cl y).val)) (hc : PE Y c (tX K F W (evX cl z).val)) :
    PI Y tg (.Call (.Name "range" p) [a, b, c] [] pos) (tIt K F W (.rng (.cons x (.cons y (.cons z .nil)))) (evI cl (.rng (.cons x (.cons y (.cons z .nil)))))) := by
  refine PI.imp (pi_range3 hg hm (pa_cons ha (pa_cons hb (pa_cons hc pa_nil (star_plain hn3)) (star_plain hn2)) (star_plain hn)) (star_plain hn) (by rw [star_plain hn2, star_plain hn3]; rfl)) fun σ H RR ⟨s, hs, so, out⟩ => ?_
  simp only [evI, evs] at out
  have out := (show Out K F W σ _ (((evX cl x).val s).bind fun d s1 => ((evX cl y).val s1).bind fun d2 s2 => ((evX cl z).val s2).bind fun d3 s3 => R.of (rngL [d, d2, d3]) s3) by
    cases e : (evX cl x).val s with
    | ok d s1 =>
      rw [e] at out
      simp only [R.bind] at out ⊢
      cases e2 : (evX cl y).val s1 with
      | ok d2 s2 =>
        simp only [e2] at out ⊢
        cases e3 : (evX cl z).val s2 <;> simp only [e3] at out ⊢ <;> exact out
      | _ => simp only [e2] at out ⊢; exact out
    | _ => rw [e] at out; exact out)
  refine ⟨s, hs, so, Out.step out fun d s1 _ out v H1 so1 => ⟨s1, _, so1, Out.step out fun d2 s2 _ out v2 H2 so2 => ⟨s2, _, so2, Out.step out fun d3 s3 _ out v3 H3 so3 => ?_⟩⟩⟩
  obtain ⟨ds, e, out2⟩ := Out.ofA out
  cases d with
  | int i =>
    cases d2 with
    | int j =>
      cases d3 with
      | int k =>
        simp only [rngL] at e
        split at e
        · rename_i hb
          rw [Bool.and_eq_true] at hb
          obtain ⟨h1, h2⟩ := rng_ok (i := i) (j := i) hb.1
          obtain ⟨h3, h4⟩ := rng_ok (i := j) (j := j) hb.2
          split at e
          · rename_i hc
            cases e
            simp only [Bool.and_eq_true, decide_eq_true_eq] at hc
            exact ⟨i, j, k, _, by rw [so3.int, so3.drop.int, so3.drop.drop.int], rg_pos h1 h2 h3 h4 hc.1 hc.2, out2 _ _ [] wk_rng so3.drop.drop.drop trivial⟩
          · split at e
            · rename_i hc
              cases e
              have hc := of_decide_eq_true hc
              subst hc
              exact ⟨i, j, -1, _, by rw [so3.int, so3.drop.int, so3.drop.drop.int], RgC.neg h1 h2 h3 h4, out2 _ _ [] wk_rng so3.drop.drop.drop trivial⟩
            · cases e
        · cases e
      | _ => cases e
    | _ => cases d3 <;> cases e
  | _ => cases d2 <;> cases d3 <;> cases e
end
end MP
set_option linter.all false
set_option maxRecDepth 100000
set_option maxHeartbeats 4000000
/-! MiniPy: zip over lists and tuples in any mixture. -/
namespace MP
open PySem PySem.Spec PyProof.Rows L2
/-- true: a list, false: a tuple -/
def SqK (k : Bool) (K : PySem.W.Frag) (H : Hp) (a : Addr) (xs : List V) : Prop := match k with
  | true => SqL K H a xs
  | false => SqT K H a xs
def ItK (k : Bool) (h : Heap) (it a : Addr) (i : Nat) : Prop := match k with
  | true => h.IsListIter it a i
  | false => h.IsTupleIter it a i
def HasK (k : Bool) (h : Heap) (a : Addr) (its : Array Value) : Prop := match k with
  | true => h.IsList a its
  | false => h.IsTuple a its
def itC : Bool → String
  | true => "list_iterator"
  | false => "tuple_iterator"
theorem draws_k {prog : Program} {w : World} {A : Around} (k : Bool) (q : A.handled = none) (it l : Addr) (hne : l ≠ it) (items : Array Value) :
    Draws prog w A it [it, l] items.size (fun i v => items[i]? = some v) (fun i h => ItK k h it l i ∧ HasK k h l items) := by
  cases k
  · exact Draws.tuple q it l hne items
  · exact Draws.list q it l hne items
theorem seq_k {X : Cx} {pins : List (Addr × Obj)} {σ : L2.St} {H : Hp} {s : Shared} {k : Bool} {a : Addr} {xs : List V} (I : Inv X pins σ H s) (h : SqK k X.K H a xs) : ∃ its : List Value, Vals xs its ∧ HasK k s.heap a its.toArray ∧ xs.length ≤ sizeLine := by
  cases k
  · obtain ⟨its, r, p, z⟩ := I.tuple h
    exact ⟨its, r, p, z⟩
  · obtain ⟨its, r, p, z⟩ := I.list h
    exact ⟨its, r, p.isList, z⟩
theorem inj_k {X : Cx} {pins : List (Addr × Obj)} {σ : L2.St} {H : Hp} {s : Shared} {k : Bool} {a : Addr} {xs ys : List V} (I : Inv X pins σ H s) (h : SqK k X.K H a xs) (h' : SqK k X.K H a ys) : xs = ys := by
  cases k
  · exact I.tuple_inj h h'
  · exact I.list_inj h h'
theorem has_lt {k : Bool} {h : Heap} {a : Addr} {its : Array Value} (p : HasK k h a its) : a < h.objs.size := by
  cases k
  · obtain ⟨o, e, _⟩ := (show h.IsTuple a its from p); exact Heap.lt_size e
  · obtain ⟨o, e, _⟩ := (show h.IsList a its from p); exact Heap.lt_size e
theorem has_push {k : Bool} {h : Heap} {a : Addr} {its : Array Value} (p : HasK k h a its) (o : Obj) : HasK k (h.push o) a its := by
  cases k
  · exact Heap.IsTuple.push (show h.IsTuple a its from p) o
  · exact Heap.IsList.push (show h.IsList a its from p) o
theorem it_at {k : Bool} {h h' : Heap} {it a : Addr} {i : Nat} (p : ItK k h it a i) (e : ∀ o, h.get? it = some o → h'.get? it = some o) : ItK k h' it a i := by
  cases k
  · exact (show h.IsTupleIter it a i from p).at e
  · exact (show h.IsListIter it a i from p).at e
theorem it_obj {k : Bool} {h : Heap} {it a : Addr} {i : Nat} (p : ItK k h it a i) : ∃ o, h.get? it = some o ∧ ∀ v, o.data ≠ .cell v := by
  cases k
  · obtain ⟨o, e, _, d⟩ := (show h.IsTupleIter it a i from p)
    exact ⟨o, e, fun v z => by rw [d] at z; cases z⟩
  · obtain ⟨o, e, _, d⟩ := (show h.IsListIter it a i from p)
    exact ⟨o, e, fun v z => by rw [d] at z; cases z⟩
/-! the call -/
abbrev zk1 (k : Bool) (h : Heap) (l : Addr) : Heap := h.push { cls := .type (itC k), data := .fields #[.ref l, .int 0 0] }
abbrev zk2 (k m : Bool) (h : Heap) (l n : Addr) : Heap := (zk1 k h l).push { cls := .type (itC m), data := .fields #[.ref n, .int 0 0] }
abbrev zk3 (k m : Bool) (h : Heap) (l n : Addr) : Heap := (zk2 k m h l n).push { cls := .type "tuple", data := .seq #[.ref h.objs.size, .ref (zk1 k h l).objs.size] }
abbrev zk4 (k m : Bool) (h : Heap) (l n : Addr) : Heap := (zk3 k m h l n).push { cls := .type "tuple", data := .seq #[.none, .none] }
abbrev zk5 (k m : Bool) (h : Heap) (l n : Addr) : Heap := (zk4 k m h l n).push { cls := .type "zip", data := .fields #[.none, .bool false, .bool false, .ref (zk2 k m h l n).objs.size, .ref (zk3 k m h l n).objs.size] }
theorem meets_lt (l n : Addr) (xs ys : Array Value) : Meets (Builtin.«zip.__new__» ⟨[.type "zip", .ref l, .ref n], []⟩) (fun _ R s => HasK true s.heap l xs ∧ HasK false s.heap n ys ∧ R (.ok (.ret (.ref (zk4 true false s.heap l n).objs.size))) { s with heap := zk5 true false s.heap l n }) :=
  .of_wp fun prog w A R s h => by
    obtain ⟨hp, g, d, tk, os⟩ := s
    obtain ⟨a1, a2, h⟩ := h
    have sub := sub_zip
    have b1 : Heap.IsList (Shared.heap ⟨hp, g, d, tk, os⟩) l xs := a1
    have b2 : Heap.IsTuple (Shared.heap ⟨hp.push { cls := .type "list_iterator", data := .fields #[.ref l, .int 0 0] }, g, d, tk, os⟩) n ys := has_push (k := false) a2 _
    wp_walk using wpAny_pyIter_list b1, wpAny_pyIter_tuple b2
    exact ⟨_, rfl, h⟩
theorem meets_tl (l n : Addr) (xs ys : Array Value) : Meets (Builtin.«zip.__new__» ⟨[.type "zip", .ref l, .ref n], []⟩) (fun _ R s => HasK false s.heap l xs ∧ HasK true s.heap n ys ∧ R (.ok (.ret (.ref (zk4 false true s.heap l n).objs.size))) { s with heap := zk5 false true s.heap l n }) :=
  .of_wp fun prog w A R s h => by
    obtain ⟨hp, g, d, tk, os⟩ := s
    obtain ⟨a1, a2, h⟩ := h
    have sub := sub_zip
    have b1 : Heap.IsTuple (Shared.heap ⟨hp, g, d, tk, os⟩) l xs := a1
    have b2 : Heap.IsList (Shared.heap ⟨hp.push { cls := .type "tuple_iterator", data := .fields #[.ref l, .int 0 0] }, g, d, tk, os⟩) n ys := has_push (k := true) a2 _
    wp_walk using wpAny_pyIter_tuple b1, wpAny_pyIter_list b2
    exact ⟨_, rfl, h⟩
theorem it_zero {k : Bool} {h : Heap} {it a : Addr} (e : h.get? it = some { cls := .type (itC k), data := .fields #[.ref a, .int 0 0] }) : ItK k h it a 0 := by
  cases k
  · exact ⟨_, e, rfl, rfl⟩
  · exact ⟨_, e, rfl, rfl⟩
theorem call_zk {prog : Program} {w : World} {A : Around} {E : Value → Shared → Prop} {s : Shared} {k m : Bool} {l n : Addr} {xs ys : Array Value} {Q : Value → Shared → Prop} (a1 : HasK k s.heap l xs) (a2 : HasK m s.heap n ys)
    (h : ∀ h', IsZip h' (s.heap.objs.size + 4) (s.heap.objs.size + 2) (s.heap.objs.size + 3) .none → IsPair h' (s.heap.objs.size + 2) (.ref s.heap.objs.size) (.ref (s.heap.objs.size + 1)) → IsPair h' (s.heap.objs.size + 3) .none .none →
      ItK k h' s.heap.objs.size l 0 → ItK m h' (s.heap.objs.size + 1) n 0 → (∀ c o, s.heap.get? c = some o → h'.get? c = some o) → Q (.ref (s.heap.objs.size + 4)) { s with heap := h' }) : wpAny (model prog w) A (call (.type "zip") [.ref l, .ref n]) Q E s := by
  have mixed : ∀ (x y : Bool), HasK x s.heap l xs → HasK y s.heap n ys → Meets (Builtin.«zip.__new__» ⟨[.type "zip", .ref l, .ref n], []⟩) (fun _ R s => HasK x s.heap l xs ∧ HasK y s.heap n ys ∧ R (.ok (.ret (.ref (zk4 x y s.heap l n).objs.size))) { s with heap := zk5 x y s.heap l n }) → k = x → m = y → wpAny (model prog w) A (call (.type "zip") [.ref l, .ref n]) Q E s := by
    rintro x y a1 a2 M rfl rfl
    refine callType_new F.called_zip (by decide) (F.typeCall_zip_2 _ _) (F.newCall_zip_2 _ _) (fun obj => F.args_object_init_3 obj _ _) F.entry_zip_new M ⟨a1, a2, ?_⟩
    have up : ∀ {hh : Heap} {c : Addr} {o p : Obj}, hh.get? c = some o → (hh.push p).get? c = some o := fun e => Heap.get?_push_of_some _ e
    have n1 : (zk1 k s.heap l).objs.size = s.heap.objs.size + 1 := Heap.size_push ..
    have n2 : (zk2 k m s.heap l n).objs.size = s.heap.objs.size + 2 := by rw [Heap.size_push, n1]
    have n3 : (zk3 k m s.heap l n).objs.size = s.heap.objs.size + 3 := by rw [Heap.size_push, n2]
    have n4 : (zk4 k m s.heap l n).objs.size = s.heap.objs.size + 4 := by rw [Heap.size_push, n3]
    have e5 : (zk5 k m s.heap l n).get? (zk4 k m s.heap l n).objs.size = some { cls := .type "zip", data := .fields #[.none, .bool false, .bool false, .ref (zk2 k m s.heap l n).objs.size, .ref (zk3 k m s.heap l n).objs.size] } := Heap.get?_push_size _ rfl
    have e4 : (zk5 k m s.heap l n).get? (zk3 k m s.heap l n).objs.size = some { cls := .type "tuple", data := .seq #[.none, .none] } := up (Heap.get?_push_size _ rfl)
    have e3 : (zk5 k m s.heap l n).get? (zk2 k m s.heap l n).objs.size = some { cls := .type "tuple", data := .seq #[.ref s.heap.objs.size, .ref (zk1 k s.heap l).objs.size] } := up (up (Heap.get?_push_size _ rfl))
    have e2 : (zk5 k m s.heap l n).get? (zk1 k s.heap l).objs.size = some { cls := .type (itC m), data := .fields #[.ref n, .int 0 0] } := up (up (up (Heap.get?_push_size _ rfl)))
    have e1 : (zk5 k m s.heap l n).get? s.heap.objs.size = some { cls := .type (itC k), data := .fields #[.ref l, .int 0 0] } := up (up (up (up (Heap.get?_push_size _ rfl))))
    show _ ∧ _
    rw [n2, n3, n4] at e5
    rw [n1, n2] at e3
    rw [n3] at e4
    rw [n1] at e2
    rw [n4]
    exact ⟨⟨_, e5, rfl⟩, h _ e5 e3 e4 (it_zero e1) (it_zero e2) fun c o x => up (up (up (up (up x))))⟩
  cases k <;> cases m
  · exact RZ.call_zipT (show s.heap.IsTuple l xs from a1) (show s.heap.IsTuple n ys from a2) fun h' b1 b2 b3 b4 b5 _ b7 => h h' b1 b2 b3 b4 b5 b7
  · exact mixed _ _ a1 a2 (meets_tl l n xs ys) rfl rfl
  · exact mixed _ _ a1 a2 (meets_lt l n xs ys) rfl rfl
  · exact call_zip_2 (show s.heap.IsList l xs from a1) (show s.heap.IsList n ys from a2) fun h' b1 b2 b3 b4 b5 _ b7 => h h' b1 b2 b3 b4 b5 b7
/-! the turns -/
/-- what stands at a and b at each turn, the items in new pairs -/
def ItM (k m : Bool) (K : PySem.W.Frag) (a b : Addr) : L2.It :=
  ⟨fun i H => ∃ (xs ys : List V) (x y : V), SqK k K H a xs ∧ SqK m K H b ys ∧ xs[i]? = some x ∧ ys[i]? = some y,
    fun i H v H' => ∃ T x y, v = .ref T ∧ H T = none ∧ H' = upd H T (.tup [x, y]) ∧ (∀ zs, SqK k K H a zs → zs[i]? = some x) ∧ ∀ zs, SqK m K H b zs → zs[i]? = some y,
    fun i H => ∃ xs ys : List V, SqK k K H a xs ∧ SqK m K H b ys ∧ i ≤ xs.length ∧ i ≤ ys.length ∧ (xs.length = i ∨ ys.length = i)⟩
structure ZAt (I a b : Nat) : Prop where
  la : a < I
  lb : b < I
theorem ZAt.sep {I a b : Nat} (D : ZAt I a b) : ZipSep2 (I + 4) (I + 2) (I + 3) I (I + 1) [I, a] [I + 1, b] := by
  have h1 := D.la
  have h2 := D.lb
  have out : ∀ x y c : Nat, c ≠ x → c ≠ y → c ∉ [x, y] := fun x y c p q h => by
    rcases List.mem_cons.mp h with e | h
    · exact p e
    · exact q (List.mem_singleton.mp h)
  have le : ∀ {x y : Nat}, x < y → y ≠ x := fun h => Nat.ne_of_gt h
  have le2 : ∀ {x y : Nat}, x < y → x ≠ y := fun h => Nat.ne_of_lt h
  exact ⟨le2 (by omega), le2 (by omega), le2 (by omega), le (by omega), .head _, out _ _ _ (le (by omega)) (le (by omega)), out _ _ _ (le (by omega)) (le (by omega)), le (by omega), .head _, out _ _ _ (le (by omega)) (le (by omega)), out _ _ _ (le (by omega)) (le (by omega)), out _ _ _ (le2 (by omega)) (le (by omega)), out _ _ _ (le (by omega)) (le (by omega))⟩
/-- the cells of a zip made at I -/
def zcells (I : Addr) : List Addr := [I + 4, I + 2, I + 3, I, I + 1]
def ztn (k m : Bool) (I a b : Addr) (i : Nat) (h : Heap) : Prop := IsZip h (I + 4) (I + 2) (I + 3) .none ∧ IsPair h (I + 2) (.ref I) (.ref (I + 1)) ∧ (∃ x y, IsPair h (I + 3) x y) ∧ ItK k h I a i ∧ ItK m h (I + 1) b i
theorem zmem {I : Addr} {P : Addr → Prop} (h4 : P (I + 4)) (h2 : P (I + 2)) (h3 : P (I + 3)) (h0 : P I) (h1 : P (I + 1)) : ∀ c ∈ zcells I, P c := by
  intro c hc
  have e : c = I + 4 ∨ c = I + 2 ∨ c = I + 3 ∨ c = I ∨ c = I + 1 := by simpa [zcells] using hc
  rcases e with e | e | e | e | e <;> rw [e] <;> assumption
theorem turn_m {P : Program} {w : World} {K : PySem.W.Frag} {elts : List Expr} {kk : Nat} {tpos : Pos} {k m : Bool} {I a b : Addr} (D : ZAt I a b) : Turn P w K (.Tuple elts kk tpos) (ItM k m K a b) (zcells I) (I + 4) (ztn k m I a b) where
  mem := by simp [zcells]
  obj := fun i h ⟨z, t, ⟨x, y, o⟩, p, q⟩ => zmem ⟨_, z, fun v e => nomatch e⟩ ⟨_, t, fun v e => nomatch e⟩ ⟨_, o, fun v e => nomatch e⟩ (it_obj p) (it_obj q)
  keep := fun i h h' ⟨z, t, ⟨x, y, o⟩, p, q⟩ kp => ⟨kp _ (by simp [zcells]) _ z, kp _ (by simp [zcells]) _ t, ⟨x, y, kp _ (by simp [zcells]) _ o⟩, it_at p fun o e => kp _ (by simp [zcells]) o e, it_at q fun o e => kp _ (by simp [zcells]) o e⟩
  item := by
    intro X hP hw hK hc i pins s σ H E J hf ⟨z, t, ⟨x0, y0, o⟩, p, q⟩ ⟨xs, ys, x, y, qx, qy, hx, hy⟩
    subst hP hw hK
    obtain ⟨its, rv, has1, _⟩ := seq_k J qx
    obtain ⟨its2, rv2, has2, _⟩ := seq_k J qy
    obtain ⟨u, hu, ru⟩ := rv.get hx
    obtain ⟨u2, hu2, ru2⟩ := rv2.get hy
    have hd : X.A.in1.handled = none := J.ok.hd hc
    have na : a ≠ I := Nat.ne_of_lt D.la
    have nb : b ≠ I + 1 := Nat.ne_of_lt (Nat.lt_succ_of_lt D.lb)
    have lt1 : i < its.toArray.size := by
      have := (List.getElem?_eq_some_iff.mp hu).1
      simpa using this
    have lt2 : i < its2.toArray.size := by
      have := (List.getElem?_eq_some_iff.mp hu2).1
      simpa using this
    have lz := Heap.lt_size z
    refine wpAny_pyNext_zipD2_item D.sep (draws_k k hd I a na its.toArray) (draws_k m hd (I + 1) b nb its2.toArray) z t o ⟨p, has1⟩ ⟨q, has2⟩ lt1 lt2 fun v1 v2 h' tk e1 e2 z' o' s1 s2 T' _ kp => ?_
    have w1 : v1 = u := by
      have : its.toArray[i]? = some u := by simpa using hu
      rw [this] at e1
      exact (Option.some.inj e1).symm
    have w2 : v2 = u2 := by
      have : its2.toArray[i]? = some u2 := by simpa using hu2
      rw [this] at e2
      exact (Option.some.inj e2).symm
    subst w1 w2
    refine ⟨_, rfl, wpAny_letOwnedTupleGo_zip (s := { s with heap := h', toks := tk }) z' fun h2 z2 sb => ?_⟩
    have apart : ∀ c ∈ zcells I, c < s.heap.objs.size := zmem lz (Heap.lt_size t) (Heap.lt_size o) (by obtain ⟨_, e, _⟩ := it_obj p; exact Heap.lt_size e) (by obtain ⟨_, e, _⟩ := it_obj q; exact Heap.lt_size e)
    have T2 : h2.get? s.heap.objs.size = some { cls := .type "tuple", data := .seq #[v1, v2] } := (sb.2 _ (Nat.ne_of_gt lz)).trans T'
    have kept : ∀ c o, c ∉ zcells I → s.heap.get? c = some o → h2.get? c = some o := fun c o hn e => by
      simp only [zcells, List.mem_cons, List.not_mem_nil, or_false, not_or] at hn
      exact (sb.2 c hn.1).trans (kp c o hn.1 hn.2.2.1 hn.2.2.2.1 hn.2.2.2.2 e)
    have new : ObjOk X.prog X.w (upd H s.heap.objs.size (.tup [x, y])) h2 s.heap.objs.size (.tup [x, y]) :=
      ⟨by show 2 ≤ sizeLine; decide, [v1, v2], .cons ru (.cons ru2 .nil), ⟨_, T2, rfl, _, rfl⟩⟩
    have S := D.sep
    refine ⟨.ref s.heap.objs.size, _, J.turnedNew (t' := tk) (ch := zcells I) kept hf (Nat.le_refl _) new, rfl, ⟨_, x, y, rfl, J.hok.fresh (Nat.le_refl _), rfl, fun l hl => by rw [inj_k J hl qx]; exact hx, fun l hl => by rw [inj_k J hl qy]; exact hy⟩, ⟨z2, ?_, ⟨v1, v2, ?_⟩, ?_, ?_⟩, fun c hcm => ?_⟩
    · exact (sb.2 _ S.TIz).trans (kp _ _ S.TIz S.TITO S.TIi1 S.TIi2 t)
    · exact (sb.2 _ S.TOz).trans o'
    · exact it_at s1.1 fun o e => (sb.2 _ (Ne.symm S.zi1)).trans e
    · exact it_at s2.1 fun o e => (sb.2 _ (Ne.symm S.zi2)).trans e
    · rw [upd_ne (Nat.ne_of_lt (apart c hcm))]
      exact (hf c hcm).1
  done := by
    intro X hP hw hK hc i pins s σ H E J hf ⟨z, t, ⟨x0, y0, o⟩, p, q⟩ ⟨xs, ys, qx, qy, le1, le2, hend⟩
    subst hP hw hK
    obtain ⟨its, rv, has1, _⟩ := seq_k J qx
    obtain ⟨its2, rv2, has2, _⟩ := seq_k J qy
    have l1 := rv.length
    have l2 := rv2.length
    have hd : X.A.in1.handled = none := J.ok.hd hc
    have na : a ≠ I := Nat.ne_of_lt D.la
    have nb : b ≠ I + 1 := Nat.ne_of_lt (Nat.lt_succ_of_lt D.lb)
    refine wpAny_pyNext_zipD2_end D.sep (draws_k k hd I a na its.toArray) (draws_k m hd (I + 1) b nb its2.toArray) z t o ⟨p, has1⟩ ⟨q, has2⟩ (by simp; omega) (by simp; omega) (by simp; omega) fun h' tk kp => ?_
    refine ⟨rfl, J.turnedL (t' := tk) (ch := zcells I) (fun c o hn e => ?_) hf⟩
    simp only [zcells, List.mem_cons, List.not_mem_nil, or_false, not_or] at hn
    exact kp c o hn.1 hn.2.2.1 hn.2.2.2.1 hn.2.2.2.2 e
  self := fun A i s Q E st h => wpAny_pyIter_zip st.1 h
/-- zip(e, e2) for a pair of names -/
def iZipM (K : PySem.W.Frag) (ta : TA) : TI := fun σ H R => ta σ H fun vs H1 => ∃ k m a b xs ys, vs = [.ref a, .ref b] ∧ SqK k K H1 a xs ∧ SqK m K H1 b ys ∧ R (ItM k m K a b) H1
theorem pi_zipM {X : Cx} {e e2 : Expr} {ta : TA} {p pos tpos : Pos} {elts : List Expr} {kk : Nat} (hg : Gl X "zip") (hm : X.mg "zip" = none) (ha : PA X [e, e2] ta)
    (hs : starEach [e, e2] X.env = (false, eval e X.env) :: starEach [e2] X.env) (hpl : (backTo pos (starEach [e2] X.env)).any (·.1) = false) :
    PI X (.Tuple elts kk tpos) (.Call (.Name "zip" p) [e, e2] [] pos) (iZipM X.K ta) := by
  refine ⟨fun pins s σ H R J h => ?_⟩
  refine Call_ (ld_blt J hg hm PyProof.Rows.boot_zip (PyProof.Rows.callWith_type1 (thn (ha.run pos pins s σ H _ J h) fun us s1 ⟨vs, H1, J1, r1, k, m, a, b, xs, ys, ex, qx, qy, q⟩ => ?_) hs hpl))
  subst ex
  obtain ⟨its, _, has1, _⟩ := seq_k J1 qx
  obtain ⟨its2, _, has2, _⟩ := seq_k J1 qy
  cases r1 with
  | cons c1 r2 =>
    cases r2 with
    | cons c2 r3 =>
      cases r3
      cases c1
      cases c2
      have fresh : ∀ c ∈ zcells s1.heap.objs.size, FpOk X pins H1 c := fun c hc => by
        have le : s1.heap.objs.size ≤ c := zmem (P := fun c => s1.heap.objs.size ≤ c) (Nat.le_add_right _ _) (Nat.le_add_right _ _) (Nat.le_add_right _ _) (Nat.le_refl _) (Nat.le_add_right _ _) c hc
        exact J1.fpOk le (J1.hok.fresh le)
      exact call_zk has1 has2 fun h' z t o i1 i2 kp => wpAny_pyIter_zip z ⟨_, zcells s1.heap.objs.size, _, _, H1, rfl, J1.kept (t' := s1.toks) kp, turn_m ⟨has_lt has1, has_lt has2⟩, ⟨z, t, ⟨_, _, o⟩, i1, i2⟩, fresh, q⟩
/-! held sequences -/
def sqD : Bool → List D → D
  | true, ds => .lst false (shrs ds)
  | false, ds => .tup (shrs ds)
section
variable {K : PySem.W.Frag} {F : Fr} {W : WX} {σ : L2.St} {s : Env} {hs : En} {Y : Cx} {H : Hp} {a b : Expr}
theorem sqD_shr (k : Bool) (ds : List D) : shr (sqD k ds) = sqD k ds := by cases k <;> simp only [sqD, shr, shrs_shrs]
theorem open_k {k : Bool} {ds : List D} {v : V} (so : SOk K F σ H s ((sqD k ds, v) :: hs)) : ∃ a xs, v = .ref a ∧ SqK k K H a xs ∧ xs.length = (shrs ds).length ∧ SOk K F σ H s ((shrs ds).zip xs ++ hs) := by
  cases k
  · exact SOk.openT so
  · obtain ⟨a, xs, e, p, l, r⟩ := SOk.openD so
    exact ⟨a, xs, e, SqL.of p, l, r⟩
theorem held_k {k : Bool} {ds : List D} {p : Addr} (so : SOk K F σ H s ((sqD k ds, .ref p) :: hs)) : ∃ xs, SqK k K H p xs ∧ xs.length = (shrs ds).length := by
  obtain ⟨a, xs, e, q, l, _⟩ := open_k so
  cases e
  exact ⟨xs, q, l⟩
theorem item_k {k : Bool} {ds : List D} {p : Addr} {i : Nat} {d : D} {x : V} (so : SOk K F σ H s ((sqD k ds, .ref p) :: hs)) (e : (shrs ds)[i]? = some d) (hx : ∀ zs, SqK k K H p zs → zs[i]? = some x) : SOk K F σ H s ((d, x) :: (sqD k ds, .ref p) :: hs) := by
  have so2 := SOk.dup so
  rw [sqD_shr] at so2
  obtain ⟨a, xs, ev, q, l, so3⟩ := open_k so2
  cases ev
  obtain ⟨v, hv, so4⟩ := so3.item l e
  have := hx xs q
  rw [hv] at this
  cases this
  exact so4
theorem zipW_get {f : D → D → D} : ∀ {ds es : List D} {i : Nat} {d : D}, (List.zipWith f ds es)[i]? = some d → ∃ x y, ds[i]? = some x ∧ es[i]? = some y ∧ d = f x y := fun {ds es i d} h => by
  rw [List.getElem?_zipWith] at h
  cases h1 : ds[i]? with
  | none => rw [h1] at h; cases h
  | some x =>
    cases h2 : es[i]? with
    | none => rw [h1, h2] at h; cases h
    | some y => rw [h1, h2] at h; cases h; exact ⟨x, y, rfl, rfl, rfl⟩
theorem shrs_at {ds : List D} {i : Nat} {x : D} (h : ds[i]? = some x) : (shrs ds)[i]? = some (shr x) := by
  induction ds generalizing i with
  | nil => simp at h
  | cons d ds ih =>
    cases i with
    | zero => simp only [List.getElem?_cons_zero, Option.some.injEq] at h; subst h; rfl
    | succ i => simp only [List.getElem?_cons_succ] at h; simpa only [shrs, List.getElem?_cons_succ] using ih h
theorem shrs_len : ∀ ds : List D, (shrs ds).length = ds.length
  | [] => rfl
  | _ :: ds => by simp only [shrs, List.length_cons, shrs_len ds]
theorem wk_zip {k m : Bool} {p q : Addr} {ds es : List D} : Wk K (ItM k m K p q) [(sqD k ds, .ref p), (sqD m es, .ref q)] (List.zipWith (fun x y => .tup [shr x, shr y]) ds es) where
  go := fun {F σ H s hs i} so hi => by
    obtain ⟨xs, q1, l1⟩ := held_k so
    obtain ⟨ys, q2, l2⟩ := held_k so.drop
    rw [shrs_len] at l1 l2
    rw [List.length_zipWith] at hi
    have h1 : i < xs.length := by omega
    have h2 : i < ys.length := by omega
    exact ⟨xs, ys, _, _, q1, q2, List.getElem?_eq_getElem h1, List.getElem?_eq_getElem h2⟩
  yld := fun {F σ H H' s hs i x d} so y e => by
    obtain ⟨T, x, y, rfl, hT, rfl, f1, f2⟩ := y
    obtain ⟨d1, d2, g1, g2, rfl⟩ := zipW_get e
    have so' : SOk K F σ H s ((sqD k ds, .ref p) :: (sqD m es, .ref q) :: hs) := so
    have s1 := item_k so' (shrs_at g1) f1
    have P1 : List.Perm ((shr d1, x) :: (sqD k ds, V.ref p) :: (sqD m es, V.ref q) :: hs) ((sqD m es, V.ref q) :: (shr d1, x) :: (sqD k ds, V.ref p) :: hs) := List.perm_middle (l₁ := [(shr d1, x), (sqD k ds, V.ref p)]) (a := (sqD m es, V.ref q)) (l₂ := hs)
    have s2 := item_k (s1.held P1 (.refl _)) (shrs_at g2) f2
    have P2 : List.Perm ((shr d2, y) :: (sqD m es, V.ref q) :: (shr d1, x) :: (sqD k ds, V.ref p) :: hs) ((shr d1, x) :: (shr d2, y) :: (sqD k ds, V.ref p) :: (sqD m es, V.ref q) :: hs) := (List.perm_middle (l₁ := [(shr d2, y), (sqD m es, V.ref q)]) (a := (shr d1, x)) (l₂ := (sqD k ds, V.ref p) :: hs)).trans (((List.Perm.swap (sqD k ds, V.ref p) (sqD m es, V.ref q) hs).cons _).cons _)
    have s3 := s2.held P2 (.refl _)
    exact SOk.newT (ds := [shr d1, shr d2]) (vs := [x, y]) s3 rfl hT
  stop := fun {F σ H s hs} so => by
    obtain ⟨xs, q1, l1⟩ := held_k so
    obtain ⟨ys, q2, l2⟩ := held_k so.drop
    rw [shrs_len] at l1 l2
    rw [List.length_zipWith]
    exact ⟨xs, ys, q1, q2, by omega, by omega, by omega⟩
theorem seqS {d : D} {xs : List D} (h : itemsS d = some xs) : ∃ k, shr d = sqD k xs := by
  cases d with
  | lst o ds => cases h; exact ⟨true, rfl⟩
  | tup ds => cases h; exact ⟨false, rfl⟩
  | _ => cases h
theorem pix_zip {elts : List Expr} {kk : Nat} {tpos p pos : Pos} {x y : X} {cl : Nat → List D → MP.CR} (hK : Y.K = K) (hg : Gl Y "zip") (hm : Y.mg "zip" = none) (hn : ∀ z p, a ≠ .Starred z p) (hn2 : ∀ z p, b ≠ .Starred z p) (ha : PE Y a (tX K F W (evX cl x).val)) (hb : PE Y b (tX K F W (evX cl y).val)) :
    PI Y (.Tuple elts kk tpos) (.Call (.Name "zip" p) [a, b] [] pos) (tIt K F W (.zip x y) (evI cl (.zip x y))) := by
  subst hK
  refine PI.imp (pi_zipM hg hm (pa_cons ha (pa_cons hb pa_nil (star_plain hn2)) (star_plain hn)) (by rw [star_plain hn, star_plain hn2]) (by rw [star_plain hn2]; rfl)) fun σ H RR ⟨s, hs, so, out⟩ => ?_
  simp only [evI] at out
  refine ⟨s, hs, so, Out.step out fun d s1 _ out v H1 so1 => ⟨s1, _, so1, Out.step out fun d2 s2 _ out v2 H2 so2 => ?_⟩⟩
  cases e1 : itemsS d with
  | none => rw [e1] at out; exact (show False from out).elim
  | some xs =>
    cases e2 : itemsS d2 with
    | none => rw [e1, e2] at out; exact (show False from out).elim
    | some ys =>
      rw [e1, e2] at out
      obtain ⟨k, k1⟩ := seqS e1
      obtain ⟨m, m1⟩ := seqS e2
      have so3 := so2.shrH.swap.shrH
      rw [k1, m1] at so3
      obtain ⟨pa, za, rfl, qa, _, _⟩ := open_k so3
      obtain ⟨pb, zb, rfl, qb, _, _⟩ := open_k so3.swap
      exact ⟨k, m, pa, pb, za, zb, rfl, qa, qb, out _ _ _ wk_zip so3 trivial⟩
end
/-! list(range(..)) -/
section
variable {K : PySem.W.Frag} {F : Fr} {W : WX} {σ : L2.St} {s : Env} {hs : En} {Y : Cx} {H : Hp} {a b : Expr}
theorem den_map_ints : ∀ (f : Nat → Int) (l : List Nat), DenL K H (l.map fun k => D.int (f k)) (l.map fun k => V.int (f k)) []
  | _, [] => ⟨rfl, rfl⟩
  | f, k :: l => ⟨_, _, [], [], rfl, rfl, den_int _, den_map_ints f l⟩
theorem den_rg (i j : Int) : DenL K H (rngD i 1 (j - i).toNat) (rgV i j) [] := by
  have h := den_map_ints (K := K) (H := H) (fun k : Nat => i + (k : Int)) (List.range (j - i).toNat)
  have e : rngD i 1 (j - i).toNat = (List.range (j - i).toNat).map fun k : Nat => D.int (i + (k : Int)) := by
    unfold rngD
    exact List.map_congr_left fun k _ => by rw [Int.mul_one]
  rw [e]
  exact h
theorem px_lrg1 {p p2 pos pos2 : Pos} {x : X} {cl : Nat → List D → MP.CR} (hK : Y.K = K) (hc : Y.calm = true) (gl : Gl Y "list") (ml : Y.mg "list" = none) (gr : Gl Y "range") (mr : Y.mg "range" = none) (hn : ∀ z p, a ≠ .Starred z p) (ha : PE Y a (tX K F W (evX cl x).val)) :
    PE Y (.Call (.Name "list" p) [.Call (.Name "range" p2) [a] [] pos2] [] pos) (tX K F W fun s => (evs cl (.cons x .nil) s).bind fun ds s1 => R.of (lrgD ds) s1) := by
  subst hK
  refine PE.imp (pe_listRg hc gl ml (prg_1 gr mr ha (star_plain hn))) fun σ H Q ⟨s, hs, so, out⟩ => ?_
  simp only [evs] at out
  have out := (show OutE Y.K F W σ hs Q (((evX cl x).val s).bind fun d s1 => R.of (lrgD [d]) s1) by
    cases e : (evX cl x).val s <;> rw [e] at out <;> exact out)
  refine ⟨s, hs, so, Out.step out fun d s1 _ out v H1 so1 => ?_⟩
  obtain ⟨y, e, out2⟩ := Out.of out
  cases d with
  | int j =>
    simp only [lrgD] at e
    split at e
    · rename_i hb
      cases e
      simp only [Bool.and_eq_true, decide_eq_true_eq] at hb
      refine ⟨j, by rw [so1.int], ⟨by decide, by decide, hb.1, Int.lt_of_le_of_lt hb.2 (by decide), ?_⟩, fun q hq => out2 _ _ ?_⟩
      · rw [Int.sub_zero]; have := hb.2; omega
      · have := so1.drop.newFlat hq (den_rg (K := Y.K) 0 j)
        rwa [Int.sub_zero] at this
    · cases e
  | _ => cases e
theorem px_lrg2 {p p2 pos pos2 : Pos} {x y : X} {cl : Nat → List D → MP.CR} (hK : Y.K = K) (hc : Y.calm = true) (gl : Gl Y "list") (ml : Y.mg "list" = none) (gr : Gl Y "range") (mr : Y.mg "range" = none) (hn : ∀ z p, a ≠ .Starred z p) (hn2 : ∀ z p, b ≠ .Starred z p) (ha : PE Y a (tX K F W (evX cl x).val)) (hb : PE Y b (tX K F W (evX cl y).val)) :
    PE Y (.Call (.Name "list" p) [.Call (.Name "range" p2) [a, b] [] pos2] [] pos) (tX K F W fun s => (evs cl (.cons x (.cons y .nil)) s).bind fun ds s1 => R.of (lrgD ds) s1) := by
  subst hK
  refine PE.imp (pe_listRg hc gl ml (prg_2 gr mr ha hb (by rw [star_plain hn, star_plain hn2]) (by rw [star_plain hn2]) (by rw [star_plain hn2]; rfl))) fun σ H Q ⟨s, hs, so, out⟩ => ?_
  simp only [evs] at out
  have out := (show OutE Y.K F W σ hs Q (((evX cl x).val s).bind fun d s1 => ((evX cl y).val s1).bind fun d2 s2 => R.of (lrgD [d, d2]) s2) by
    cases e : (evX cl x).val s with
    | ok d s1 =>
      rw [e] at out
      simp only [R.bind] at out ⊢
      cases e2 : (evX cl y).val s1 <;> simp only [e2] at out ⊢ <;> exact out
    | _ => rw [e] at out; exact out)
  refine ⟨s, hs, so, Out.step out fun d s1 _ out v H1 so1 => ⟨s1, _, so1, Out.step out fun d2 s2 _ out v2 H2 so2 => ?_⟩⟩
  obtain ⟨y, e, out2⟩ := Out.of out
  cases d with
  | int i =>
    cases d2 with
    | int j =>
      simp only [lrgD] at e
      split at e
      · rename_i hb
        cases e
        simp only [Bool.and_eq_true, decide_eq_true_eq] at hb
        obtain ⟨⟨⟨h1, h2⟩, h3, h4⟩, h5⟩ := hb
        exact ⟨i, j, by rw [so2.drop.int], by rw [so2.int], ⟨h1, h2, h3, h4, h5⟩, fun q hq => out2 _ _ (so2.drop.drop.newFlat hq (den_rg i j))⟩
      · cases e
    | _ => cases e
  | _ => cases d2 <;> cases e
end
end MP
set_option linter.all false
set_option maxRecDepth 100000
set_option maxHeartbeats 4000000
/-! MiniPy: list comprehensions. -/
namespace MP
open PySem PySem.Spec PyProof.Rows L2
section
variable {K : PySem.W.Frag} {F : Fr} {W : WX} {σ : L2.St} {s : Env} {hs : En} {Y : Cx} {H : Hp}

theorem Live.wipe {σ : L2.St} {s : Env} {E : En} (h : Live σ s E) : ∀ vs : List Nat, ∃ E', List.Sublist E' E ∧ Live (L2.wipe σ vs) (wipeE s vs) E'
  | [] => ⟨E, .refl _, h⟩
  | v :: vs => by
    obtain ⟨E1, p1, h1⟩ := Live.wipe h vs
    obtain ⟨E2, p2, h2⟩ := h1.kill v none
    exact ⟨E2, p2.trans p1, h2⟩
theorem Live.unset : ∀ {σ : L2.St} {s : Env} {E : En} (i : Nat), Live (σ.set i none) s E → Live σ s E
  | [], _, _, _, h => h
  | x :: σ, s, E, 0, h => by
    cases h with
    | nil => exact .nil
    | dead h => exact .dead h
  | x :: σ, s, E, i + 1, h => by
    cases h with
    | nil => exact .nil
    | dead h => exact .dead (Live.unset i h)
    | live h => exact .live (Live.unset i h)
theorem Live.unwipe {σ : L2.St} {s : Env} {E : En} : ∀ {vs : List Nat}, Live (L2.wipe σ vs) s E → Live σ s E
  | [], h => h
  | v :: _, h => Live.unwipe (Live.unset v h)
/-- a def's frame, no slot protected -/
abbrev Fr.free (F : Fr) : Fr := { F with io := [] }
theorem SOk.wipe (x : SOk K F σ H s hs) (vs : List Nat) : SOk K F.free (L2.wipe σ vs) H (wipeE s vs) hs := by
  obtain ⟨⟨E, g, l, d, c, u⟩, k, io⟩ := x
  obtain ⟨E', p, l'⟩ := l.wipe vs
  obtain ⟨g2, d2, p2⟩ := DenE.sublist ((List.Sublist.refl hs).append p) d
  exact .mk' l' d2 (c.sub p2) (Sub.sublist (F := F) p2 u) k fun p hp => nomatch hp
theorem SOk.unwipe {vs : List Nat} (x : SOk K F.free (L2.wipe σ vs) H s hs) (io : ∀ p ∈ F.io, σ[p.1]? = some (some p.2)) : SOk K F σ H s hs := by
  obtain ⟨⟨E, g, l, d, c, u⟩, k, _⟩ := x
  exact ⟨⟨E, g, l.unwipe, d, c, u⟩, k, io⟩
theorem SOk.rewipe {vs ws : List Nat} {σ2 : L2.St} (x : SOk K F.free σ2 H s hs) (e : L2.wipe σ2 vs = L2.wipe σ vs) : SOk K F.free (L2.wipe σ vs) H (wipeE s vs) hs := by
  rw [← e]; exact SOk.wipe (F := F.free) x vs

abbrev W0 : WX := fun _ _ _ _ => False
theorem Out.W0 {α : Type} {P : α → Env → Prop} {r : R α} {a : α} {s : Env} (e : r = .ok a s) (h : P a s) : Out K F MP.W0 σ P r := by rw [e]; exact h
theorem PTs.imp {X : Cx} {e : List Expr} {t t' : TT} (h : PTs X e t) (i : ∀ σ H Q, t' σ H Q → t σ H Q) : PTs X e t' := ⟨fun pins s σ H Q I q => h.run pins s σ H Q I (i σ H Q q)⟩
theorem pts_none : PTs Y [] (tY K F W fun s => .ok true s) := PTs.imp pts_nil fun σ H Q ⟨s, hs, so, out⟩ => out H so

/-- what a comprehension's loop needs of its turns -/
theorem lc_turn {tg : Tg} {ft : Env → R Bool} {fe : Env → R D} {ws : List Nat} {d : D} {ds acc : List D} {s sF : Env} {dF : D} (e : lcL (turnL tg ft fe) ws (d :: ds) acc s = .ok dF sF) :
    ∃ s1 b s2, tgE tg d s = some s1 ∧ ft s1 = .ok b s2 ∧ (if b = true then ∃ y s3, fe s2 = .ok y s3 ∧ lenOk (acc.length + 1) = true ∧ lcL (turnL tg ft fe) ws ds (acc ++ [y]) (wipeE s3 ws) = .ok dF sF else lcL (turnL tg ft fe) ws ds acc (wipeE s2 ws) = .ok dF sF) := by
  simp only [lcL, turnL] at e
  cases h1 : tgE tg d s with
  | none => rw [h1] at e; cases e
  | some s1 =>
    simp only [h1] at e
    cases h2 : ft s1 with
    | ok b s2 =>
      simp only [h2, R.bind] at e
      cases b with
      | true =>
        rw [if_pos rfl] at e
        cases h3 : fe s2 with
        | ok y s3 =>
          simp only [h3] at e
          split at e
          · rename_i hl
            exact ⟨s1, true, s2, rfl, h2, by rw [if_pos rfl]; exact ⟨y, s3, h3, hl, e⟩⟩
          · cases e
        | _ => simp only [h3] at e; cases e
      | false =>
        rw [if_neg Bool.false_ne_true] at e
        exact ⟨s1, false, s2, rfl, h2, by rw [if_neg Bool.false_ne_true]; exact e⟩
    | _ => simp only [h2, R.bind] at e; cases e
theorem lc_loop {tg : Tg} {ft : Env → R Bool} {fe : Env → R D} {vs : List Nat} {J : L2.It} {hw : En} {ds : List D} {H1 : Hp} {s1 sF : Env} {dF : D} {Q : VK} (wk : Wk K J hw ds) (so : SOk K F σ H1 s1 (hw ++ hs))
    (e : lcL (turnL tg ft fe) vs ds [] (wipeE s1 vs) = .ok dF sF) (ht : ∀ j ∈ tgSlots tg, j ∈ vs) (q : ∀ v H', SOk K F σ H' sF ((dF, v) :: (hw ++ hs)) → Q v H') (A : Addr) (hA : H1 A = none) :
    ∃ Wv : Nat → Nat → Hp → Prop, (∃ m, Wv 0 m (upd H1 A (.lst []))) ∧ ∀ i m H, Wv i m H →
      (J.stop i H ∧ Q (.ref A) H) ∨ (J.go i H ∧ ∃ Nx : Hp → Prop, (∀ H', Nx H' → ∃ m', m' < m ∧ Wv (i + 1) m' H') ∧ ∀ x H', J.yld i H x H' → tG K F.free tg x (L2.wipe σ vs) H' fun σ2 H2 => L2.wipe σ2 vs = L2.wipe σ vs ∧ tY K F.free MP.W0 ft σ2 H2 fun b H3 =>
        if b = true then tX K F.free MP.W0 fe σ2 H3 fun y H4 => ∃ acc, H4 A = some (.lst acc) ∧ acc.length < sizeLine ∧ Nx (upd H4 A (.lst (acc ++ [y]))) else Nx H3) := by
  refine ⟨fun i m H => m = ds.length - i ∧ i ≤ ds.length ∧ ∃ s acc, SOk K F.free (L2.wipe σ vs) H s ((.lst true acc, .ref A) :: (hw ++ hs)) ∧ lcL (turnL tg ft fe) vs (ds.drop i) acc s = .ok dF sF, ⟨_, rfl, Nat.zero_le _, _, [], ?_, e⟩, fun i m H => ?_⟩
  · exact SOk.newL (ds := []) (vs := []) (so.wipe vs) rfl hA
  · rintro ⟨rfl, hi, s, acc, so1, e1⟩
    rcases Nat.lt_or_ge i ds.length with hlt | hge
    · refine .inr ⟨wk.go so1.drop hlt, ?_⟩
      rw [List.drop_eq_getElem_cons hlt] at e1
      obtain ⟨s2, b, s3, q1, q2, q3⟩ := lc_turn e1
      refine ⟨fun H' => ∃ s acc, SOk K F.free (L2.wipe σ vs) H' s ((.lst true acc, .ref A) :: (hw ++ hs)) ∧ lcL (turnL tg ft fe) vs (ds.drop (i + 1)) acc s = .ok dF sF, fun H' ⟨s, acc, a, b⟩ => ⟨_, by omega, rfl, by omega, s, acc, a, b⟩, fun x H' y => ?_⟩
      have so1' : SOk K F.free (L2.wipe σ vs) H s (hw ++ ((.lst true acc, .ref A) :: hs)) := so1.held List.perm_middle.symm (.refl _)
      have so2 := wk.yld so1' y (List.getElem?_eq_getElem hlt)
      have so2' : SOk K F.free (L2.wipe σ vs) H' s ((ds[i], x) :: ((.lst true acc, .ref A) :: (hw ++ hs))) := so2.held (.cons _ List.perm_middle) (.refl _)
      refine ⟨s, _, _, s2, so2', q1, (fun p hp => nomatch hp), fun σ' so3 hw' => ?_⟩
      have ew : L2.wipe σ' vs = L2.wipe σ vs := by rw [hw' vs ht, wipe_wipe vs vs fun _ h => h]
      refine ⟨ew, s2, _, so3, Out.W0 q2 fun H3 so4 => ?_⟩
      cases b with
      | false =>
        rw [if_neg Bool.false_ne_true] at q3 ⊢
        exact ⟨_, acc, SOk.rewipe (ws := vs) so4 ew, q3⟩
      | true =>
        rw [if_pos rfl] at q3 ⊢
        obtain ⟨y', s4, q4, q5, q6⟩ := q3
        refine ⟨s3, _, so4, Out.W0 q4 fun v H4 so5 => ?_⟩
        have so6 := so5.swap
        obtain ⟨a, xs, ev, ha, l, _⟩ := so6.openD
        cases ev
        have so7 := SOk.writeH (ds' := acc ++ [y']) (ys := xs ++ [v]) (E2 := hw ++ hs) so6 ha (by simp [l]) (by
          rw [List.zip_append l.symm, List.append_assoc]
          exact List.Perm.refl _)
        refine ⟨xs, ha, ?_, _, acc ++ [y'], SOk.rewipe (ws := vs) so7 ew, q6⟩
        have := lenOk_le q5
        omega
    · have hi' : i = ds.length := by omega
      subst hi'
      rw [List.drop_length] at e1
      have e1 : R.ok (.lst true acc) s = .ok dF sF := e1
      cases e1
      refine .inl ⟨wk.stop so1.drop, q _ _ ?_⟩
      exact so1.unwipe so.io
theorem lcL_ok {turn : D → Env → R (Option D)} {ws : List Nat} : ∀ {ds acc : List D} {s : Env}, lcL turn ws ds acc s = .stk ∨ ∃ d s', lcL turn ws ds acc s = .ok d s'
  | [], acc, s => .inr ⟨_, _, rfl⟩
  | d :: ds, acc, s => by
    simp only [lcL]
    split
    · split
      · exact lcL_ok
      · exact .inl rfl
    · exact lcL_ok
    · exact .inl rfl
/-- the reading of a comprehension -/
theorem lc_read {tg : Tg} {it : MP.It} {fe : Env → R D} {ft : Env → R Bool} {fi : Env → R (List D)} {vs : List Nat} {Q : VK} (hK : Y.K = K) (ht : ∀ j ∈ tgSlots tg, j ∈ vs)
    (h : tX K F W (fun s => (fi s).bind fun ds s1 => giveR it s (lcL (turnL tg ft fe) vs ds [] (wipeE s1 vs))) σ H Q) : tLc (tIt K F W it fi) (tG K F.free tg) (tY K F.free MP.W0 ft) (tX K F.free MP.W0 fe) vs σ H Q := by
  obtain ⟨s, hs, so, out⟩ := h
  refine ⟨s, hs, so, Out.step out fun ds s1 _ out J H' hw wk so1 hl A hA => ?_⟩
  have io := so.io
  rcases lcL_ok (turn := turnL tg ft fe) (ws := vs) (ds := ds) (acc := []) (s := wipeE s1 vs) with e | ⟨dF, sF, e⟩
  · rw [e] at out
    cases it <;> exact (show False from out).elim
  · refine lc_loop wk so1 e ht (fun v H' so2 => ?_) A hA
    rw [e] at out
    have plain : giveR it s (R.ok dF sF) = R.ok dF sF → Q v H' := fun z => by
      rw [z] at out
      exact out v H' (so2.held (.refl _) (.cons_cons _ (List.sublist_append_right _ _)))
    cases it with
    | lent i =>
      obtain ⟨d, u, e1, rfl, e2⟩ := hl
      have out : ∀ v H', SOk K F σ H' (sF.set i (getv s i)) ((dF, v) :: hs) → Q v H' := out
      refine out v H' ?_
      rw [e1]
      exact SOk.back (so2.swap) e2
    | _ => exact plain rfl
end
end MP
set_option linter.all false
set_option maxRecDepth 100000
set_option maxHeartbeats 4000000
/-! MiniPy: statements, rule by rule. -/
namespace MP
open PySem PySem.Spec PyProof.Rows L2

def OutS (K : PySem.W.Frag) (F : Fr) (W : WX) (D0 : Ends) (hs : En) : RS → Prop
  | .nx s => ∀ σ' H', SOk K F σ' H' s hs → D0.nx σ' H'
  | .ret d s => ∀ v σ' H', SOk K F σ' H' s ((d, v) :: hs) → D0.rt v H'
  | .brk s => ∀ σ' H', SOk K F σ' H' s hs → D0.bk σ' H'
  | .cnt s => ∀ σ' H', SOk K F σ' H' s hs → D0.ct σ' H'
  | .exc c s => ∀ σ' H', SOk K F σ' H' s [] → W (.ref (He.ga K c)) none σ' H'
  | .stk => False
def tS (K : PySem.W.Frag) (F : Fr) (W : WX) (f : Env → RS) : TS := fun D0 σ H => ∃ s hs, SOk K F σ H s hs ∧ OutS K F W D0 hs (f s)

section
variable {K : PySem.W.Frag} {F : Fr} {W : WX} {σ : L2.St} {s : Env} {hs : En} {Y : Cx} {H : Hp} {D0 : Ends} {pos : Pos} {cl : Nat → List D → MP.CR} {io : List Nat}

theorem Out.mono {α : Type} {P P' : α → Env → Prop} {r : R α} (h : Out K F W σ P r) (i : ∀ a s, P a s → P' a s) : Out K F W σ P' r := by
  cases r with
  | ok a s => exact i a s h
  | exc c s => exact h
  | stk => exact h
theorem OutS.step {α : Type} {P' : α → Env → Prop} {r : R α} {k : α → Env → RS} (h : OutS K F W D0 hs (r.bindS k)) (hk : ∀ a s1, r = .ok a s1 → OutS K F W D0 hs (k a s1) → P' a s1) : Out K F W σ P' r := by
  cases r with
  | ok a s1 => exact hk a s1 rfl h
  | exc c s1 => exact fun H' so => h σ H' so
  | stk => exact h
/-- a slot that no one protects -/
theorem cover {i : Nat} (hio : ∀ p ∈ F.io, p.1 ∈ io) (h : io.contains i = false) : ∀ p ∈ F.io, p.1 ≠ i := fun p hp z => by
  have := hio p hp
  rw [z] at this
  rw [List.contains_eq_mem, decide_eq_false_iff_not] at h
  exact h this
theorem setS_out {i : Nat} {d : D} {v : V} (hio : ∀ p ∈ F.io, p.1 ∈ io) (so : SOk K F σ H s ((d, v) :: hs)) (out : OutS K F W D0 hs (setS io i d s)) : D0.nx (σ.set i (some v)) H := by
  unfold setS at out
  cases h : io.contains i with
  | true => rw [h] at out; exact (show False from out).elim
  | false =>
    rw [h] at out
    exact (show ∀ σ' H', SOk K F σ' H' (s.set i (some d)) hs → D0.nx σ' H' from out) _ _ (so.store (cover hio h))
theorem sx_set {i : Nat} {x : Str} {e : Expr} {ex : X} {pos' : Pos} {t : TE} (hio : ∀ p ∈ F.io, p.1 ∈ io) (h : PS Y (.Assign [.Name x pos'] e pos) (tAsg t (gName i))) (ht : ∀ σ H Q, tX K F W (evX cl ex).val σ H Q → t σ H Q) :
    PS Y (.Assign [.Name x pos'] e pos) (tS K F W (evS cl (.set i ex) io)) := by
  refine PS.imp h fun D0 σ H ⟨s, hs, so, out⟩ => ht σ H _ ⟨s, hs, so, ?_⟩
  simp only [evS] at out
  exact OutS.step out fun d s1 _ out v H1 so1 => setS_out hio so1 out
theorem noIo_cover {tg : Tg} (hio : ∀ p ∈ F.io, p.1 ∈ io) (h : noIo io tg = true) : ∀ p ∈ F.io, p.1 ∉ tgSlots tg := fun p hp z => by
  unfold noIo at h
  have h2 := List.all_eq_true.mp h p.1 z
  have h3 := hio p hp
  simp only [List.contains_eq_mem, Bool.not_eq_true', decide_eq_false_iff_not] at h2
  exact h2 h3
theorem sx_sett {is : List Nat} {tg e : Expr} {ex : X} {t : TE} (hio : ∀ p ∈ F.io, p.1 ∈ io) (h : PS Y (.Assign [tg] e pos) (tAsg t (tG K F (.tp is)))) (ht : ∀ σ H Q, tX K F W (evX cl ex).val σ H Q → t σ H Q) :
    PS Y (.Assign [tg] e pos) (tS K F W (evS cl (.sett is ex) io)) := by
  refine PS.imp h fun D0 σ H ⟨s, hs, so, out⟩ => ht σ H _ ⟨s, hs, so, ?_⟩
  simp only [evS] at out
  refine OutS.step out fun d s1 _ out v H1 so1 => ?_
  cases hn : noIo io (.tp is) with
  | false => rw [hn] at out; exact (show False from out).elim
  | true =>
    rw [hn, if_pos rfl] at out
    cases e2 : tgE (.tp is) d s1 with
    | none => rw [e2] at out; exact (show False from out).elim
    | some s2 =>
      rw [e2] at out
      exact ⟨s1, hs, d, s2, so1, e2, noIo_cover hio hn, fun σ' so2 _ => out σ' H1 so2⟩
theorem sx_par {i j : Nat} {tg e : Expr} {a b : X} (hij : i ≠ j) (hio : ∀ p ∈ F.io, p.1 ∈ io) {ta : TA} (h : PS Y (.Assign [tg] e pos) (tPar i j ta)) (ht : ∀ σ H Q, tXs K F W (evs cl (.cons a (.cons b .nil))) σ H Q → ta σ H Q) :
    PS Y (.Assign [tg] e pos) (tS K F W (evS cl (.par i j a b) io)) := by
  refine PS.imp h fun D0 σ H ⟨s, hs, so, out⟩ => ht σ H _ ⟨s, hs, so, ?_⟩
  simp only [evS] at out
  simp only [evs]
  cases e1 : (evX cl a).val s with
  | stk => rw [e1] at out; exact out
  | exc c s1 => rw [e1] at out; exact fun H' so => out σ H' so
  | ok x s1 =>
    rw [e1] at out
    simp only [R.bindS] at out
    simp only [R.bind]
    cases e2 : (evX cl b).val s1 with
    | stk => rw [e2] at out; exact out
    | exc c s1 => rw [e2] at out; exact fun H' so => out σ H' so
    | ok y s2 =>
      rw [e2] at out
      simp only [R.bindS] at out
      intro vs H' l so'
      match vs, l with
      | [v, w], _ =>
        refine ⟨v, w, rfl, ?_⟩
        cases hi : io.contains i with
        | true => rw [hi] at out; exact (show False from out).elim
        | false =>
          cases hj : io.contains j with
          | true => rw [hi, hj] at out; exact (show False from out).elim
          | false =>
            rw [hi, hj] at out
            have so2 : SOk K F σ H' s2 ((x, v) :: (y, w) :: hs) := so'.unrev
            have so3 := (so2.store (cover hio hi)).store (cover hio hj)
            exact (show ∀ σ' H', SOk K F σ' H' ((s2.set i (some x)).set j (some y)) hs → D0.nx σ' H' from out) _ _ so3
theorem perm_set {α : Type} : ∀ (l r : List α) (j : Nat) (x : α), j < l.length → ∃ y, (l ++ x :: r).Perm (l.set j x ++ y :: r)
  | [], _, _, _, h => absurd h (Nat.not_lt_zero _)
  | y :: l, r, 0, x, _ => ⟨y, by
    show (y :: (l ++ x :: r)).Perm (x :: (l ++ y :: r))
    exact ((List.perm_middle (l₁ := l) (a := x)).cons y).trans ((List.Perm.swap x y _).trans ((List.perm_middle (l₁ := l) (a := y)).symm.cons x))⟩
  | z :: l, r, j + 1, x, h => by
    obtain ⟨y, p⟩ := perm_set l r j x (Nat.lt_of_succ_lt_succ h)
    exact ⟨y, p.cons z⟩
theorem zip_set {α β : Type} : ∀ (l : List α) (m : List β) (j : Nat) (a : α) (b : β), (l.set j a).zip (m.set j b) = (l.zip m).set j (a, b)
  | [], _, _, _, _ => by simp
  | _ :: _, [], _, _, _ => by simp
  | _ :: l, _ :: m, 0, _, _ => rfl
  | _ :: l, _ :: m, j + 1, a, b => by simp [zip_set l m j a b]
theorem ixN_lt {n j : Nat} {i : Int} (h : ixN n i = some j) : j < n := by
  unfold ixN at h
  split at h
  · split at h
    · cases h; omega
    · cases h
  · split at h
    · cases h; omega
    · cases h
theorem sx_seti {i : Nat} {x : Str} {ix e : Expr} {xi xe : X} {p1 p2 : Pos} (hK : Y.K = K) (h : PS Y (.Assign [.Subscript (.Name x p1) ix p2] e pos) (tAsg (tX K F W (evX cl xe).val) (gSub (tVar i) (tX K F W (evX cl xi).val) rSetL))) :
    PS Y (.Assign [.Subscript (.Name x p1) ix p2] e pos) (tS K F W (evS cl (.seti i xi xe) io)) := by
  refine PS.imp h fun D0 σ H ⟨s, hs, so, out⟩ => ⟨s, hs, so, ?_⟩
  simp only [evS] at out
  refine OutS.step out fun d s1 _ out v H1 so1 => ?_
  cases e1 : getv s1 i with
  | none => rw [e1] at out; exact (show False from out).elim
  | some d0 =>
    rw [e1] at out
    obtain ⟨vo, g, hσ, _⟩ := so1.peek e1
    refine ⟨vo, hσ, s1, _, so1, OutS.step out fun k s2 _ out kv H2 so2 => ?_⟩
    cases e2 : getv s2 i with
    | none => simp only [e2] at out; exact (show False from out).elim
    | some d2 =>
      simp only [e2] at out
      match d2, k, out, e2, so2 with
      | .lst true xs, .int n, out, e2, so2 =>
        simp only at out
        split at out
        · rename_i j hj
          obtain ⟨w, hw, so3⟩ := so2.move e2
          obtain ⟨a, ys, ev, ha, l, _⟩ := so3.openD
          subst ev
          rw [hσ] at hw
          cases hw
          have hjl : j < xs.length := by
            have := (ixN_seq hj).1
            exact (ixN_lt hj)
          obtain ⟨y, pm⟩ := perm_set (xs.zip ys) hs j (d, v) (by rw [List.length_zip, l, Nat.min_self]; exact hjl)
          have so4 := SOk.write (E2 := y :: hs) (ds' := xs.set j d) (ys := ys.set j v) so2.drop e2 hσ ha (by simp [l]) (by rw [zip_set]; exact pm)
          exact ⟨a, ys, n, j, rfl, so2.int, ha, by rw [l]; exact hj, out _ _ so4.drop⟩
        · exact (show False from out).elim
      | .lst false _, .int _, out, _, _ => exact (show False from out).elim
theorem sx_aug {i : Nat} {x : Str} {e : Expr} {ex : X} {o : Op} {pos' : Pos} (ho : o = .add ∨ o = .sub) (hio : ∀ p ∈ F.io, p.1 ∈ io) (h1 : o = .add → PS Y (.AugAssign (.Name x pos') (pyOp o) e pos) (tAug i (tX K F W (evX cl ex).val) (ipI fun i j => i + j)))
    (h2 : o = .sub → PS Y (.AugAssign (.Name x pos') (pyOp o) e pos) (tAug i (tX K F W (evX cl ex).val) (ipI fun i j => i - j))) : PS Y (.AugAssign (.Name x pos') (pyOp o) e pos) (tS K F W (evS cl (.aug i o ex) io)) := by
  have go : ∀ (f : Int → Int → Int), (∀ D0 : Ends, ∀ s, ∀ hs, OutS K F W D0 hs (evS cl (.aug i o ex) io s) → ∃ x, getv s i = some (.int x) ∧ OutS K F W D0 hs (((evX cl ex).val s).bindS fun d s1 => match d with
      | .int y => setS io i (.int (f x y)) s1
      | _ => .stk)) → PS Y (.AugAssign (.Name x pos') (pyOp o) e pos) (tAug i (tX K F W (evX cl ex).val) (ipI f)) → PS Y (.AugAssign (.Name x pos') (pyOp o) e pos) (tS K F W (evS cl (.aug i o ex) io)) := fun f hf h => by
    refine PS.imp h fun D0 σ H ⟨s, hs, so, out⟩ => ?_
    obtain ⟨x, ex', out⟩ := hf D0 s hs out
    obtain ⟨v, g, hσ, hd⟩ := so.peek ex'
    refine ⟨v, hσ, s, hs, so, OutS.step out fun d s1 _ out w H1 so1 => ?_⟩
    cases d with
    | int y =>
      exact ⟨x, y, hd.1, so1.int, setS_out hio (so1.drop.atom (den_int _)) out⟩
    | _ => exact (show False from out).elim
  cases o with
  | add =>
    refine go _ (fun D0 s hs out => ?_) (h1 rfl)
    simp only [evS] at out
    split at out
    · rename_i x e1
      refine ⟨x, e1, ?_⟩
      cases e2 : (evX cl ex).val s with
      | ok d s1 => rw [e2] at out; cases d <;> exact out
      | _ => rw [e2] at out; exact out
    · exact (show False from out).elim
  | sub =>
    refine go _ (fun D0 s hs out => ?_) (h2 rfl)
    simp only [evS] at out
    split at out
    · rename_i x e1
      refine ⟨x, e1, ?_⟩
      cases e2 : (evX cl ex).val s with
      | ok d s1 => rw [e2] at out; cases d <;> exact out
      | _ => rw [e2] at out; exact out
    · exact (show False from out).elim
  | _ => rcases ho with ho | ho <;> cases ho
theorem tyV_lst {o : Bool} {ds : List D} {v : V} {g : G} (h : Den K H (.lst o ds) v g) : tyV K "list" v H := by
  obtain ⟨a, xs, g', ev, ha, _⟩ := h
  subst ev
  exact .inl ⟨rfl, xs, SqL.of ha⟩
theorem sx_app {i : Nat} {x : Str} {e : Expr} {ex : X} {p1 ap cp : Pos} (hK : Y.K = K) (h : PE Y (.Call (.Attribute (.Name x p1) "append" ap) [e] [] cp) (tBM Y.K "list" rAppend (tVar i) (tXs K F W (evs cl (.cons ex .nil))))) (hsw : swapsWith (.Call (.Attribute (.Name x p1) "append" ap) [e] [] cp) none pos.line Y.env = pure false) :
    PS Y (.Expr (.Call (.Attribute (.Name x p1) "append" ap) [e] [] cp) pos) (tS K F W (evS cl (.app i ex) io)) := by
  subst hK
  refine PS.imp (ps_expr h hsw) fun D0 σ H ⟨s, hs, so, out⟩ => ?_
  simp only [evS] at out
  split at out
  · rename_i o0 ds0 e0
    obtain ⟨v, g, hσ, hd⟩ := so.peek e0
    refine ⟨v, hσ, tyV_lst hd, s, hs, so, ?_⟩
    simp only [evs]
    cases e1 : (evX cl ex).val s with
    | stk => rw [e1] at out; exact out
    | exc c s1 => rw [e1] at out; exact fun H' so => out σ H' so
    | ok d s1 =>
      rw [e1] at out
      simp only [R.bindS] at out
      intro vs H' l so'
      match vs, l with
      | [w], _ =>
        have so2 : SOk _ F σ H' s1 ((d, w) :: hs) := so'.unrev
        split at out
        · rename_i xs e2
          split at out
          · rename_i hl
            obtain ⟨u, hu, so3⟩ := so2.move e2
            obtain ⟨a, ys, ev, ha, l, _⟩ := so3.openD
            subst ev
            rw [hσ] at hu
            cases hu
            have so4 := SOk.write (E2 := hs) (ds' := xs ++ [d]) (ys := ys ++ [w]) so2 e2 hσ ha (by simp [l]) (by
              rw [List.zip_append l.symm, List.append_assoc]
              exact List.Perm.refl _)
            have := lenOk_le hl
            exact ⟨a, ys, w, rfl, rfl, ha, by omega, out _ _ so4⟩
          · exact (show False from out).elim
        · exact (show False from out).elim
  · exact (show False from out).elim
theorem sx_ext {i : Nat} {x : Str} {e : Expr} {ex : X} {p1 ap cp : Pos} (hK : Y.K = K) (h : PE Y (.Call (.Attribute (.Name x p1) "extend" ap) [e] [] cp) (tBM Y.K "list" rExtend (tVar i) (tXs K F W (evs cl (.cons ex .nil))))) (hsw : swapsWith (.Call (.Attribute (.Name x p1) "extend" ap) [e] [] cp) none pos.line Y.env = pure false) :
    PS Y (.Expr (.Call (.Attribute (.Name x p1) "extend" ap) [e] [] cp) pos) (tS K F W (evS cl (.ext i ex) io)) := by
  subst hK
  refine PS.imp (ps_expr h hsw) fun D0 σ H ⟨s, hs, so, out⟩ => ?_
  simp only [evS] at out
  split at out
  · rename_i o0 ds0 e0
    obtain ⟨v, g, hσ, hd⟩ := so.peek e0
    refine ⟨v, hσ, tyV_lst hd, s, hs, so, ?_⟩
    simp only [evs]
    cases e1 : (evX cl ex).val s with
    | stk => rw [e1] at out; exact out
    | exc c s1 => rw [e1] at out; exact fun H' so => out σ H' so
    | ok d s1 =>
      rw [e1] at out
      simp only [R.bindS] at out
      intro vs H' l so'
      match vs, l with
      | [w], _ =>
        have so2 : SOk _ F σ H' s1 ((d, w) :: hs) := so'.unrev
        split at out
        · rename_i xs o1 ys e2 _
          split at out
          · rename_i hl
            obtain ⟨b, zs, ev2, hb, l2, so5⟩ := so2.openD
            obtain ⟨u, hu, so3⟩ := so5.move e2
            obtain ⟨a, us, ev, ha, l, _⟩ := so3.openD
            subst ev
            subst ev2
            rw [hσ] at hu
            cases hu
            have so4 := SOk.write (E2 := hs) (ds' := xs ++ ys) (ys := us ++ zs) so5 e2 hσ ha (by simp [l, l2]) (by
              rw [List.zip_append l.symm, List.append_assoc])
            have := lenOk_le hl
            exact ⟨a, b, us, zs, rfl, rfl, ha, hb, by omega, out _ _ so4⟩
          · exact (show False from out).elim
        · exact (show False from out).elim
  · exact (show False from out).elim
theorem sx_ex {e : Expr} {ex : X} (h : PE Y e (tX K F W (evX cl ex).val)) (hsw : swapsWith e none pos.line Y.env = pure false) : PS Y (.Expr e pos) (tS K F W (evS cl (.ex ex) io)) := by
  refine PS.imp (ps_expr h hsw) fun D0 σ H ⟨s, hs, so, out⟩ => ⟨s, hs, so, ?_⟩
  simp only [evS] at out
  exact OutS.step out fun d s1 _ out v H1 so1 => out _ _ so1.drop
theorem sx_iff {c : Expr} {a b : List Stmt} {cx : X} {as bs : Ss} (hc : PT Y c (tY K F W (evX cl cx).tst)) (ha : PSs Y a (tS K F W (evSs cl as io))) (hb : PSs Y b (tS K F W (evSs cl bs io))) : PS Y (.If c a b pos) (tS K F W (evS cl (.iff cx as bs) io)) := by
  refine PS.imp (ps_if hc ha hb) fun D0 σ H ⟨s, hs, so, out⟩ => ⟨s, hs, so, ?_⟩
  simp only [evS] at out
  refine OutS.step out fun k s1 _ out H1 so1 => ?_
  cases k with
  | true => rw [if_pos rfl] at out ⊢; exact ⟨s1, hs, so1, out⟩
  | false => rw [if_neg Bool.false_ne_true] at out ⊢; exact ⟨s1, hs, so1, out⟩
theorem sx_ret {e : Expr} {ex : X} (h : PE Y e (tX K F W (evX cl ex).val)) : PS Y (.Return (some e) pos) (tS K F W (evS cl (.ret ex) io)) := by
  refine PS.imp (ps_ret h) fun D0 σ H ⟨s, hs, so, out⟩ => ⟨s, hs, so, ?_⟩
  simp only [evS] at out
  exact OutS.step out fun d s1 _ out v H1 so1 => out v σ H1 so1
theorem sx_retn : PS Y (.Return none pos) (tS K F W (evS cl .retn io)) := PS.imp ps_retN fun D0 σ H ⟨s, hs, so, out⟩ => out .non σ H (so.atom den_non)
theorem sx_brk : PS Y (.Break pos) (tS K F W (evS cl .brk io)) := PS.imp ps_break fun D0 σ H ⟨s, hs, so, out⟩ => out σ H so
theorem sx_cnt : PS Y (.Continue pos) (tS K F W (evS cl .cnt io)) := PS.imp ps_continue fun D0 σ H ⟨s, hs, so, out⟩ => out σ H so
theorem sx_pas : PS Y (.Pass pos) (tS K F W (evS cl .pas io)) := PS.imp ps_pass fun D0 σ H ⟨s, hs, so, out⟩ => out σ H so
theorem sx_doc {x : Str} {j : Nat} {p2 : Pos} : PS Y (.Expr (.Constant (.str x) j p2) pos) (tS K F W (evS cl .pas io)) := PS.imp ps_doc fun D0 σ H ⟨s, hs, so, out⟩ => out σ H so
theorem sxs_nil : PSs Y [] (tS K F W (evSs cl .nil io)) := PSs.imp pss_nil fun D0 σ H ⟨s, hs, so, out⟩ => by
  simp only [evSs] at out
  exact out σ H so
theorem sxs_cons {st : Stmt} {rest : List Stmt} {x : S} {xs : Ss} (h1 : PS Y st (tS K F W (evS cl x io))) (h2 : PSs Y rest (tS K F W (evSs cl xs io))) : PSs Y (st :: rest) (tS K F W (evSs cl (.cons x xs) io)) := by
  refine PSs.imp (pss_cons h1 h2) fun D0 σ H ⟨s, hs, so, out⟩ => ⟨s, hs, so, ?_⟩
  simp only [evSs] at out
  cases e : evS cl x io s with
  | nx s1 => rw [e] at out; exact fun σ' H' so1 => ⟨s1, hs, so1, out⟩
  | _ => rw [e] at out; exact out

/-! ### loops -/
theorem OutS.dropH {hw : En} {r : RS} (h : OutS K F W D0 hs r) : OutS K F W D0 (hw ++ hs) r := by
  cases r with
  | nx s => exact fun σ' H' so => h σ' H' (so.held (.refl _) (List.sublist_append_right _ _))
  | ret d s => exact fun v σ' H' so => h v σ' H' (so.held (.refl _) (.cons_cons _ (List.sublist_append_right _ _)))
  | brk s => exact fun σ' H' so => h σ' H' (so.held (.refl _) (List.sublist_append_right _ _))
  | cnt s => exact fun σ' H' so => h σ' H' (so.held (.refl _) (List.sublist_append_right _ _))
  | exc c s => exact h
  | stk => exact h
theorem SOk.frame {io' : List (Nat × V)} (so : SOk K { F with io := io' } σ H s hs) (h : ∀ p ∈ F.io, p ∈ io') : SOk K F σ H s hs := ⟨so.ex, so.kept, fun p hp => so.io p (h p hp)⟩
/-- behind a loop that a slot's list was lent to -/
theorem OutS.back {i : Nat} {d : D} {v : V} {r : RS} (h : OutS K F W D0 hs (giveBack i (some d) r)) : OutS K { F with io := (i, v) :: F.io } W D0 ((d, v) :: hs) r := by
  have sub : ∀ p ∈ F.io, p ∈ (i, v) :: F.io := fun p hp => List.mem_cons_of_mem _ hp
  cases r with
  | nx s => exact fun σ' H' so => h σ' H' (SOk.back (SOk.frame so sub) (so.io (i, v) List.mem_cons_self))
  | ret d s => exact fun u σ' H' so => h u σ' H' (SOk.frame (so.held (.refl _) (.cons_cons _ (.cons _ (.refl _)))) sub)
  | brk s => exact fun σ' H' so => h σ' H' (SOk.frame so.drop sub)
  | cnt s => exact fun σ' H' so => h σ' H' (SOk.frame so.drop sub)
  | exc c s => exact fun σ' H' so => h σ' H' (SOk.frame so sub)
  | stk => exact h
theorem for_loop {tg : Tg} {body : Env → RS} {J : L2.It} {hw : En} {ds : List D} {H1 : Hp} {s1 : Env} {tb : TS} (wk : Wk K J hw ds) (so : SOk K F σ H1 s1 (hw ++ hs)) (hb : ∀ D0 σ H, tS K F W body D0 σ H → tb D0 σ H) (hio : ∀ p ∈ F.io, p.1 ∉ tgSlots tg)
    {F0 : Fr} (hF : ∀ v σ H Q, tG K F tg v σ H Q → tG K F0 tg v σ H Q)
    (out : OutS K F W D0 (hw ++ hs) (forL tg body ds s1)) : ∃ Wv : Nat → Nat → L2.St → Hp → Prop, (∃ m, Wv 0 m σ H1) ∧ ∀ i m σ H, Wv i m σ H →
      (J.stop i H ∧ D0.nx σ H) ∨ (J.go i H ∧ ∃ N : L2.St → Hp → Prop, (∀ σ' H', N σ' H' → ∃ m', m' < m ∧ Wv (i + 1) m' σ' H') ∧ ∀ x H', J.yld i H x H' → tG K F0 tg x σ H' fun σ2 H2 => tb { D0 with nx := N, ct := N, bk := D0.nx } σ2 H2) := by
  refine ⟨fun i m σ H => m = ds.length - i ∧ i ≤ ds.length ∧ ∃ s, SOk K F σ H s (hw ++ hs) ∧ OutS K F W D0 (hw ++ hs) (forL tg body (ds.drop i) s), ⟨_, rfl, Nat.zero_le _, s1, so, out⟩, fun i m σ H => ?_⟩
  rintro ⟨rfl, hi, s, so1, out1⟩
  rcases Nat.lt_or_ge i ds.length with hlt | hge
  · refine .inr ⟨wk.go so1 hlt, ?_⟩
    rw [List.drop_eq_getElem_cons hlt] at out1
    simp only [forL] at out1
    refine ⟨fun σ H => ∃ s, SOk K F σ H s (hw ++ hs) ∧ OutS K F W D0 (hw ++ hs) (forL tg body (ds.drop (i + 1)) s), fun σ' H' ⟨s, a, b⟩ => ⟨_, by omega, rfl, by omega, s, a, b⟩, fun x H' y => ?_⟩
    have so2 := wk.yld so1 y (List.getElem?_eq_getElem hlt)
    cases e1 : tgE tg ds[i] s with
    | none => rw [e1] at out1; exact (show False from out1).elim
    | some s2 =>
      simp only [e1] at out1
      refine hF _ _ _ _ ⟨s, _, _, s2, so2, e1, hio, fun σ' so3 _ => hb _ _ _ ⟨s2, _, so3, ?_⟩⟩
      cases e2 : body s2 with
      | nx s3 => rw [e2] at out1; exact fun σ' H' so => ⟨s3, so, out1⟩
      | cnt s3 => rw [e2] at out1; exact fun σ' H' so => ⟨s3, so, out1⟩
      | brk s3 => rw [e2] at out1; exact out1
      | ret d s3 => rw [e2] at out1; exact out1
      | exc c s3 => rw [e2] at out1; exact out1
      | stk => rw [e2] at out1; exact out1
  · have hi' : i = ds.length := by omega
    subst hi'
    rw [List.drop_length] at out1
    exact .inl ⟨wk.stop so1, out1 _ _ so1⟩
theorem tG_frame {io' : List (Nat × V)} {tg : Tg} {v : V} {Q : L2.St → Hp → Prop} (h : ∀ p ∈ F.io, p ∈ io') : True := trivial
theorem sx_for {tg it : Expr} {body : List Stmt} {tgx : Tg} {ix : MP.It} {b : Ss} {wi : TI} (hp : PassesOwn (model Y.prog Y.w) Y.A Y.env Y.xe) (hc : Y.calm = true) (hio : ∀ p ∈ F.io, p.1 ∈ io) (hi : PI Y tg it (tIt K F W ix (evI cl ix)))
    (hg : ∀ io', PG Y tg (tG K { F with io := io' } tgx)) (hb : ∀ io' io2, (∀ p ∈ io', p.1 ∈ io2) → PSs Y body (tS K { F with io := io' } W (evSs cl b io2))) (hs : ∀ x, foldedSetIterable it Y.env x = pure x) :
    PS Y (.For tg it body [] pos) (tS K F W (evS cl (.for tgx ix b) io)) := by
  -- the body, the target in whatever frame
  have hb' : PSs Y body (fun D0 σ H => ∃ io' io2, (∀ p ∈ io', p.1 ∈ io2) ∧ tS K { F with io := io' } W (evSs cl b io2) D0 σ H) := ⟨fun pins s σ H D0 I ⟨io', io2, h1, h2⟩ => (hb io' io2 h1).run pins s σ H D0 I h2⟩
  have hg' : PG Y tg (fun v σ H Q => ∃ io', tG K { F with io := io' } tgx v σ H Q) := ⟨fun pins s σ H v u Q I r ⟨io', h⟩ => (hg io').run pins s σ H v u Q I r h⟩
  refine PS.imp (ps_for hp hc hi hg' hb' hs) fun D0 σ H ⟨s, hs, so, out⟩ => ⟨s, hs, so, ?_⟩
  simp only [evS] at out
  have plain : OutS K F W D0 hs ((evI cl ix s).bindS fun ds s1 => if noIo io tgx then forL tgx (evSs cl b io) ds s1 else .stk) → Out K F W σ (fun ds s' => ∀ J H' hw, Wk K J hw ds → SOk K F σ H' s' (hw ++ hs) → ∃ Wv : Nat → Nat → L2.St → Hp → Prop, (∃ m, Wv 0 m σ H') ∧ ∀ i m σ H, Wv i m σ H →
      (J.stop i H ∧ D0.nx σ H) ∨ (J.go i H ∧ ∃ N : L2.St → Hp → Prop, (∀ σ' H', N σ' H' → ∃ m', m' < m ∧ Wv (i + 1) m' σ' H') ∧ ∀ x H', J.yld i H x H' → (∃ io', tG K { F with io := io' } tgx x σ H' fun σ2 H2 => ∃ io' io2, (∀ p ∈ io', p.1 ∈ io2) ∧ tS K { F with io := io' } W (evSs cl b io2) { D0 with nx := N, ct := N, bk := D0.nx } σ2 H2))) (evI cl ix s) := fun out => by
    refine OutS.step out fun ds s1 _ out J H' hw wk so1 => ?_
    cases hn : noIo io tgx with
    | false => rw [hn] at out; exact (show False from out).elim
    | true =>
      rw [hn, if_pos rfl] at out
      obtain ⟨Wv, w0, step⟩ := for_loop (F0 := F) (tb := tS K F W (evSs cl b io)) wk so1 (fun _ _ _ h => h) (noIo_cover hio hn) (fun _ _ _ _ h => h) (OutS.dropH out)
      refine ⟨Wv, w0, fun i m σ H w => (step i m σ H w).imp id fun ⟨go, N, hN, st⟩ => ⟨go, N, hN, fun x H' y => ⟨F.io, ?_⟩⟩⟩
      obtain ⟨s, hs, d, s', a, b, c, k⟩ := st x H' y
      exact ⟨s, hs, d, s', a, b, c, fun σ' so2 hw => ⟨F.io, io, hio, k σ' so2 hw⟩⟩
  cases ix with
  | lent i =>
    refine OutS.step out fun ds s1 _ out J H' hw wk so1 ⟨d, v, e1, ehw, e2⟩ => ?_
    subst ehw
    dsimp only at out
    cases hn : noIo (i :: io) tgx with
    | false => rw [hn] at out; exact (show False from out).elim
    | true =>
      rw [hn, if_pos rfl, e1] at out
      have so2 : SOk K { F with io := (i, v) :: F.io } σ H' s1 ([(d, v)] ++ hs) := ⟨so1.ex, so1.kept, fun p hp => by
        rcases List.mem_cons.mp hp with rfl | hp
        · exact e2
        · exact so1.io p hp⟩
      have cov : ∀ p ∈ (i, v) :: F.io, p.1 ∈ i :: io := fun p hp => by
        rcases List.mem_cons.mp hp with rfl | hp
        · exact List.mem_cons_self
        · exact List.mem_cons_of_mem _ (hio p hp)
      obtain ⟨Wv, w0, step⟩ := for_loop (F := { F with io := (i, v) :: F.io }) (F0 := { F with io := (i, v) :: F.io }) (W := W) (D0 := D0) (body := evSs cl b (i :: io)) (tb := tS K { F with io := (i, v) :: F.io } W (evSs cl b (i :: io))) wk so2 (fun _ _ _ h => h) (noIo_cover (F := { F with io := (i, v) :: F.io }) cov hn) (fun _ _ _ _ h => h) (OutS.back out)
      refine ⟨Wv, w0, fun j m σ H w => (step j m σ H w).imp id fun ⟨go, N, hN, st⟩ => ⟨go, N, hN, fun x H' y => ⟨(i, v) :: F.io, ?_⟩⟩⟩
      obtain ⟨s, hs, d, s', a, b, c, k⟩ := st x H' y
      exact ⟨s, hs, d, s', a, b, c, fun σ' so2 hw => ⟨(i, v) :: F.io, i :: io, cov, k σ' so2 hw⟩⟩
  | seq x => exact Out.mono (plain out) fun ds s' h J H' hw wk so _ => h J H' hw wk so
  | rng as => exact Out.mono (plain out) fun ds s' h J H' hw wk so _ => h J H' hw wk so
  | zip a b => exact Out.mono (plain out) fun ds s' h J H' hw wk so _ => h J H' hw wk so
  | enm a => exact Out.mono (plain out) fun ds s' h J H' hw wk so _ => h J H' hw wk so
theorem sx_whl {c : Expr} {body : List Stmt} {cx : X} {b : Ss} (hp : PassesOwn (model Y.prog Y.w) Y.A Y.env Y.xe) (hc : PT Y c (tY K F W (evX cl cx).tst)) (hb : PSs Y body (tS K F W (evSs cl b io))) : PS Y (.While c body [] pos) (tS K F W (evS cl (.whl cx b) io)) := by
  refine PS.imp (ps_while hp hc hb) fun D0 σ H ⟨s, hs, so, out⟩ => ?_
  simp only [evS] at out
  refine ⟨fun m σ H => ∃ s, SOk K F σ H s hs ∧ OutS K F W D0 hs (whlL (evX cl cx).tst (evSs cl b io) m s), ⟨_, s, so, out⟩, fun m σ H ⟨s, so, out⟩ => ?_⟩
  cases m with
  | zero => exact (show False from out).elim
  | succ n =>
    simp only [whlL] at out
    refine ⟨s, hs, so, OutS.step out fun k s1 _ out H1 so1 => ?_⟩
    cases k with
    | false =>
      rw [if_neg Bool.false_ne_true] at out ⊢
      exact out _ _ so1
    | true =>
      rw [if_pos rfl] at out ⊢
      refine ⟨fun σ H => ∃ s, SOk K F σ H s hs ∧ OutS K F W D0 hs (whlL (evX cl cx).tst (evSs cl b io) n s), fun σ' H' h => ⟨n, Nat.lt_succ_self n, h⟩, s1, hs, so1, ?_⟩
      cases e2 : evSs cl b io s1 with
      | nx s3 => rw [e2] at out; exact fun σ' H' so => ⟨s3, so, out⟩
      | cnt s3 => rw [e2] at out; exact fun σ' H' so => ⟨s3, so, out⟩
      | brk s3 => rw [e2] at out; exact out
      | ret d s3 => rw [e2] at out; exact out
      | exc c s3 => rw [e2] at out; exact out
      | stk => rw [e2] at out; exact out
end
end MP
set_option linter.all false
set_option maxRecDepth 100000
set_option maxHeartbeats 4000000
/-! MiniPy: the rest of the expressions. -/
namespace MP
open PySem PySem.Spec PyProof.Rows L2
section
variable {K : PySem.W.Frag} {F : Fr} {W : WX} {σ : L2.St} {s : Env} {hs : En} {Y : Cx} {H : Hp} {a b c e : Expr} {f g h : Env → R D} {pos : Pos}

/-! ### pure reading -/
theorem opr_int (o : Op) : OpR Y (binaryOp (pyOp o)) (fun x y H Q => ∃ i j r, x = .int i ∧ y = .int j ∧ bop o (.int i) (.int j) = some r ∧ ∀ v, Den Y.K H r v [] → Q v H) := by
  intro pins st σ0 H x y v u Q I rx ry ⟨i, j, r, ex, ey, e, q⟩
  cases o with
  | add => cases e; exact op_add pins st σ0 H _ _ v u Q I rx ry ⟨i, j, ex, ey, q _ (den_int _)⟩
  | sub => cases e; exact op_sub pins st σ0 H _ _ v u Q I rx ry ⟨i, j, ex, ey, q _ (den_int _)⟩
  | mul =>
    simp only [bop] at e
    split at e
    · rename_i hm
      cases e
      exact op_mulW pins st σ0 H _ _ v u Q I rx ry ⟨i, j, ex, ey, (show i.natAbs.log2 + j.natAbs.log2 < 1000000 from of_decide_eq_true hm), q _ (den_int _)⟩
    · cases e
  | fdiv =>
    simp only [bop] at e
    split at e
    · rename_i hm
      cases e
      have hm2 : 0 < j ∧ j.natAbs.log2 < 9000 := by
        unfold divOk at hm
        simpa using hm
      exact op_fdivW pins st σ0 H _ _ v u Q I rx ry ⟨i, j, ex, ey, hm2, q _ (den_int _)⟩
    · cases e
  | mod =>
    simp only [bop] at e
    split at e
    · rename_i hm
      cases e
      exact op_mod pins st σ0 H _ _ v u Q I rx ry ⟨i, j, ex, ey, of_decide_eq_true hm, q _ (den_int _)⟩
    · cases e
  | pow =>
    simp only [bop] at e
    split at e
    · rename_i hm
      cases e
      exact op_powW pins st σ0 H _ _ v u Q I rx ry ⟨i, j, ex, ey, hm, q _ (den_int _)⟩
    · cases e
theorem bopI_int {o : Op} {x y d : D} (e : bopI o x y = some d) : ∃ i j, x = .int i ∧ y = .int j ∧ bop o (.int i) (.int j) = some d := by
  cases x with
  | int i => cases y with
    | int j => exact ⟨i, j, rfl, rfl, e⟩
    | _ => cases e
  | _ => cases e
theorem pp_bin {xa xb : MP.X} {o : Op} (hK : Y.K = K) (pa : PE Y a (tPk K F (pk xa))) (pb : PE Y b (tPk K F (pk xb))) : PE Y (.BinOp a (pyOp o) b pos) (tPk K F (pk (.bin o xa xb))) := by
  subst hK
  refine PE.imp (pe_op (opr_int o) pa pb) fun σ H Q ⟨s, hs, d, so, e, q⟩ => ?_
  simp only [pk] at e
  cases e1 : pk xa s with
  | none => simp only [e1] at e; cases e
  | some d1 =>
    cases e2 : pk xb s with
    | none => simp only [e1, e2] at e; cases e
    | some d2 =>
      simp only [e1, e2] at e
      obtain ⟨i, j, rfl, rfl, e3⟩ := bopI_int e
      exact ⟨s, hs, _, so, e1, fun v1 g1 h1 => ⟨s, hs, _, so, e2, fun v2 g2 h2 => ⟨i, j, d, h1.1, h2.1, e3, fun v hv => q v [] hv⟩⟩⟩
theorem pp_neg {xa : MP.X} (pa : PE Y a (tPk K F (pk xa))) : PE Y (.UnaryOp .USub a pos) (tPk K F (pk (.neg xa))) := by
  refine PE.imp (pe_un un_neg pa) fun σ H Q ⟨s, hs, d, so, e, q⟩ => ?_
  simp only [pk] at e
  split at e
  · rename_i i e1
    cases e
    exact ⟨s, hs, _, so, e1, fun v g hd => ⟨i, hd.1, q _ [] (den_int _)⟩⟩
  · cases e

/-! ### truth -/
theorem tru_den {d : D} {v : V} {gg : G} {k : Bool} (hd : Den K H d v gg) (e : truD d = some k) : TruV K v H k := by
  cases d with
  | non => cases e; rw [hd.1]; rfl
  | bl b => cases e; rw [hd.1]; rfl
  | int i => cases e; rw [hd.1]; rfl
  | str x =>
    simp only [truD] at e
    split at e
    · rename_i hl
      cases e
      rw [hd.1]
      exact ⟨lenOk_le hl, rfl⟩
    · cases e
  | lst o ds =>
    cases e
    obtain ⟨p, xs, g', ev, hp, _, hl⟩ := hd
    rw [ev]
    refine .inl ⟨xs, SqL.of hp, ?_⟩
    have := hl.length
    cases ds <;> cases xs <;> first | rfl | simp at this
  | tup ds =>
    cases e
    obtain ⟨p, xs, ev, hp, hl⟩ := hd
    rw [ev]
    refine .inr (.inl ⟨xs, hp, ?_⟩)
    have := hl.length
    cases ds <;> cases xs <;> first | rfl | simp at this
  | _ => cases e
theorem px_tst {xa : MP.X} (hK : Y.K = K) (ha : PE Y a (tX K F W f)) (pa : isPk xa = true → PE Y a (tPk K F (pk xa))) (he : ∀ whole, isTrue a Y.env whole = (do let v ← whole; standAt a.pos; holding [v] (truthy v))) :
    PT Y a (tY K F W (tstD xa f)) := by
  subst hK
  refine ⟨fun pins st σ H Q I ⟨s, hs, so, out⟩ => ?_⟩
  unfold tstD evP at out
  cases hp : isPk xa with
  | false =>
    rw [hp] at out
    refine (pt_truth ha he).run pins st σ H Q I ⟨s, hs, so, Out.step out fun d s1 _ out v H1 so1 => ?_⟩
    obtain ⟨k, e, out⟩ := Out.ofA out
    obtain ⟨gg, hd⟩ := so1.den
    exact ⟨k, tru_den hd e, out H1 so1.drop⟩
  | true =>
    rw [hp] at out
    dsimp only at out
    cases e1 : pk xa s with
    | none => rw [e1] at out; exact (show False from out).elim
    | some d =>
      rw [e1] at out
      obtain ⟨k, e, out⟩ := Out.ofA (show Out Y.K F W σ _ (R.of (truD d) s) from out)
      exact (pt_truth (pa hp) he).run pins st σ H Q I ⟨s, hs, d, so, e1, fun v g hd => ⟨k, tru_den hd e, out H so⟩⟩
theorem py_ife {t : Expr} {tf ta tb : Env → R Bool} (ht : PT Y t (tY K F W tf)) (ha : PT Y a (tY K F W ta)) (hb : PT Y b (tY K F W tb)) : PT Y (.IfExp t a b pos) (tY K F W fun s => (tf s).bind fun c s1 => if c then ta s1 else tb s1) := by
  refine ⟨fun pins st σ H Q I ⟨s, hs, so, out⟩ => ?_⟩
  show wpAny _ _ (do if ← isTrue t Y.env (eval t Y.env) then isTrue a Y.env (eval a Y.env) else isTrue b Y.env (eval b Y.env)) _ _ _
  refine wpAny_bind (thn (ht.run pins st σ H _ I ⟨s, hs, so, Out.step (P' := fun c s1 => ∀ H', SOk K F σ H' s1 hs → if c = true then tY K F W ta σ H' Q else tY K F W tb σ H' Q) out fun c s1 _ out H1 so1 => ?_⟩) fun c s1 ⟨H1, I1, q1⟩ => ?_)
  · cases c with
    | true => rw [if_pos rfl] at out ⊢; exact ⟨s1, hs, so1, out⟩
    | false => rw [if_neg Bool.false_ne_true] at out ⊢; exact ⟨s1, hs, so1, out⟩
  · cases c with
    | true => rw [if_pos rfl] at q1 ⊢; exact ha.run pins s1 σ H1 Q I1 q1
    | false => rw [if_neg Bool.false_ne_true] at q1 ⊢; exact hb.run pins s1 σ H1 Q I1 q1

/-! ### join -/
theorem px_join {x : Str} {xa : MP.X} {j : Nat} {p0 apos : Pos} (hK : Y.K = K) (hst : ∀ z p, a ≠ .Starred z p) (hline : (apos.endLine == pos.line) = true) (ha : PE Y a (tX K F W f)) (pa : isPk xa = true → PE Y a (tPk K F (pk xa))) :
    PE Y (.Call (.Attribute (.Constant (.str x) j p0) "join" apos) [a] [] pos) (tX K F W fun s => (evP xa f s).bind fun d s1 => fJoin x d s1) := by
  have mk : ∀ {d : D} {v : V} {gg : G} {H : Hp} {Q : VK} {s : Env}, Den Y.K H d v gg → (∀ y s', fJoin x d s = .ok y s' → s' = s ∧ ∃ zs ds o, d = .lst o ds ∧ tstrs ds = some zs ∧ (zs.map (·.length)).sum + zs.length * x.length ≤ 16777216 ∧ y = .str (Txt.join x zs)) := fun {d v gg H Q s} hd y s' e => by
    unfold fJoin at e
    cases d with
    | lst o ds =>
      dsimp only at e
      split at e
      · rename_i zs ez
        split at e
        · rename_i hb
          cases e
          exact ⟨rfl, zs, ds, o, rfl, ez, of_decide_eq_true hb, rfl⟩
        · cases e
      · cases e
    | _ => cases e
  have ok : ∀ d (s : Env), (∃ y, fJoin x d s = .ok y s) ∨ fJoin x d s = .stk := fun d s => by
    unfold fJoin
    split
    · split
      · split
        · exact .inl ⟨_, rfl⟩
        · exact .inr rfl
      · exact .inr rfl
    · exact .inr rfl
  subst hK
  have rd : ∀ {d : D} {v : V} {gg : G} {H : Hp} {Q : VK} {s : Env} {y : D}, Den Y.K H d v gg → fJoin x d s = .ok y s → (∀ u, Den Y.K H y u [] → Q u H) → ∃ a p, ∃ ys : List Str, V.str x = .str a ∧ [v] = [.ref p] ∧ (SqL Y.K H p (ys.map V.str) ∨ SqT Y.K H p (ys.map V.str)) ∧ (ys.map (·.length)).sum + ys.length * a.length ≤ 16777216 ∧ Q (.str (Txt.join a ys)) H := fun {d v gg H Q s y} hd e q => by
    obtain ⟨_, zs, ds, o, rfl, ez, hz, rfl⟩ := mk (Q := Q) hd _ _ e
    obtain ⟨p, xs, g', ev, hp, _, hl⟩ := hd
    have := tstrs_den ez hl
    subst this
    exact ⟨x, p, zs, rfl, by rw [ev], .inl (SqL.of hp), hz, q _ (den_str _)⟩
  refine ⟨fun pins st σ H Q I ⟨s, hs, so, out⟩ => ?_⟩
  dsimp only at out
  unfold evP at out
  cases hp : isPk xa with
  | false =>
    rw [hp] at out
    refine (pe_join pe_str ha (star_plain hst) rfl hline).run pins st σ H Q I ⟨⟨x, rfl⟩, s, hs, so, Out.step out fun d s1 _ out v H1 so1 => ?_⟩
    obtain ⟨gg, hd⟩ := so1.den
    rcases ok d s1 with ⟨y, e⟩ | e
    · rw [e] at out
      exact rd hd e fun u hu => out u H1 (so1.drop.atom hu)
    · rw [e] at out; exact (show False from out).elim
  | true =>
    rw [hp] at out
    dsimp only at out
    cases e1 : pk xa s with
    | none => rw [e1] at out; exact (show False from out).elim
    | some d =>
      rw [e1] at out
      have out : Out Y.K F W σ (fun d s => ∀ v H', SOk Y.K F σ H' s ((d, v) :: hs) → Q v H') (fJoin x d s) := out
      refine (pe_join pe_str (pa hp) (star_plain hst) rfl hline).run pins st σ H Q I ⟨⟨x, rfl⟩, s, hs, d, so, e1, fun v g hd => ?_⟩
      rcases ok d s with ⟨y, e⟩ | e
      · rw [e] at out
        exact rd hd e fun u hu => out u H (so.atom hu)
      · rw [e] at out; exact (show False from out).elim

/-! ### a call with an item of a slot's list -/
theorem ArgsOk.sub {t : Prop} {d : D} {i : Nat} {ds : List D} {xs : List V} {p : Addr} (x : ArgsOk K F σ H s hs [.lst false ds] [.ref p] t) (hp : H p = some (.lst xs)) (e : ds[i]? = some d) : ∃ z, xs[i]? = some z ∧ ArgsOk K F σ H s hs [d] [z] t := by
  obtain ⟨gA, gh, gE, E, a1, a2, a3, a4, a5, a6, a7, a8, a9, a10, a11⟩ := x.ex
  obtain ⟨y, ys, g1, g2, e1, e2, hd, h2⟩ := a1
  cases e1
  obtain ⟨_, rfl⟩ := h2
  obtain ⟨q, zs, g', ev, hq, eg, hl⟩ := hd
  cases ev
  rw [hp] at hq
  cases hq
  obtain ⟨z, k1, kj, k2, hz, ek, hj, _, _⟩ := hl.get e
  have mem : ∀ r ∈ kj, r ∈ gA := fun r hr => by rw [e2, eg, ek]; simp [hr]
  have sub : List.Sublist kj gA := by
    rw [e2, eg, ek, List.append_nil]
    exact .cons _ ((List.sublist_append_right k1 kj).trans (List.sublist_append_left _ k2))
  exact ⟨z, hz, ⟨kj, gh, gE, E, DenL.one hj, a2, a3, a4, a5.sub sub, a6, a7.sublist sub, a8, fun r hr => a9 r (mem r hr), fun r hr => a10 r (mem r hr), fun tt r hr => a11 tt r (mem r hr)⟩⟩
/-- an item of a slot's list, read as it lies -/
def tIt1 (K : PySem.W.Frag) (F : Fr) (i j : Nat) : TE := fun σ H Q => ∃ s hs o ds, SOk K F σ H s hs ∧ getv s i = some (.lst o ds) ∧ j < ds.length ∧ ∀ p xs z, σ[i]? = some (some (.ref p)) → H p = some (.lst xs) → xs[j]? = some z → Q z H
theorem atI_nat {α : Type} {xs : List α} {j : Nat} {z : α} (h : xs[j]? = some z) : atI xs (j : Int) = some z := by
  unfold atI ixN
  have hj : j < xs.length := (List.getElem?_eq_some_iff.mp h).1
  rw [if_pos (by omega), if_pos (by omega)]
  simpa using h
theorem pe_it1 {x : Str} {i j k : Nat} {p1 p2 p3 : Pos} (hK : Y.K = K) (hv : PE Y (.Name x p1) (tVar i)) : PE Y (.Subscript (.Name x p1) (.Constant (.int (j : Int)) k p2) p3) (tIt1 K F i j) := by
  subst hK
  refine PE.imp (pe_ix ix_seq hv pe_int (plainIx fun _ _ _ _ z => nomatch z)) fun σ H Q ⟨s, hs, o, ds, so, e, hj, q⟩ => ?_
  obtain ⟨v, hσ, so1⟩ := so.move e
  obtain ⟨a, xs, ev, ha, l, _⟩ := so1.openD
  subst ev
  have hz : xs[j]? = some xs[j] := List.getElem?_eq_getElem (by omega)
  exact ⟨_, hσ, .inl ⟨a, xs, j, xs[j], rfl, rfl, SqL.of ha, atI_nat hz, q a xs _ hσ ha hz⟩⟩
theorem shrs_get {ds : List D} {j : Nat} {d : D} (e : ds[j]? = some d) : (shrs ds)[j]? = some (shr d) := by
  induction ds generalizing j with
  | nil => simp at e
  | cons x ds ih =>
    cases j with
    | zero => simp at e; subst e; rfl
    | succ j => simpa [shrs] using ih (by simpa using e)
variable {cl : Nat → List D → MP.CR}
theorem calli_read {i j : Nat} {run : List D → MP.CR} {dv : List D} {dvs : List V} {o : Bool} {ds : List D} {d : D} {p : Addr} {xs : List V} {z : V} {Q : VK} (so : SOk K F σ H s hs) (e : getv s i = some (.lst o ds)) (ej : ds[j]? = some d) (hσ : σ[i]? = some (some (.ref p))) (hp : H p = some (.lst xs)) (hz : xs[j]? = some z)
    (hd : ∀ H, DenL K H dv dvs []) (out : OutE K F W σ hs Q (match run (shr d :: dv) with
      | .ok r [] => .ok r (if own r then s else s.set i (some (.lst false (shrs ds))))
      | .exc c [] => .exc c s
      | _ => .stk)) : spI K [] run (z :: dvs) H Q (fun cls d H' => W cls d σ H') := by
  have sv : slotV σ i = .ref p := slotV_of hσ
  have go : ∀ (t : Prop) (s0 : Env) (o0 : Bool) (ds0 : List D), SOk K F σ H s0 hs → getv s0 i = some (.lst o0 ds0) → shrs ds0 = shrs ds → (t → o0 = false ∧ shrs ds0 = ds0) → ∃ gA, DenL K H (shr d :: dv) (z :: dvs) gA ∧ Cl gA ∧ ∀ rs us H', (owns rs = true ∨ t) → Post K H gA rs us H' → us.length = rs.length ∧ SOk K F σ H' s0 (rs.zip us ++ hs) := fun t s0 o0 ds0 so0 e0 es ht => by
    have x1 : ArgsOk K F σ H (wipeE s0 []) hs [shr (.lst o0 ds0)] (fillV (.lent i .nil) [] σ) t := args_ok (t := t) (.lent i .nil) (vs := []) (vals := []) (ds := [shr (.lst o0 ds0)]) so0 rfl (by simp [fillA, e0]) List.nodup_nil (fun k hk => nomatch hk) (fun tt k hk d' hd' => by
      have : k = i := by simpa [lentA] using hk
      subst this
      rw [e0] at hd'
      cases hd'
      obtain ⟨h1, h2⟩ := ht tt
      simp only [shr]
      rw [h1, h2])
    have x2 : ArgsOk K F σ H s0 hs [.lst false (shrs ds)] [.ref p] t := by
      have : fillV (.lent i .nil) [] σ = [.ref p] := by simp only [fillV, sv]
      rw [this] at x1
      simp only [shr, es] at x1
      exact x1
    obtain ⟨z', hz', x3⟩ := x2.sub hp (shrs_get ej)
    rw [hz] at hz'
    cases hz'
    obtain ⟨gA, d1, c1, aft⟩ := x3.after so0.kept so0.io
    have := DenL.append d1 (hd H)
    rw [List.append_nil] at this
    exact ⟨gA, this, c1, aft⟩
  cases er : run (shr d :: dv) with
  | stk => rw [er] at out; exact (show False from out).elim
  | ok r os =>
    rw [er] at out
    cases os with
    | cons _ _ => exact (show False from out).elim
    | nil =>
      dsimp only at out
      cases ho : own r with
      | true =>
        rw [ho, if_pos rfl] at out
        obtain ⟨gA, d1, c1, aft⟩ := go False s o ds so e rfl fun z => z.elim
        refine ⟨_, gA, d1, c1, ?_⟩
        rw [er]
        exact ⟨rfl, fun v H' po => out v H' (aft _ _ H' (.inl (by simp [owns, ho])) po).2⟩
      | false =>
        rw [ho, if_neg Bool.false_ne_true] at out
        have so2 : SOk K F σ H (s.set i (some (.lst false (shrs ds)))) hs := by
          obtain ⟨v, hv, so'⟩ := so.share e
          simpa [shr] using so'.drop
        have e2 : getv (s.set i (some (.lst false (shrs ds)))) i = some (.lst false (shrs ds)) := by
          unfold getv at e ⊢
          have hi : i < s.length := by
            rcases Nat.lt_or_ge i s.length with h | h
            · exact h
            · rw [List.getElem?_eq_none h] at e; cases e
          rw [List.getElem?_set_self hi]
          rfl
        obtain ⟨gA, d1, c1, aft⟩ := go True _ false (shrs ds) so2 e2 (shrs_shrs ds) fun _ => ⟨rfl, shrs_shrs ds⟩
        refine ⟨_, gA, d1, c1, ?_⟩
        rw [er]
        exact ⟨rfl, fun v H' po => out v H' (aft _ _ H' (.inr trivial) po).2⟩
  | exc c os =>
    rw [er] at out
    cases os with
    | cons _ _ => exact (show False from out).elim
    | nil =>
      obtain ⟨gA, d1, c1, aft⟩ := go False s o ds so e rfl fun z => z.elim
      refine ⟨_, gA, d1, c1, ?_⟩
      rw [er]
      exact ⟨rfl, fun H' po => out H' ((aft [] [] H' (.inl rfl) po).2.held (.refl _) (List.nil_sublist _))⟩
theorem px_calli {x y : Str} {p1 p2 p3 p4 : Pos} {fn k i j kk : Nat} {fa : Addr} {fd : FuncData} {ps : List Str} {dv : List D} {dvs : List V} {dds : List Value} (hK : Y.K = K)
    (G : FnG Y.prog Y.w Y.K Y.mg Y.base k fa fd ps (spI K [] (cl fn))) (hr : Room k Y.A) (hgd : Y.A.guards = some []) (hg : Gl Y x) (hm : Y.mg x = some (.ref fa)) (hk : PySem.W.keepIn Y.K (.ref fa) = true) (hb : Binds Y.K fd ps dds) (hdv : Vals dvs dds)
    (hden : ∀ H, DenL K H dv dvs []) (tk : L2N.Takes Y W) (hv : PE Y (.Name y p2) (tVar i)) (hdb : (x == ("__debug__" : Str)) = false) :
    PE Y (.Call (.Name x p1) [.Subscript (.Name y p2) (.Constant (.int (j : Int)) kk p3) p4] [] pos) (tX K F W (evX cl (.calli fn i j dv)).val) := by
  subst hK
  refine ⟨fun pins st σ H Q I ⟨s, hs, so, out⟩ => ?_⟩
  refine wpAny_Call_Name_kw (ld_glob I hg hm ?_ hdb)
  simp only [evX, mkE, callI] at out
  have ha := pa_cons (pe_it1 (F := F) (j := j) (k := kk) (p2 := p3) (p3 := p4) rfl hv) pa_nil (star_plain (es := []) (env := Y.env) fun _ _ z => nomatch z)
  cases e : getv s i with
  | none => rw [e] at out; exact (show False from out).elim
  | some d0 =>
    rw [e] at out
    cases d0 with
    | lst o ds =>
      dsimp only at out
      cases ej : ds[j]? with
      | none => rw [ej] at out; exact (show False from out).elim
      | some d =>
        rw [ej] at out
        have hj : j < ds.length := (List.getElem?_eq_some_iff.mp ej).1
        refine PySem.W.callWith_K (h₀ := Y.base) I.ok.mod.kin hk (thn (ha.run pos pins st σ H (fun us H1 => spI Y.K [] (cl fn) (us ++ dvs) H1 Q (fun cls d H' => W cls d σ H')) I ⟨s, hs, o, ds, so, e, hj, fun p xs z h1 h2 h3 => ?_⟩) fun us s1 ⟨vs, H1, I1, r, q⟩ => ⟨I1.kIn, ?_⟩) (star_plain fun _ _ z => nomatch z) rfl
        · exact calli_read so e ej h1 h2 h3 hden out
        · exact run_fnG (E := fun σ cls d H' => W cls d σ H') G hr hgd hb hdv (passAtN tk σ) I1 r q
    | _ => exact (show False from out).elim
end
end MP
set_option linter.all false
set_option maxRecDepth 100000
set_option maxHeartbeats 4000000
/-! MiniPy: a def by its body. -/
namespace MP
open PySem PySem.Spec PyProof.Rows L2

section
variable {P : Program} {w : World} {K : PySem.W.Frag} {mg : Str → Option Value} {base : Heap}
/-- a def of the text keeps its promise where no repr is under way -/
theorem FnG.of {k : Nat} {f : Addr} {name qual : Str} {params : Arguments} {body : List Stmt} {scope : Scope} {dvs : List V} {kws : List (Str × V)} {fd : FuncData} {N ps : List Str} {sp : Sp}
    (D0 : FunD K name qual params body scope dvs kws f fd) (S : FnScope N ps scope) (len : ∀ vs H Q E, sp vs H Q E → vs.length = ps.length)
    (hb : ∀ (cdv : Value) (A : Around) (outer : List PySem.Env) (s : Shared) (H : Hp) (vs : List V) (Q : VK) (E : XK), Room k (A.deeper (envOfC qual scope s.heap.objs.size f cdv)) → A.guards = some [] → sp vs H Q E →
      ∃ t, PSs (cxOf (L2N.CX P w) P w K mg base N qual scope f cdv A outer s H E) body t ∧ t { nx := fun _ H' => Q .non H', rt := Q } (start N vs) H) : FnG P w K mg base (k + 1) f fd ps sp := by
  obtain ⟨oc, od, dV, kV, doc, pm, an, cdv, ct, osl, hfd, lk, hcd, _, _⟩ := D0.ex
  subst hfd
  constructor
  · exact len
  · intro A outer s H args us vs Q E room gd env0 bind rel wish
    have bs0 : ∀ (b : Addr) (o : Obj), base.get? b = some o → s.heap.get? b = some o := fun b o e => (env0.bs b o e).1
    have kin : K.In s.heap := env0.mod.kin.keeps bs0
    refine codeAny_call_function room.depth (kin _ _ lk) rfl S.co S.gen rfl (PySem.W.codeRec_of kin hcd) (bind _ _ _ _ (wpAny_newFunctionEnv_cells S.kind ?_ fun env he s1 x => ?_))
    · rintro ⟨n, v⟩ hn
      rcases S.par n (List.of_mem_zip hn).1 with z | z
      · exact Or.inl z
      · exact Or.inr ⟨z, PySem.W.cellsFrom_some _ _ _ (Or.inl z)⟩
    · subst he
      obtain ⟨t, ht, start_ok⟩ := hb cdv A outer s H vs Q E (room.deeper _) gd wish
      have J0 := inv_start (CX := L2N.CX P w) (E := E) S room.hd env0 (len _ _ _ _ wish) rel x
      refine ⟨(env0.mod.nolimit.keeps bs0).keeps x.toInCall.keep, codeAny_func (wpAny_mono (ht.run [] s1 (start N vs) H _ J0 start_ok) ?_ fun _ _ z => z)⟩
      intro fl s' done
      match fl, done with
      | .next, ⟨_, H', J, q⟩ => exact ⟨.non, H', J.os, J.bare, J.base, J.hok, rfl, q⟩
      | .ret u, ⟨v, _, H', J, rv, q⟩ => exact ⟨v, H', J.os, J.bare, J.base, J.hok, rv, q⟩
      | .brk, ⟨_, _, _, q⟩ => exact q.elim
      | .cont, ⟨_, _, _, q⟩ => exact q.elim

variable {H H' : Hp} {F : Fr} {σ : L2.St} {s : Env} {hs : En}
/-- what the def makes of the arguments that it may change -/
theorem io_take {vs : List V} : ∀ {io : List Nat} {s : Env} {hs : En} {os : List D}, io.Nodup → (∀ i ∈ io, (i, vs.getD i .non) ∈ F.io) → SOk K F σ H' s hs → ioOut io s = some os → os.length = io.length ∧ ∃ s', SOk K F σ H' s' (os.zip (pickV io vs) ++ hs)
  | [], s, hs, os, _, _, so, e => by cases e; exact ⟨rfl, s, so⟩
  | i :: is, s, hs, os, nd, hio, so, e => by
    simp only [ioOut] at e
    cases e1 : getv s i with
    | none => rw [e1] at e; cases e
    | some d =>
      cases e2 : ioOut is s with
      | none => rw [e1, e2] at e; cases e
      | some ds =>
        rw [e1, e2] at e
        cases e
        obtain ⟨ni, nd2⟩ := List.nodup_cons.mp nd
        obtain ⟨v, hv, so1⟩ := so.move e1
        have hv2 := so.io _ (hio i List.mem_cons_self)
        rw [hv] at hv2
        have ev : v = vs.getD i .non := Option.some.inj (Option.some.inj hv2)
        have e3 : ioOut is (s.set i none) = some ds := by
          rw [← e2]
          have : ∀ l : List Nat, i ∉ l → ioOut l (s.set i none) = ioOut l s := fun l hl => by
            induction l with
            | nil => rfl
            | cons j l ih =>
              simp only [List.mem_cons, not_or] at hl
              simp only [ioOut, getv_set_ne hl.1, ih hl.2]
          exact this is ni
        obtain ⟨l, s', so2⟩ := io_take nd2 (fun j hj => hio j (List.mem_cons_of_mem _ hj)) so1 e3
        refine ⟨by simp [l], s', ?_⟩
        have : (d :: ds).zip (pickV (i :: is) vs) = (d, v) :: ds.zip (pickV is vs) := by rw [ev]; rfl
        rw [this]
        exact so2.held List.perm_middle (.refl _)
/-- the entry's frame -/
def frame0 (H : Hp) (g : G) (io : List Nat) (vs : List V) : Fr := ⟨H, g, io.map fun i => (i, vs.getD i .non)⟩
theorem live_start : ∀ {ds : List D} {vs : List V} (m : Nat), vs.length = ds.length → Live (vs.map some ++ List.replicate m none) (ds.map some ++ List.replicate m none) (ds.zip vs)
  | [], [], 0, _ => .nil
  | [], [], m + 1, _ => .dead (live_start (ds := []) (vs := []) m rfl)
  | _ :: _, _ :: _, m, l => .live (live_start m (by simpa using l))
  | [], _ :: _, _, l => by simp at l
  | _ :: _, [], _, l => by simp at l
theorem start_ok {ds : List D} {vs : List V} {g : G} {N : List Str} {fd : FD} (d : DenL K H ds vs g) (c : Cl g) (hns : fd.ns = N.length) (hio : ∀ i ∈ fd.io, i < ds.length) : SOk K (frame0 H g fd.io vs) (start N vs) H (startE fd ds) [] := by
  have l := d.length
  refine ⟨⟨ds.zip vs, g, ?_, DenE.zip d, c, fun p hp => .inr ⟨p.2, hp, id⟩⟩, fun b o e _ => e, fun p hp => ?_⟩
  · unfold L2.start startE
    rw [hns, l]
    exact live_start _ l
  · obtain ⟨i, hi, rfl⟩ := List.mem_map.mp hp
    have hl : i < vs.length := by rw [l]; exact hio i hi
    unfold L2.start
    rw [List.getElem?_append_left (by simpa using hl), List.getElem?_map, List.getElem?_eq_getElem hl]
    simp [List.getD_eq_getElem?_getD, List.getElem?_eq_getElem hl]
theorem post_of {g : G} {io : List Nat} {vs us : List V} {rs : List D} {ds : List D} {ws : List V} (d0 : DenL K H ds ws g) (so : SOk K (frame0 H g io vs) σ H' s (rs.zip us)) (l : us.length = rs.length) : Post K H g rs us H' := by
  obtain ⟨⟨E, g1, li, dd, c, u⟩, k, _⟩ := so
  obtain ⟨k1, k2, e, h1, _⟩ := DenE.append.mp dd
  subst e
  refine ⟨⟨fun b o e n => k b o e n, fun b hb => ?_⟩, k1, DenE.unzip l h1, (Cl.append.mp c).1, fun p hp => u p (List.mem_append_left _ hp)⟩
  exact DenL.dom d0 (b, true) hb
/-- A DEF BY ITS BODY -/
theorem fn_body {k : Nat} {f : Addr} {name qual : Str} {params : Arguments} {body : List Stmt} {scope : Scope} {dvs : List V} {kws : List (Str × V)} {fdat : FuncData} {N ps : List Str} {fd : FD} {run : List D → MP.CR} {cl : Nat → List D → MP.CR}
    (D0 : FunD K name qual params body scope dvs kws f fdat) (S : FnScope N ps scope) (hns : fd.ns = N.length) (hnp : fd.np = ps.length) (hnd : fd.io.Nodup) (hlt : ∀ i ∈ fd.io, i < fd.np)
    (hrun : ∀ ds, run ds = if ds.length == fd.np then outC fd.io (evSs cl fd.body fd.io (startE fd ds)) else .stk)
    (hb : ∀ (cdv : Value) (A : Around) (outer : List PySem.Env) (s : Shared) (H : Hp) (E : XK) (F : Fr), Room k (A.deeper (envOfC qual scope s.heap.objs.size f cdv)) → A.guards = some [] → (∀ p ∈ F.io, p.1 ∈ fd.io) →
      PSs (cxOf (L2N.CX P w) P w K mg base N qual scope f cdv A outer s H E) body (tS K F (fun cls d _ H => E cls d H) (evSs cl fd.body fd.io))) : FnG P w K mg base (k + 1) f fdat ps (spI K fd.io run) := by
  refine FnG.of D0 S (fun vs H Q E ⟨ds, g, d, _, h⟩ => ?_) fun cdv A outer s H vs Q E room gd ⟨ds, g, d, c, h⟩ => ?_
  · rw [hrun] at h
    cases e : (ds.length == fd.np) with
    | true => rw [d.length, ← hnp]; simpa using e
    | false => rw [e] at h; exact h.elim
  · rw [hrun] at h
    cases e : (ds.length == fd.np) with
    | false => rw [e] at h; exact h.elim
    | true =>
      rw [e, if_pos rfl] at h
      have el : ds.length = fd.np := by simpa using e
      have lv := d.length
      have pl : (pickV fd.io vs).length = fd.io.length := by simp [pickV]
      refine ⟨_, hb cdv A outer s H E (frame0 H g fd.io vs) room gd (fun p hp => by obtain ⟨i, hi, rfl⟩ := List.mem_map.mp hp; exact hi), startE fd ds, [], start_ok d c hns (fun i hi => by rw [el]; exact hlt i hi), ?_⟩
      have io0 : ∀ i ∈ fd.io, (i, vs.getD i .non) ∈ (frame0 H g fd.io vs).io := fun i hi => List.mem_map.mpr ⟨i, hi, rfl⟩
      cases er : evSs cl fd.body fd.io (startE fd ds) with
      | ret r s1 =>
        rw [er] at h
        intro v σ' H' so
        simp only [outC] at h
        cases eo : ioOut fd.io s1 with
        | none => rw [eo] at h; exact h.elim
        | some os =>
          rw [eo] at h
          obtain ⟨lo, s2, so2⟩ := io_take hnd io0 so eo
          refine h.2 v H' (post_of (io := fd.io) (vs := vs) (σ := σ') (s := s2) d ?_ (by simp [pl, lo]))
          exact so2.held (by
            rw [List.zip_cons_cons]
            exact List.perm_append_comm) (.refl _)
      | nx s1 =>
        rw [er] at h
        intro σ' H' so
        simp only [outC] at h
        cases eo : ioOut fd.io s1 with
        | none => rw [eo] at h; exact h.elim
        | some os =>
          rw [eo] at h
          obtain ⟨lo, s2, so2⟩ := io_take hnd io0 (so.atom den_non) eo
          refine h.2 .non H' (post_of (io := fd.io) (vs := vs) (σ := σ') (s := s2) d ?_ (by simp [pl, lo]))
          exact so2.held (by
            rw [List.zip_cons_cons]
            exact List.perm_append_comm) (.refl _)
      | exc cx s1 =>
        rw [er] at h
        intro σ' H' so
        simp only [outC] at h
        cases eo : ioOut fd.io s1 with
        | none => rw [eo] at h; exact h.elim
        | some os =>
          rw [eo] at h
          obtain ⟨lo, s2, so2⟩ := io_take hnd io0 so eo
          rw [List.append_nil] at so2
          exact h.2 H' (post_of (io := fd.io) (vs := vs) (σ := σ') (s := s2) d so2 (by simp [pl, lo]))
      | brk s1 => rw [er] at h; exact h.elim
      | cnt s1 => rw [er] at h; exact h.elim
      | stk => rw [er] at h; exact h.elim
end
end MP
set_option linter.all false
set_option maxRecDepth 100000
set_option maxHeartbeats 4000000
/-! MiniPy: a text against its reading. -/
namespace MP
open PySem PySem.Spec PyProof.Rows L2

/-! ### data of the text -/
structure FI where
  np : Nat
  io : List Nat
  dv : List D
structure Gk where
  fns : List (Str × Nat)
  info : Nat → Option FI
  free : List Str
  exc : List Str
  vals : List (Str × D)
structure Ck where
  N : List Str
  sc : Scope
  blk : Option (List (Str × NameKind))
/-- the cells that the frame has made itself -/
def ownC (b : Option (List (Str × NameKind))) (x : Str) : Bool := match b with
  | none => true
  | some ns => ns.lookup x == some .cell
def toV : D → V
  | .non => .non
  | .bl b => .bl b
  | .int i => .int i
  | .str x => .str x
  | _ => .non
def atomEq : D → D → Bool
  | .non, .non => true
  | .bl a, .bl b => a == b
  | .int a, .int b => decide (a = b)
  | .str a, .str b => decide (a = b)
  | _, _ => false
def atomsEq : List D → List D → Bool
  | [], [] => true
  | a :: as, b :: bs => atomEq a b && atomsEq as bs
  | _, _ => false
theorem atomEq_eq {a b : D} (h : atomEq a b = true) : a = b := by
  cases a <;> cases b <;> first | rfl | (simp [atomEq] at h; done) | (simp [atomEq] at h; rw [h])
theorem atomEq_den {K : PySem.W.Frag} {a b : D} (h : atomEq a b = true) (H : Hp) : Den K H a (toV b) [] := by
  have := atomEq_eq h
  subst this
  cases a <;> first | exact ⟨rfl, rfl⟩ | (simp [atomEq] at h; done)
theorem atomsEq_eq : ∀ {a b : List D}, atomsEq a b = true → a = b
  | [], [], _ => rfl
  | a :: as, b :: bs, h => by
    simp only [atomsEq, Bool.and_eq_true] at h
    rw [atomEq_eq h.1, atomsEq_eq h.2]
  | [], _ :: _, h => by cases h
  | _ :: _, [], h => by cases h
theorem atomsEq_den {K : PySem.W.Frag} : ∀ {a b : List D} (h : atomsEq a b = true) (H : Hp), DenL K H a (b.map toV) []
  | [], [], _, _ => ⟨rfl, rfl⟩
  | a :: as, b :: bs, h, H => by
    simp only [atomsEq, Bool.and_eq_true] at h
    exact ⟨toV b, bs.map toV, [], [], rfl, rfl, atomEq_den h.1 H, atomsEq_den h.2 H⟩
  | [], _ :: _, h, _ => by cases h
  | _ :: _, [], h, _ => by cases h

/-! ### names -/
def notSt : Expr → Bool
  | .Starred _ _ => false
  | _ => true
def notSl : Expr → Bool
  | .Slice _ _ _ _ => false
  | _ => true
def notSet : Expr → Bool
  | .Set _ _ _ => false
  | _ => true
def notLc : Expr → Bool
  | .ListComp _ _ _ _ => false
  | .SetComp _ _ _ _ => false
  | .DictComp _ _ _ _ _ => false
  | _ => true
def okV (c : Ck) (x : Str) (i : Nat) : Bool := c.N[i]? == some x && (match c.sc.names.lookup x with
  | some .local => true
  | some .cell => true
  | some .free => true
  | _ => false) && !(x == ("__debug__" : Str)) && !(x == ("__classdict__" : Str))
def okL (c : Ck) (x : Str) (i : Nat) : Bool := c.N[i]? == some x && (match c.sc.names.lookup x with
  | some .local => true
  | some .cell => ownC c.blk x
  | _ => false)
def glo (c : Ck) (x : Str) : Bool := c.sc.names.lookup x == some .globalImplicit && !(x == ("__debug__" : Str))
def okFree (g : Gk) (c : Ck) (x : Str) : Bool := glo c x && g.free.contains x
def okK : D → Const → Bool
  | .non, .none => true
  | .bl a, .bool b => a == b
  | .int a, .int b => decide (a = b)
  | .str a, .str b => decide (a = b)
  | _, _ => false
def blkC (c : Ck) (scope : Scope) : Ck := ⟨c.N, relS scope c.sc, some scope.names⟩
def okBlk (c : Ck) (scope : Scope) (own : List (Str × Nat)) : Bool :=
  scope.kind == .function && (scope.names.all fun y => scope.names.lookup y.1 == some y.2) && (own.all fun p => c.N[p.2]? == some p.1) &&
    (scope.names.all fun y => !(y.2 == .free) || (c.sc.names.lookup y.1 == some .cell || c.sc.names.lookup y.1 == some .free)) &&
    (scope.names.all fun y => !(y.2 == .local || y.2 == .cell) || ((own.map (·.1)).contains y.1 || !c.N.contains y.1))
def okTg (c : Ck) : Tg → Expr → Bool
  | .nm i, .Name x _ => okL c x i
  | .tp is, .Tuple es _ _ => go is es
  | _, _ => false
where go : List Nat → List Expr → Bool
  | [], [] => true
  | i :: is, .Name x _ :: es => okL c x i && go is es
  | _, _ => false
def okTys (g : Gk) (c : Ck) : List Ty → List Expr → Bool
  | [], [] => true
  | t :: ts, .Name x _ :: es => x == (tyS t : Str) && (match t with
    | .cls _ => false
    | _ => true) && okFree g c x && okTys g c ts es
  | _, _ => false
def bi1s : List Bi := [.len, .int, .abs, .sum, .all, .any, .repr, .list, .tuple, .max1, .min1]

def biArity (b : Bi) : List Expr → Bool
  | [_] => bi1s.contains b
  | [_, _] => decide (b = .max2) || decide (b = .min2)
  | _ => false
def okVal (g : Gk) (c : Ck) (x : Str) (d : D) : Bool := glo c x && (match g.vals.lookup x with
  | some e => atomEq d e
  | none => false)
section
variable (g : Gk)
mutual
def okX : X → Ck → Expr → Bool
  | .v i _, c, e => match e with
    | .Name x _ => okV c x i
    | _ => false
  | .k d, c, e => match e with
    | .Constant k _ _ => okK d k
    | .Name x _ => okVal g c x d
    | _ => false
  | .bin o a b, c, e => match e with
    | .BinOp l op r _ => decide (op = pyOp o) && (okX a c l && okX b c r)
    | _ => false
  | .neg a, c, e => match e with
    | .UnaryOp op l _ => decide (op = .USub) && okX a c l
    | _ => false
  | .cmp o a b, c, e => match e with
    | .Compare l [op] [r] _ => decide (op = pyCm o) && !(decide (o = .isin) || decide (o = .notin)) && (okX a c l && okX b c r)
    | _ => false
  | .chn o p a b d, c, e => match e with
    | .Compare l [op, op2] [r, q] _ => decide (op = pyCm o) && decide (op2 = pyCm p) && !(decide (p = .isin) || decide (p = .notin)) && (okX a c l && (okX b c r && okX d c q))
    | _ => false
  | .bnot a, c, e => match e with
    | .UnaryOp op l _ => decide (op = .Not) && okX a c l
    | _ => false
  | .band a b, c, e => match e with
    | .BoolOp op es p => decide (op = .And) && (match es with
      | [x, y] => okX a c x && okX b c y
      | x :: y :: z :: r => okX a c x && okX b c (.BoolOp .And (y :: z :: r) p)
      | _ => false)
    | _ => false
  | .bor a b, c, e => match e with
    | .BoolOp op es p => decide (op = .Or) && (match es with
      | [x, y] => okX a c x && okX b c y
      | x :: y :: z :: r => okX a c x && okX b c (.BoolOp .Or (y :: z :: r) p)
      | _ => false)
    | _ => false
  | .ife t a b, c, e => match e with
    | .IfExp te ae be _ => okX t c te && (okX a c ae && okX b c be)
    | _ => false
  | .lst xs, c, e => match e with
    | .List es _ => okXs xs c es
    | _ => false
  | .tup xs, c, e => match e with
    | .Tuple es _ _ => okXs xs c es
    | _ => false
  | .ix a b, c, e => match e with
    | .Subscript o i _ => notSl i && (okX a c o && okX b c i)
    | _ => false
  | .sl a lo hi, c, e => match e with
    | .Subscript o i _ => match i with
      | .Slice l h st _ => (match st with
        | none => true
        | some _ => false) && (okX a c o && (okO lo c l && okO hi c h))
      | _ => false
    | _ => false
  | .rev a, c, e => match e with
    | .Subscript o i _ => match i with
      | .Slice l h st _ => (match l with
        | none => true
        | some _ => false) && ((match h with
        | none => true
        | some _ => false) && ((match st with
        | some (.UnaryOp op (.Constant (.int i) _ _) _) => decide (op = .USub) && decide (i = 1)
        | _ => false) && okX a c o))
      | _ => false
    | _ => false
  | .call f as dv, c, e => match e with
    | .Call fe es ks _ => match fe with
      | .Name x _ => ks.isEmpty && glo c x && decide (g.fns.lookup x = some f) && (match g.info f with
        | some fi => decide (es.length + dv.length = fi.np) && atomsEq dv (fi.dv.drop (fi.dv.length - dv.length)) && decide (dv.length ≤ fi.dv.length) && decide (posA 0 as = fi.io)
        | none => false) && okAs as c es
      | _ => false
    | _ => false
  | .calli f i j dv, c, e => match e with
    | .Call fe es ks _ => match fe, es with
      | .Name x _, [.Subscript (.Name y _) (.Constant (.int n) _ _) _] => ks.isEmpty && glo c x && decide (g.fns.lookup x = some f) && (match g.info f with
        | some fi => decide (1 + dv.length = fi.np) && atomsEq dv (fi.dv.drop (fi.dv.length - dv.length)) && decide (dv.length ≤ fi.dv.length) && decide ([] = fi.io)
        | none => false) && (okV c y i && decide (n = (j : Int)))
      | _, _ => false
    | _ => false
  | .bi b as, c, e => match e with
    | .Call fe es ks _ => match fe with
      | .Name x _ => ks.isEmpty && x == biName b && okFree g c x && biArity b es && okXs as c es
      | _ => false
    | _ => false
  | .lrg as, c, e => match e with
    | .Call fe es ks _ => match fe with
      | .Name x _ => match es with
        | [.Call fe2 es2 ks2 _] => match fe2 with
          | .Name y _ => ks.isEmpty && x == ("list" : Str) && okFree g c x && (ks2.isEmpty && y == ("range" : Str) && okFree g c y) && decide (1 ≤ es2.length) && decide (es2.length ≤ 2) && okXs as c es2
          | _ => false
        | _ => false
      | _ => false
    | _ => false
  | .isi a ts, c, e => match e with
    | .Call fe es ks _ => match fe, es with
      | .Name x _, [l, r] => ks.isEmpty && x == ("isinstance" : Str) && okFree g c x && notSt l && okX a c l && (match r with
        | .Name y _ => match ts with
          | [t] => y == (tyS t : Str) && (match t with
            | .cls _ => false
            | _ => true) && okFree g c y
          | _ => false
        | .Tuple es _ _ => lenOk ts.length && okTys g c ts es
        | _ => false)
      | _, _ => false
    | _ => false
  | .pop i, c, e => match e with
    | .Call fe es ks pos => match fe with
      | .Attribute o at' ap => match o with
        | .Name x _ => ks.isEmpty && es.isEmpty && at' == ("pop" : Str) && okV c x i && (ap.endLine == pos.line)
        | _ => false
      | _ => false
    | _ => false
  | .join s a, c, e => match e with
    | .Call fe es ks pos => match fe, es with
      | .Attribute o at' ap, [l] => match o with
        | .Constant k _ _ => ks.isEmpty && decide (k = .str s) && at' == ("join" : Str) && notSt l && (ap.endLine == pos.line) && okX a c l
        | _ => false
      | _, _ => false
    | _ => false
  | .lc el tg it cd ws, c, e => match e with
    | .ListComp elt gens scope _ => match gens with
      | [⟨tgE, itE, ifs, asy⟩] => decide (asy = 0) && okBlk c scope (ws.map fun w => (c.N.getD w "", w)) && notSet itE && okI it c tgE itE && (okTg (blkC c scope) tg tgE && (tgSlots tg).all ws.contains) &&
          okCd cd (blkC c scope) ifs && okX el (blkC c scope) elt
      | _ => false
    | _ => false
def okXs : Xs → Ck → List Expr → Bool
  | .nil, _, es => es.isEmpty
  | .cons x xs, c, es => match es with
    | e :: es => notSt e && (okX x c e && okXs xs c es)
    | [] => false
def okCd : Xo → Ck → List Expr → Bool
  | .none, _, es => es.isEmpty
  | .some t, c, es => match es with
    | [te] => okX t c te
    | _ => false
def okO : Xo → Ck → Option Expr → Bool
  | .none, _, e => e.isNone
  | .some x, c, e => match e with
    | some e => isPk x && okX x c e
    | none => false
def okAs : As → Ck → List Expr → Bool
  | .nil, _, es => es.isEmpty
  | .lent i as, c, es => match es with
    | .Name x _ :: es => okV c x i && okAs as c es
    | _ => false
  | .gone i as, c, es => match es with
    | .Name x _ :: es => okV c x i && okAs as c es
    | _ => false
  | .io i as, c, es => match es with
    | .Name x _ :: es => okV c x i && okAs as c es
    | _ => false
  | .val x as, c, es => match es with
    | e :: es => notSt e && (okX x c e && okAs as c es)
    | [] => false
  | .own x as, c, es => match es with
    | e :: es => notSt e && (okX x c e && okAs as c es)
    | [] => false
def okI : It → Ck → Expr → Expr → Bool
  | .seq x, c, _, e => okX x c e
  | .lent i, c, _, e => match e with
    | .Name x _ => okV c x i
    | _ => false
  | .rng as, c, _, e => match e with
    | .Call fe es ks _ => match fe with
      | .Name x _ => ks.isEmpty && x == ("range" : Str) && okFree g c x && decide (1 ≤ es.length) && decide (es.length ≤ 3) && okXs as c es
      | _ => false
    | _ => false
  | .zip a b, c, t, e => match t with
    | .Tuple _ _ _ => match e with
      | .Call fe es ks _ => match fe with
        | .Name x _ => match es with
          | [l, r] => ks.isEmpty && x == ("zip" : Str) && okFree g c x && (notSt l && notSt r) && (okX a c l && okX b c r)
          | _ => false
        | _ => false
      | _ => false
    | _ => false
  | .enm _, _, _, _ => false
end
/-! ### statements -/
def notTL : Expr → Bool
  | .Tuple _ _ _ => false
  | .List _ _ => false
  | _ => true
def lcOk (c : Ck) : Expr → Bool
  | .ListComp _ _ _ _ => c.sc.kind == .function
  | _ => false
/-- name = [..] on one line -/
def swB (c : Ck) (y : Str) (py pos : Pos) (scope : Scope) : Bool := c.sc.names.lookup y == some .local && py.line == pos.line && !(scope.names.any fun (n, k) => n == y && (k == .local || k == .cell))
mutual
def okS : S → Ck → Stmt → Bool
  | .set i e, c, st => match st with
    | .Assign ts v _ => match ts with
      | [.Name x _] => okL c x i && okX g e c v && (notLc v || lcOk c v)
      | _ => false
    | _ => false
  | .sett is e, c, st => match st with
    | .Assign ts v _ => match ts with
      | [t] => okTg c (.tp is) t && okX g e c v && notTL v && notLc v
      | _ => false
    | _ => false
  | .par _ _ _ _, _, _ => false
  | .seti i ix e, c, st => match st with
    | .Assign ts v _ => match ts with
      | [.Subscript (.Name x _) ixE _] => okV c x i && notSl ixE && (okX g ix c ixE && okX g e c v)
      | _ => false
    | _ => false
  | .aug i o e, c, st => match st with
    | .AugAssign t op v _ => match t with
      | .Name x _ => okL c x i && decide (op = pyOp o) && (decide (o = .add) || decide (o = .sub)) && okX g e c v
      | _ => false
    | _ => false
  | .app i e, c, st => match st with
    | .Expr (.Call (.Attribute (.Name x _) at' ap) [l] ks cp) _ => ks.isEmpty && at' == ("append" : Str) && okV c x i && notSt l && (ap.endLine == cp.line) && okX g e c l
    | _ => false
  | .ext i e, c, st => match st with
    | .Expr (.Call (.Attribute (.Name x _) at' ap) [l] ks cp) _ => ks.isEmpty && at' == ("extend" : Str) && okV c x i && notSt l && (ap.endLine == cp.line) && okX g e c l
    | _ => false
  | .ex e, c, st => match st with
    | .Expr v _ => notLc v && okX g e c v
    | _ => false
  | .iff t a b, c, st => match st with
    | .If te as bs _ => okX g t c te && (okSs a c as && okSs b c bs)
    | _ => false
  | .for tg it b, c, st => match st with
    | .For t i body el _ => el.isEmpty && notSet i && (okI g it c t i && (okTg c tg t && okSs b c body))
    | _ => false
  | .whl t b, c, st => match st with
    | .While te body el _ => el.isEmpty && (okX g t c te && okSs b c body)
    | _ => false
  | .ret e, c, st => match st with
    | .Return (some v) _ => okX g e c v
    | _ => false
  | .retn, _, st => match st with
    | .Return none _ => true
    | _ => false
  | .brk, _, st => match st with
    | .Break _ => true
    | _ => false
  | .cnt, _, st => match st with
    | .Continue _ => true
    | _ => false
  | .pas, _, st => match st with
    | .Pass _ => true
    | .Expr (.Constant (.str _) _ _) _ => true
    | _ => false
  | .rse cn, c, st => match st with
    | .Raise (some (.Call (.Name x _) es ks _)) none _ => ks.isEmpty && es.isEmpty && x == cn && glo c x && g.exc.contains x
    | _ => false
def okSs : Ss → Ck → List Stmt → Bool
  | .nil, _, sts => sts.isEmpty
  | .cons x xs, c, sts => match sts with
    | st :: rest => okS x c st && okSs xs c rest
    | [] => false
end
end
end MP
set_option linter.all false
set_option maxRecDepth 100000
set_option maxHeartbeats 4000000
/-! MiniPy: a checked expression does what its reading says. -/
namespace MP
open PySem PySem.Spec PyProof.Rows L2

structure Glob (g : Gk) (P : Program) (w : World) (K : PySem.W.Frag) (mg : Str → Option Value) (base : Heap) (n : Nat) (cl : Nat → List D → MP.CR) : Prop where
  fn : ∀ x f fi, g.fns.lookup x = some f → g.info f = some fi → ∃ fa fd ps, mg x = some (.ref fa) ∧ PySem.W.keepIn K (.ref fa) = true ∧ FnG P w K mg base n fa fd ps (spI K fi.io (cl f)) ∧ ∀ j, j ≤ fi.dv.length → ∃ dds, Vals ((fi.dv.drop j).map toV) dds ∧ Binds K fd ps dds
  free : ∀ x, g.free.contains x = true → mg x = none
  vals : ∀ x d, g.vals.lookup x = some d → ∃ u, mg x = some u ∧ RelV (toV d) u
  exc : ∀ x, g.exc.contains x = true → mg x = some (.ref (He.ga K x)) ∧ PySem.W.excIn K (He.ga K x) He.veBase "ValueError.__new__" = true ∧ PySem.W.keepIn K (.ref (He.ga K x)) = true ∧ PySem.W.subIn K (.ref (He.ga K x)) (.type "BaseException") = some true ∧ PySem.W.typeIn K (.ref (He.ga K x)) = some (.type "type")
structure Good (P : Program) (w : World) (K : PySem.W.Frag) (mg : Str → Option Value) (base : Heap) (n : Nat) (Y : Cx) (c : Ck) : Prop where
  prog : Y.prog = P
  w : Y.w = w
  K : Y.K = K
  mg : Y.mg = mg
  base : Y.base = base
  calm : Y.calm = true
  guards : Y.A.guards = some []
  room : Room n Y.A
  N : Y.N = c.N
  nd : c.N.Nodup
  sc : Y.env.scope = c.sc
  fn : ∀ x, ownC c.blk x = true → Y.fn x = true

section
variable {g : Gk} {P : Program} {w : World} {K : PySem.W.Frag} {mg : Str → Option Value} {base : Heap} {n : Nat} {cl : Nat → List D → MP.CR} {Y : Cx} {c : Ck} {F : Fr} {W : WX}
theorem kind_of (y : Str) : Y.env.kindOf y = Y.env.scope.names.lookup y := rfl
theorem okV_snd (G : Good P w K mg base n Y c) {x : Str} {i : Nat} (h : okV c x i = true) (p : Pos) : PE Y (.Name x p) (tVar i) := by
  unfold okV at h
  simp only [Bool.and_eq_true, Bool.not_eq_true', beq_iff_eq] at h
  obtain ⟨⟨⟨h1, h2⟩, h3⟩, h4⟩ := h
  refine pe_var (by rw [G.N]; exact h1) ?_ h3 h4
  unfold Vis
  rw [G.sc]
  revert h2
  split <;> intro h2
  · exact .inl (by assumption)
  · exact .inr (.inl (by assumption))
  · exact .inr (.inr (by assumption))
  · cases h2
theorem okL_snd (G : Good P w K mg base n Y c) {x : Str} {i : Nat} (h : okL c x i = true) (p : Pos) : PG Y (.Name x p) (gName i) := by
  unfold okL at h
  simp only [Bool.and_eq_true, beq_iff_eq] at h
  obtain ⟨h1, h2⟩ := h
  have hN : Y.N.Nodup := by rw [G.N]; exact G.nd
  have hi : Y.N[i]? = some x := by rw [G.N]; exact h1
  revert h2
  split <;> intro h2
  · rename_i e
    exact pg_name hN hi (.inl (by rw [G.sc]; exact e)) (.inr (by rw [G.sc]; exact e))
  · rename_i e
    exact pg_name hN hi (.inr (by rw [G.sc]; exact e)) (.inl (G.fn x h2))
  · cases h2
theorem glo_snd (G : Good P w K mg base n Y c) {x : Str} (h : glo c x = true) : Gl Y x ∧ (x == ("__debug__" : Str)) = false := by
  unfold glo at h
  simp only [Bool.and_eq_true, Bool.not_eq_true', beq_iff_eq] at h
  refine ⟨?_, h.2⟩
  show Y.env.scope.names.lookup x = _
  rw [G.sc]
  exact h.1
theorem free_snd (B : Glob g P w K mg base n cl) (G : Good P w K mg base n Y c) {x : Str} (h : okFree g c x = true) : Gl Y x ∧ Y.mg x = none := by
  unfold okFree at h
  simp only [Bool.and_eq_true] at h
  exact ⟨(glo_snd G h.1).1, by rw [G.mg]; exact B.free x h.2⟩
theorem notSt_snd {e : Expr} (h : notSt e = true) : ∀ z p, e ≠ .Starred z p := fun z p e' => by rw [e'] at h; cases h
theorem notSl_snd {e : Expr} (h : notSl e = true) : ∀ a b c d, e ≠ .Slice a b c d := fun a b c d e' => by rw [e'] at h; cases h
theorem bi_ok (G : Good P w K mg base n Y c) : BiOk Y := ⟨G.calm, G.guards, by have := G.room.un; omega⟩

/-- what a checked expression gives -/
structure Snd (K : PySem.W.Frag) (F : Fr) (W : WX) (cl : Nat → List D → MP.CR) (Y : Cx) (e : Expr) (x : MP.X) : Prop where
  val : PE Y e (tX K F W (evX cl x).val)
  tst : PT Y e (tY K F W (evX cl x).tst)
  pk : isPk x = true → PE Y e (tPk K F (MP.pk x))
  pw : ∀ op es p, e = .BoolOp op es p → PW Y e (tY K F W (evX cl x).tst)
theorem Snd.plain {e : Expr} {x : MP.X} (hK : Y.K = K) (hv : PE Y e (tX K F W (evX cl x).val)) (hp : isPk x = true → PE Y e (tPk K F (MP.pk x))) (ht : (evX cl x).tst = tstD x (evX cl x).val)
    (he : ∀ whole, isTrue e Y.env whole = (do let v ← whole; standAt e.pos; holding [v] (truthy v))) (nb : ∀ op es p, e ≠ .BoolOp op es p) : Snd K F W cl Y e x :=
  ⟨hv, by rw [ht]; exact px_tst hK hv hp he, hp, fun op es p z => absurd z (nb op es p)⟩
theorem okK_den {d : D} {k : Const} (h : okK d k = true) (j : Nat) (p : Pos) : ∃ v, PE Y (.Constant k j p) (tC v) ∧ ∀ H, Den K H d v [] := by
  cases d <;> cases k <;> first | (simp [okK] at h; done) | skip
  · exact ⟨.non, pe_non, fun H => den_non⟩
  · rename_i a b
    have : a = b := by simpa [okK] using h
    subst this
    exact ⟨.bl a, pe_bl, fun H => den_bl _⟩
  · rename_i a b
    have : a = b := by simpa [okK] using h
    subst this
    exact ⟨.int a, pe_int, fun H => den_int _⟩
  · rename_i a b
    have : a = b := by simpa [okK] using h
    subst this
    exact ⟨.str a, pe_str, fun H => den_str _⟩
theorem Good.inBlk (G : Good P w K mg base n Y c) (scope : Scope) (s : Shared) (H : Hp) (C : Addr) (cs : List (Str × Addr)) (fp : List Addr) : Good P w K mg base n (Y.blk s H scope (compEnvC scope cs C Y.env) fp) (blkC c scope) where
  prog := G.prog
  w := G.w
  K := G.K
  mg := G.mg
  base := G.base
  calm := G.calm
  guards := G.guards
  room := G.room
  N := G.N
  nd := G.nd
  sc := by
    show relS scope Y.env.scope = relS scope c.sc
    rw [G.sc]
  fn := fun x h => h
theorem takes0 {Z : Cx} : L2N.Takes Z W0 := fun _ _ ⟨_, _, _, _, _, _, _, _, _, _, _, _, _, _, _, _, w⟩ => w.elim
theorem okBlk_snd (G : Good P w K mg base n Y c) {scope : Scope} {own : List (Str × Nat)} (h : okBlk c scope own = true) : BlkOk Y.N Y.env.scope scope own := by
  unfold okBlk at h
  simp only [Bool.and_eq_true, List.all_eq_true, beq_iff_eq] at h
  obtain ⟨⟨⟨⟨h1, h2⟩, h3⟩, h4⟩, h5⟩ := h
  refine ⟨h1, h2, fun p hp => by rw [G.N]; exact h3 p hp, fun y hy e => ?_, fun y hy e => ?_⟩
  · have := h4 y hy
    rw [e] at this
    rw [G.sc]
    simpa using this
  · have := h5 y hy
    rw [G.N]
    rcases e with e | e <;> (rw [e] at this; simpa using this)
theorem okTg_snd (G : Good P w K mg base n Y c) {tg : Tg} {e : Expr} (h : okTg c tg e = true) : PG Y e (tG K F tg) := by
  cases tg with
  | nm i =>
    cases e <;> first | (simp [okTg] at h; done) | exact pgx_name (okL_snd G (by simpa [okTg] using h) _)
  | tp is =>
    cases e with
    | Tuple es k p =>
      have go : ∀ (is : List Nat) (es : List Expr), okTg.go c is es = true → PGs Y es (tGs K F is) ∧ (assignEach es Y.env).length = is.length ∧ (assignEach es Y.env).findIdx? (·.1) = none := fun is => by
        induction is with
        | nil =>
          intro es h
          cases es with
          | nil => exact ⟨pgxs_nil, rfl, rfl⟩
          | cons _ _ => cases h
        | cons i is ih =>
          intro es h
          cases es with
          | nil => cases h
          | cons e es =>
            cases e <;> first | (cases h; done) | skip
            simp only [okTg.go, Bool.and_eq_true] at h
            obtain ⟨h1, h2, h3⟩ := ih es h.2
            refine ⟨pgxs_cons (okL_snd G h.1 _) h1 rfl, ?_, ?_⟩
            · show (assignEach es Y.env).length + 1 = _
              rw [h2]; rfl
            · show List.findIdx? _ ((false, _) :: assignEach es Y.env) = none
              rw [List.findIdx?_cons]
              simp [h3]
      obtain ⟨h1, h2, h3⟩ := go is es h
      exact pgx_tup G.K G.calm h1 h2 h3
    | _ => cases h
theorem okTys_snd (B : Glob g P w K mg base n cl) (G : Good P w K mg base n Y c) : ∀ {ts : List Ty} {es : List Expr}, okTys g c ts es = true → PA Y es (tTys ts) ∧ ∀ t ∈ ts, ∀ c, t ≠ .cls c
  | [], [], _ => ⟨pxt_nil, fun _ h => nomatch h⟩
  | t :: ts, e :: es, h => by
    cases e <;> first | (cases h; done) | skip
    simp only [okTys, Bool.and_eq_true, beq_iff_eq] at h
    obtain ⟨⟨⟨h1, h2⟩, h3⟩, h4⟩ := h
    obtain ⟨q1, q2⟩ := okTys_snd B G h4
    have ht : ∀ c, t ≠ .cls c := fun c z => by rw [z] at h2; cases h2
    subst h1
    obtain ⟨f1, f2⟩ := free_snd B G h3
    refine ⟨pxt_cons ht f1 f2 q1, fun u hu => ?_⟩
    rcases List.mem_cons.mp hu with rfl | hu
    · exact ht
    · exact q2 u hu
  | [], _ :: _, h => by cases h
  | _ :: _, [], h => by cases h
/-- no star anywhere -/
theorem plain_args : ∀ {es : List Expr} {pos : Pos}, (∀ e ∈ es, notSt e = true) → (backTo pos (starEach es Y.env)).any (·.1) = false
  | [], _, _ => rfl
  | e :: es, pos, h => by
    rw [star_plain (notSt_snd (h e List.mem_cons_self))]
    show (false || (backTo pos (starEach es Y.env)).any (·.1)) = false
    rw [plain_args fun e he => h e (List.mem_cons_of_mem _ he)]
    rfl
theorem fset {e : Expr} (h : notSet e = true) : ∀ x, foldedSetIterable e Y.env x = pure x := fun x => by
  cases e <;> first | rfl | (cases h; done)
end
end MP
set_option linter.all false
set_option maxRecDepth 100000
set_option maxHeartbeats 8000000
/-! MiniPy: the walk over a checked expression. -/
namespace MP
open PySem PySem.Spec PyProof.Rows L2
section
variable {g : Gk} {P : Program} {w : World} {K : PySem.W.Frag} {mg : Str → Option Value} {base : Heap} {n : Nat} {cl : Nat → List D → MP.CR}
/-- what a call of a def needs -/
theorem call_facts (B : Glob g P w K mg base n cl) {Y : Cx} {c : Ck} (G : Good P w K mg base n Y c) {x : Str} {f m : Nat} {dv : List D} {io : List Nat} (hg : glo c x = true) (hf : g.fns.lookup x = some f)
    (hi : (match g.info f with
      | some fi => decide (m + dv.length = fi.np) && atomsEq dv (fi.dv.drop (fi.dv.length - dv.length)) && decide (dv.length ≤ fi.dv.length) && decide (io = fi.io)
      | none => false) = true) : ∃ fa fd ps dvs dds, FnG Y.prog Y.w Y.K Y.mg Y.base n fa fd ps (spI K io (cl f)) ∧ Gl Y x ∧ Y.mg x = some (.ref fa) ∧ PySem.W.keepIn Y.K (.ref fa) = true ∧ Binds Y.K fd ps dds ∧ Vals dvs dds ∧ (∀ H, DenL K H dv dvs []) ∧ (x == ("__debug__" : Str)) = false := by
  cases e : g.info f with
  | none => rw [e] at hi; cases hi
  | some fi =>
    rw [e] at hi
    simp only [Bool.and_eq_true, decide_eq_true_eq] at hi
    obtain ⟨⟨⟨h1, h2⟩, h3⟩, h4⟩ := hi
    obtain ⟨fa, fd, ps, a1, a2, a3, a4⟩ := B.fn x f fi hf e
    obtain ⟨dds, b1, b2⟩ := a4 (fi.dv.length - dv.length) (Nat.sub_le _ _)
    refine ⟨fa, fd, ps, _, dds, ?_, (glo_snd G hg).1, by rw [G.mg]; exact a1, by rw [G.K]; exact a2, by rw [G.K]; exact b2, b1, fun H => atomsEq_den h2 H, (glo_snd G hg).2⟩
    rw [G.prog, G.w, G.K, G.mg, G.base, h4]
    exact a3
def SndXs (K : PySem.W.Frag) (F : Fr) (W : WX) (cl : Nat → List D → MP.CR) (Y : Cx) : MP.Xs → List Expr → Prop
  | .nil, [] => True
  | .cons x xs, e :: es => notSt e = true ∧ Snd K F W cl Y e x ∧ SndXs K F W cl Y xs es
  | _, _ => False
theorem SndXs.pa {Y : Cx} {F : Fr} {W : WX} : ∀ {xs : MP.Xs} {es : List Expr}, SndXs K F W cl Y xs es → PA Y es (tXs K F W (evs cl xs)) ∧ ∀ e ∈ es, notSt e = true
  | .nil, [], _ => ⟨pxs_nil, fun _ h => nomatch h⟩
  | .cons x xs, e :: es, ⟨h1, h2, h3⟩ => by
    obtain ⟨q1, q2⟩ := SndXs.pa h3
    refine ⟨pxs_cons (notSt_snd h1) h2.val q1, fun e he => ?_⟩
    rcases List.mem_cons.mp he with rfl | he
    · exact h1
    · exact q2 e he
  | .nil, _ :: _, h => h.elim
  | .cons _ _, [], h => h.elim
def SndCd (K : PySem.W.Frag) (cl : Nat → List D → MP.CR) (P : Cx → Fr → WX → Prop) : MP.Xo → List Expr → Prop
  | .none, es => es = []
  | .some t, es => ∃ te, es = [te] ∧ ∀ Y F W, P Y F W → Snd K F W cl Y te t
mutual
theorem okX_snd (B : Glob g P w K mg base n cl) : ∀ (x : MP.X) {Y : Cx} {c : Ck} {F : Fr} {W : WX} {e : Expr}, Good P w K mg base n Y c → L2N.Takes Y W → okX g x c e = true → Snd K F W cl Y e x
  | .v i mv, Y, c, F, W, e, G, tk, h => by
    simp only [okX] at h
    split at h
    · exact Snd.plain G.K (px_v (okV_snd G h _)) (fun _ => pp_v (okV_snd G h _)) rfl (fun _ => rfl) (fun _ _ _ z => nomatch z)
    · cases h
  | .k d, Y, c, F, W, e, G, tk, h => by
    simp only [okX] at h
    split at h
    · obtain ⟨v, h1, h2⟩ := okK_den h _ _
      exact Snd.plain G.K (px_k h1 h2) (fun _ => pp_k h1 h2) rfl (fun _ => rfl) (fun _ _ _ z => nomatch z)
    · unfold okVal at h
      simp only [Bool.and_eq_true] at h
      obtain ⟨hg, h⟩ := h
      split at h
      · rename_i e1
        obtain ⟨u, hm, hr⟩ := B.vals _ _ e1
        have h1 := pe_glob (pos := ‹Pos›) (glo_snd G hg).1 (by rw [G.mg]; exact hm) hr (glo_snd G hg).2
        have h2 := fun H => atomEq_den (K := K) h H
        exact Snd.plain G.K (px_k h1 h2) (fun _ => pp_k h1 h2) rfl (fun _ => rfl) (fun _ _ _ z => nomatch z)
      · cases h
    · cases h
  | .bin o a b, Y, c, F, W, e, G, tk, h => by
    simp only [okX] at h
    split at h
    · simp only [Bool.and_eq_true, decide_eq_true_eq] at h
      obtain ⟨rfl, ha, hb⟩ := h
      have sa := okX_snd B a (F := F) G tk ha
      have sb := okX_snd B b (F := F) G tk hb
      refine Snd.plain G.K (px_bin G.K sa.val sb.val) (fun hp => ?_) rfl (fun _ => rfl) (fun _ _ _ z => nomatch z)
      have hp : (isPk a && isPk b) = true := hp
      rw [Bool.and_eq_true] at hp
      exact pp_bin G.K (sa.pk hp.1) (sb.pk hp.2)
    · cases h
  | .neg a, Y, c, F, W, e, G, tk, h => by
    simp only [okX] at h
    split at h
    · simp only [Bool.and_eq_true, decide_eq_true_eq] at h
      obtain ⟨rfl, ha⟩ := h
      have sa := okX_snd B a (F := F) G tk ha
      exact Snd.plain G.K (px_neg sa.val) (fun hp => pp_neg (sa.pk hp)) rfl (fun _ => rfl) (fun _ _ _ z => nomatch z)
    · cases h
  | .cmp o a b, Y, c, F, W, e, G, tk, h => by
    simp only [okX] at h
    split at h
    · simp only [Bool.and_eq_true, decide_eq_true_eq, Bool.not_eq_true', Bool.or_eq_false_iff, decide_eq_false_iff_not] at h
      obtain ⟨⟨rfl, ho⟩, ha, hb⟩ := h
      have sa := okX_snd B a (F := F) G tk ha
      have sb := okX_snd B b (F := F) G tk hb
      have q := fun pos => px_cmp (pos := pos) G.K (by have := G.room.un; omega) ho sa.val sb.val sa.pk sb.pk
      exact ⟨(q _).1, (q _).2, (fun z => nomatch z), fun _ _ _ z => nomatch z⟩
    · cases h
  | .chn o p a b d, Y, c, F, W, e, G, tk, h => by
    simp only [okX] at h
    split at h
    · simp only [Bool.and_eq_true, decide_eq_true_eq, Bool.not_eq_true', Bool.or_eq_false_iff, decide_eq_false_iff_not] at h
      obtain ⟨⟨⟨rfl, rfl⟩, ho⟩, ha, hb, hd⟩ := h
      have sa := okX_snd B a (F := F) G tk ha
      have sb := okX_snd B b (F := F) G tk hb
      have sd := okX_snd B d (F := F) G tk hd
      have q := fun pos => px_chn (pos := pos) (o := o) G.K (by have := G.room.un; omega) ho sa.val sb.val sd.val
      exact ⟨(q _).1, (q _).2, (fun z => nomatch z), fun _ _ _ z => nomatch z⟩
    · cases h
  | .bnot a, Y, c, F, W, e, G, tk, h => by
    simp only [okX] at h
    split at h
    · simp only [Bool.and_eq_true, decide_eq_true_eq] at h
      obtain ⟨rfl, ha⟩ := h
      have sa := okX_snd B a (F := F) G tk ha
      exact ⟨px_not sa.val, py_not sa.tst, (fun z => nomatch z), fun _ _ _ z => nomatch z⟩
    · cases h
  | .band a b, Y, c, F, W, e, G, tk, h => by
    simp only [okX] at h
    split at h
    · simp only [Bool.and_eq_true, decide_eq_true_eq] at h
      obtain ⟨rfl, h⟩ := h
      split at h
      · simp only [Bool.and_eq_true] at h
        have sa := okX_snd B a (F := F) G tk h.1
        have sb := okX_snd B b (F := F) G tk h.2
        have pw := py_and (pos := ‹Pos›) sa.tst (pw_and1 sb.tst)
        exact ⟨px_and sa.val (pe_one sb.val), pw.pt, (fun z => nomatch z), fun _ _ _ z => by cases z; exact pw⟩
      · simp only [Bool.and_eq_true] at h
        have sa := okX_snd B a (F := F) G tk h.1
        have sb := okX_snd B b (F := F) G tk h.2
        have pw := py_and sa.tst (sb.pw _ _ _ rfl)
        exact ⟨px_and sa.val sb.val, pw.pt, (fun z => nomatch z), fun _ _ _ z => by cases z; exact pw⟩
      · cases h
    · cases h
  | .bor a b, Y, c, F, W, e, G, tk, h => by
    simp only [okX] at h
    split at h
    · simp only [Bool.and_eq_true, decide_eq_true_eq] at h
      obtain ⟨rfl, h⟩ := h
      split at h
      · simp only [Bool.and_eq_true] at h
        have sa := okX_snd B a (F := F) G tk h.1
        have sb := okX_snd B b (F := F) G tk h.2
        have pw := py_or (pos := ‹Pos›) sa.tst (pw_or1 sb.tst)
        exact ⟨px_or sa.val (pe_one sb.val), pw.pt, (fun z => nomatch z), fun _ _ _ z => by cases z; exact pw⟩
      · simp only [Bool.and_eq_true] at h
        have sa := okX_snd B a (F := F) G tk h.1
        have sb := okX_snd B b (F := F) G tk h.2
        have pw := py_or sa.tst (sb.pw _ _ _ rfl)
        exact ⟨px_or sa.val sb.val, pw.pt, (fun z => nomatch z), fun _ _ _ z => by cases z; exact pw⟩
      · cases h
    · cases h
  | .ife t a b, Y, c, F, W, e, G, tk, h => by
    simp only [okX] at h
    split at h
    · simp only [Bool.and_eq_true] at h
      obtain ⟨ht, ha, hb⟩ := h
      have st := okX_snd B t (F := F) G tk ht
      have sa := okX_snd B a (F := F) G tk ha
      have sb := okX_snd B b (F := F) G tk hb
      exact ⟨px_ife st.tst sa.val sb.val, py_ife st.tst sa.tst sb.tst, (fun z => nomatch z), fun _ _ _ z => nomatch z⟩
    · cases h
  | .lst xs, Y, c, F, W, e, G, tk, h => by
    simp only [okX] at h
    split at h
    · exact Snd.plain G.K (px_lst (okXs_snd B xs G tk h).pa.1) (fun z => nomatch z) rfl (fun _ => rfl) (fun _ _ _ z => nomatch z)
    · cases h
  | .tup xs, Y, c, F, W, e, G, tk, h => by
    simp only [okX] at h
    split at h
    · exact Snd.plain G.K (px_tup (okXs_snd B xs G tk h).pa.1) (fun z => nomatch z) rfl (fun _ => rfl) (fun _ _ _ z => nomatch z)
    · cases h
  | .ix a b, Y, c, F, W, e, G, tk, h => by
    simp only [okX] at h
    split at h
    · simp only [Bool.and_eq_true] at h
      obtain ⟨hs, ha, hb⟩ := h
      have sa := okX_snd B a (F := F) G tk ha
      have sb := okX_snd B b (F := F) G tk hb
      refine Snd.plain G.K (px_ix G.K (plainIx (notSl_snd hs)) sa.val sb.val sa.pk sb.pk) (fun hp => ?_) rfl (fun _ => rfl) (fun _ _ _ z => nomatch z)
      have hp : (isPk a && isPk b) = true := hp
      rw [Bool.and_eq_true] at hp
      exact pp_ix G.K (plainIx (notSl_snd hs)) (sa.pk hp.1) (sb.pk hp.2)
    · cases h
  | .sl a lo hi, Y, c, F, W, e, G, tk, h => by
    simp only [okX] at h
    split at h
    · split at h
      · simp only [Bool.and_eq_true] at h
        obtain ⟨hs, ha, hl, hh⟩ := h
        split at hs
        · have sa := okX_snd B a (F := F) G tk ha
          exact Snd.plain G.K (px_sl G.K sa.val sa.pk (okO_snd B lo G tk hl) (okO_snd B hi G tk hh)) (fun z => nomatch z) rfl (fun _ => rfl) (fun _ _ _ z => nomatch z)
        · cases hs
      · cases h
    · cases h
  | .rev a, Y, c, F, W, e, G, tk, h => by
    simp only [okX] at h
    split at h
    · split at h
      · simp only [Bool.and_eq_true] at h
        obtain ⟨h1, h2, hs, ha⟩ := h
        split at h1
        · split at h2
          · split at hs
            · simp only [Bool.and_eq_true, decide_eq_true_eq] at hs
              obtain ⟨e1, e2⟩ := hs
              subst e1
              subst e2
              have sa := okX_snd B a (F := F) G tk ha
              exact Snd.plain G.K (px_rev G.K sa.val sa.pk) (fun z => nomatch z) rfl (fun _ => rfl) (fun _ _ _ z => nomatch z)
            · cases hs
          · cases h2
        · cases h1
      · cases h
    · cases h
  | .call f as dv, Y, c, F, W, e, G, tk, h => by
    simp only [okX] at h
    split at h
    · split at h
      · simp only [Bool.and_eq_true, decide_eq_true_eq] at h
        obtain ⟨⟨⟨⟨hk, hg⟩, hf⟩, hi⟩, ha⟩ := h
        rename_i es ks pos fe x p
        have hk : ks = [] := by simpa using hk
        subst hk
        obtain ⟨fa, fd, ps, dvs, dds, q1, q2, q3, q4, q5, q6, q7, q8⟩ := call_facts B G (m := es.length) (dv := dv) (io := posA 0 as) hg hf hi
        obtain ⟨pa, st⟩ := okAs_snd B as (F := F) G tk ha
        refine Snd.plain G.K ?_ (fun z => nomatch z) rfl (fun _ => rfl) (fun _ _ _ z => nomatch z)
        cases es with
        | nil =>
          cases as with
          | nil => exact px_call0 G.K q1 G.room G.guards q2 q3 q4 q5 q6 q7 tk q8
          | _ => simp [okAs] at ha
        | cons a es =>
          exact px_call G.K q1 G.room G.guards q2 q3 q4 q5 q6 q7 tk pa q8 (notSt_snd (st a List.mem_cons_self)) (plain_args fun e he => st e (List.mem_cons_of_mem _ he))
      · cases h
    · cases h
  | .calli f i j dv, Y, c, F, W, e, G, tk, h => by
    simp only [okX] at h
    split at h
    · split at h
      · simp only [Bool.and_eq_true, decide_eq_true_eq] at h
        obtain ⟨⟨⟨⟨hk, hg⟩, hf⟩, hi⟩, hv, hn⟩ := h
        have hk := List.isEmpty_iff.mp hk
        subst hk
        subst hn
        obtain ⟨fa, fd, ps, dvs, dds, q1, q2, q3, q4, q5, q6, q7, q8⟩ := call_facts B G (m := 1) (dv := dv) (io := []) hg hf hi
        exact Snd.plain G.K (px_calli G.K q1 G.room G.guards q2 q3 q4 q5 q6 q7 tk (okV_snd G hv _) q8) (fun z => nomatch z) rfl (fun _ => rfl) (fun _ _ _ z => nomatch z)
      · cases h
    · cases h
  | .bi b as, Y, c, F, W, e, G, tk, h => by
    simp only [okX] at h
    split at h
    · split at h
      · simp only [Bool.and_eq_true, beq_iff_eq] at h
        obtain ⟨⟨⟨⟨hk, hx⟩, hf⟩, hb⟩, ha⟩ := h
        rename_i es ks pos fe x p
        have hk := List.isEmpty_iff.mp hk
        subst hk
        subst hx
        obtain ⟨f1, f2⟩ := free_snd B G hf
        have sx := okXs_snd B as (F := F) G tk ha
        refine Snd.plain G.K ?_ (fun hp => ?_) (by rw [evX.eq_def]; rfl) (fun _ => rfl) (fun _ _ _ z => nomatch z)
        · match as, es, sx, hb with
          | .cons a .nil, [l], ⟨hs, sa, _⟩, hb =>
            have hs := notSt_snd hs
            have hb : b = .len ∨ b = .int ∨ b = .abs ∨ b = .sum ∨ b = .all ∨ b = .any ∨ b = .repr ∨ b = .list ∨ b = .tuple ∨ b = .max1 ∨ b = .min1 := by simpa [bi1s, biArity] using hb
            show PE Y _ (tX K F W (fBi1 b a (evX cl a).val))
            by_cases hl : b = .list
            · subst hl; exact px_list G.K f1 f2 hs sa.val sa.pk
            · by_cases ht : b = .tuple
              · subst ht; exact px_tuple G.K f1 f2 hs sa.val sa.pk
              · exact px_bi1 G.K (bi_ok G) f1 f2 hs (by rcases hb with h | h | h | h | h | h | h | h | h | h | h <;> simp_all) sa.val sa.pk
          | .cons a (.cons d .nil), [l, r], ⟨h1, sa, h2, sd, _⟩, hb =>
            have hb : b = .max2 ∨ b = .min2 := by simpa [biArity] using hb
            exact px_bi2 G.K (bi_ok G) f1 f2 (notSt_snd h1) (notSt_snd h2) hb sa.val sd.val
          | .cons _ (.cons _ (.cons _ _)), [_, _], ⟨_, _, _, _, h⟩, _ => exact h.elim
          | .cons _ (.cons _ _), [_], ⟨_, _, h⟩, _ => exact h.elim
          | .cons _ .nil, _ :: _ :: _, ⟨_, _, h⟩, _ => exact h.elim
          | _, [], _, hb => cases hb
          | _, _ :: _ :: _ :: _, _, hb => cases hb
          | .nil, _ :: _, h, _ => exact h.elim
        · match as, es, sx, hb with
          | .cons a .nil, [l], ⟨hs, sa, _⟩, hb =>
            have hs := notSt_snd hs
            have hb : b = .len ∨ b = .int ∨ b = .abs ∨ b = .sum ∨ b = .all ∨ b = .any ∨ b = .repr ∨ b = .list ∨ b = .tuple ∨ b = .max1 ∨ b = .min1 := by simpa [bi1s, biArity] using hb
            rcases hb with rfl | rfl | rfl | rfl | rfl | rfl | rfl | rfl | rfl | rfl | rfl <;> first | exact pp_len G.K f1 f2 PySem.boot_len (by decide) (by decide) hs (sa.pk hp) | (simp [isPk] at hp; done)
          | .cons a (.cons d .nil), _, _, hb => cases b <;> (simp [isPk] at hp; done)
          | .cons _ (.cons _ (.cons _ _)), _, _, _ => cases b <;> (simp [isPk] at hp; done)
          | .cons _ .nil, _ :: _ :: _, ⟨_, _, h⟩, _ => exact h.elim
          | _, [], _, hb => cases hb
          | .nil, _ :: _, h, _ => exact h.elim
      · cases h
    · cases h
  | .isi a ts, Y, c, F, W, e, G, tk, h => by
    simp only [okX] at h
    split at h
    · split at h
      · simp only [Bool.and_eq_true, beq_iff_eq] at h
        obtain ⟨⟨⟨⟨⟨hk, hx⟩, hf⟩, hs⟩, ha⟩, h⟩ := h
        have hk := List.isEmpty_iff.mp hk
        subst hk
        subst hx
        obtain ⟨f1, f2⟩ := free_snd B G hf
        have sa := okX_snd B a (F := F) G tk ha
        have hs := notSt_snd hs
        split at h
        · split at h
          · rename_i t
            simp only [Bool.and_eq_true, beq_iff_eq] at h
            obtain ⟨⟨hy, ht⟩, hf2⟩ := h
            subst hy
            obtain ⟨f3, f4⟩ := free_snd B G hf2
            exact Snd.plain G.K (px_isi1 G.K (fun c z => by rw [z] at ht; cases ht) f1 f2 f3 f4 hs sa.val sa.pk) (fun z => nomatch z) rfl (fun _ => rfl) (fun _ _ _ z => nomatch z)
          · cases h
        · simp only [Bool.and_eq_true] at h
          obtain ⟨q1, q2⟩ := okTys_snd B G h.2
          exact Snd.plain G.K (px_isiT G.K q2 f1 f2 h.1 q1 hs sa.val sa.pk) (fun z => nomatch z) rfl (fun _ => rfl) (fun _ _ _ z => nomatch z)
        · cases h
      · cases h
    · cases h
  | .pop i, Y, c, F, W, e, G, tk, h => by
    simp only [okX] at h
    split at h
    · split at h
      · split at h
        · simp only [Bool.and_eq_true, beq_iff_eq] at h
          obtain ⟨⟨⟨⟨hk, he⟩, hx⟩, hv⟩, hl⟩ := h
          have hk := List.isEmpty_iff.mp hk
          have he := List.isEmpty_iff.mp he
          subst hk
          subst he
          subst hx
          exact Snd.plain G.K (px_pop G.K (okV_snd G hv _) (by rw [hl]; exact beq_self_eq_true _)) (fun z => nomatch z) rfl (fun _ => rfl) (fun _ _ _ z => nomatch z)
        · cases h
      · cases h
    · cases h
  | .join s a, Y, c, F, W, e, G, tk, h => by
    simp only [okX] at h
    split at h
    · split at h
      · split at h
        · simp only [Bool.and_eq_true, beq_iff_eq, decide_eq_true_eq] at h
          obtain ⟨⟨⟨⟨⟨hk, he⟩, hx⟩, hs⟩, hl⟩, ha⟩ := h
          have hk := List.isEmpty_iff.mp hk
          subst hk
          subst he
          subst hx
          have sa := okX_snd B a (F := F) G tk ha
          exact Snd.plain G.K (px_join G.K (notSt_snd hs) (by rw [hl]; exact beq_self_eq_true _) sa.val sa.pk) (fun z => nomatch z) rfl (fun _ => rfl) (fun _ _ _ z => nomatch z)
        · cases h
      · cases h
    · cases h
  | .lrg as, Y, c, F, W, e, G, tk, h => by
    simp only [okX] at h
    split at h
    · split at h
      · split at h
        · split at h
          · simp only [Bool.and_eq_true, beq_iff_eq, decide_eq_true_eq] at h
            obtain ⟨⟨⟨⟨⟨⟨hk, hx⟩, hf⟩, ⟨hk2, hy⟩, hf2⟩, h1⟩, h3⟩, ha⟩ := h
            have hk := List.isEmpty_iff.mp hk
            have hk2 := List.isEmpty_iff.mp hk2
            subst hk
            subst hk2
            subst hx
            subst hy
            obtain ⟨f1, f2⟩ := free_snd B G hf
            obtain ⟨f3, f4⟩ := free_snd B G hf2
            rename_i es2 _ _ _
            have sx := okXs_snd B as (F := F) (W := W) G tk ha
            refine Snd.plain G.K ?_ (fun z => nomatch z) (by rw [evX.eq_def]; rfl) (fun _ => rfl) (fun _ _ _ z => nomatch z)
            match as, es2, sx, h1, h3 with
            | .cons x .nil, [a], ⟨s1, q1, _⟩, _, _ => exact px_lrg1 G.K G.calm f1 f2 f3 f4 (notSt_snd s1) q1.val
            | .cons x (.cons y .nil), [a, b], ⟨s1, q1, s2, q2, _⟩, _, _ => exact px_lrg2 G.K G.calm f1 f2 f3 f4 (notSt_snd s1) (notSt_snd s2) q1.val q2.val
            | .nil, _ :: _, h, _, _ => exact h.elim
            | _, [], _, h1, _ => simp at h1
            | _, _ :: _ :: _ :: _, _, _, h3 => simp at h3
            | .cons _ (.cons _ _), [_], ⟨_, _, h⟩, _, _ => exact h.elim
            | .cons _ .nil, _ :: _ :: _, ⟨_, _, h⟩, _, _ => exact h.elim
            | .cons _ (.cons _ (.cons _ _)), [_, _], ⟨_, _, _, _, h⟩, _, _ => exact h.elim
          · cases h
        · cases h
      · cases h
    · cases h
  | .lc el tg it cd ws, Y, c, F, W, e, G, tk, h => by
    simp only [okX] at h
    split at h
    · rename_i elt gens scope pos
      split at h
      · simp only [Bool.and_eq_true, decide_eq_true_eq] at h
        obtain ⟨⟨⟨⟨⟨⟨has, hbk⟩, hset⟩, hit⟩, htg, hws⟩, hcd⟩, hel⟩ := h
        rename_i tgE itE ifs asy
        have has : asy = 0 := has
        subst has
        have bk := okBlk_snd G hbk
        have hN : Y.N.Nodup := by rw [G.N]; exact G.nd
        have ew : (ws.map fun w => (c.N.getD w "", w)).map (·.2) = ws := by
          rw [List.map_map]
          exact List.map_id _
        have hws : ∀ j ∈ tgSlots tg, j ∈ ws := fun j hj => by
          have := List.all_eq_true.mp hws j hj
          simpa using this
        have pi := okI_snd B it (F := F) G tk hit
        have pg := fun (s : Shared) (H : Hp) (C : Addr) (cs : List (Str × Addr)) (fp : List Addr) => okTg_snd (F := F.free) (G.inBlk scope s H C cs fp) htg
        have pe := fun (s : Shared) (H : Hp) (C : Addr) (cs : List (Str × Addr)) (fp : List Addr) => (okX_snd B el (F := F.free) (W := W0) (G.inBlk scope s H C cs fp) takes0 hel).val
        have fs := fset (Y := Y) hset
        refine Snd.plain G.K ?_ (fun z => nomatch z) (by rw [evX.eq_def]; rfl) (fun _ => rfl) (fun _ _ _ z => nomatch z)
        have sc := okCd_snd B cd (c := blkC c scope) hcd
        cases cd with
        | none =>
          have sc : ifs = [] := sc
          subst sc
          have q := pe_lc (pos := pos) G.calm hN pi bk pg (fun s H C cs fp => pts_none (K := K) (F := F.free) (W := W0)) pe fs
          rw [ew] at q
          exact PE.imp q fun σ H Q h => lc_read G.K hws h
        | some t =>
          obtain ⟨te, e1, st⟩ := sc
          subst e1
          have pt := fun (s : Shared) (H : Hp) (C : Addr) (cs : List (Str × Addr)) (fp : List Addr) => pts_one (st _ F.free W0 ⟨G.inBlk scope s H C cs fp, takes0⟩).tst
          have q := pe_lc (pos := pos) G.calm hN pi bk pg pt pe fs
          rw [ew] at q
          exact PE.imp q fun σ H Q h => lc_read G.K hws h
      · cases h
    · cases h
theorem okXs_snd (B : Glob g P w K mg base n cl) : ∀ (xs : MP.Xs) {Y : Cx} {c : Ck} {F : Fr} {W : WX} {es : List Expr}, Good P w K mg base n Y c → L2N.Takes Y W → okXs g xs c es = true → SndXs K F W cl Y xs es
  | .nil, Y, c, F, W, es, G, tk, h => by
    simp only [okXs] at h
    have h := List.isEmpty_iff.mp h
    subst h
    trivial
  | .cons x xs, Y, c, F, W, es, G, tk, h => by
    simp only [okXs] at h
    split at h
    · simp only [Bool.and_eq_true] at h
      exact ⟨h.1, okX_snd B x (F := F) G tk h.2.1, okXs_snd B xs (F := F) G tk h.2.2⟩
    · cases h
theorem okCd_snd (B : Glob g P w K mg base n cl) : ∀ (x : MP.Xo) {c : Ck} {es : List Expr}, okCd g x c es = true → SndCd K cl (fun Y F W => Good P w K mg base n Y c ∧ L2N.Takes Y W) x es
  | .none, c, es, h => by
    simp only [okCd] at h
    exact List.isEmpty_iff.mp h
  | .some x, c, es, h => by
    simp only [okCd] at h
    split at h
    · exact ⟨_, rfl, fun Y F W ⟨G, tk⟩ => okX_snd B x (F := F) G tk h⟩
    · cases h
theorem okO_snd (B : Glob g P w K mg base n cl) : ∀ (x : MP.Xo) {Y : Cx} {c : Ck} {F : Fr} {W : WX} {e : Option Expr}, Good P w K mg base n Y c → L2N.Takes Y W → okO g x c e = true → PO Y e (tO K F x)
  | .none, Y, c, F, W, e, G, tk, h => by
    simp only [okO] at h
    cases e with
    | none => exact pxo_none
    | some _ => cases h
  | .some x, Y, c, F, W, e, G, tk, h => by
    simp only [okO] at h
    split at h
    · simp only [Bool.and_eq_true] at h
      exact pxo_some h.1 ((okX_snd B x (F := F) (W := W) G tk h.2).pk h.1)
    · cases h
theorem okAs_snd (B : Glob g P w K mg base n cl) : ∀ (as : MP.As) {Y : Cx} {c : Ck} {F : Fr} {W : WX} {es : List Expr}, Good P w K mg base n Y c → L2N.Takes Y W → okAs g as c es = true → PA Y es (tAs K F W as (evA cl as)) ∧ ∀ e ∈ es, notSt e = true
  | .nil, Y, c, F, W, es, G, tk, h => by
    simp only [okAs] at h
    have h := List.isEmpty_iff.mp h
    subst h
    exact ⟨pxa_nil, (fun _ h => nomatch h)⟩
  | .lent i as, Y, c, F, W, es, G, tk, h => by
    simp only [okAs] at h
    split at h
    · simp only [Bool.and_eq_true] at h
      obtain ⟨q1, q2⟩ := okAs_snd B as (F := F) G tk h.2
      refine ⟨pxa_name (okV_snd G h.1 _) q1 (fun s => by simp only [evA]; try rfl) (fun _ _ => rfl), fun e he => ?_⟩
      rcases List.mem_cons.mp he with rfl | he
      · rfl
      · exact q2 e he
    · cases h
  | .gone i as, Y, c, F, W, es, G, tk, h => by
    simp only [okAs] at h
    split at h
    · simp only [Bool.and_eq_true] at h
      obtain ⟨q1, q2⟩ := okAs_snd B as (F := F) G tk h.2
      refine ⟨pxa_name (okV_snd G h.1 _) q1 (fun s => by simp only [evA]; try rfl) (fun _ _ => rfl), fun e he => ?_⟩
      rcases List.mem_cons.mp he with rfl | he
      · rfl
      · exact q2 e he
    · cases h
  | .io i as, Y, c, F, W, es, G, tk, h => by
    simp only [okAs] at h
    split at h
    · simp only [Bool.and_eq_true] at h
      obtain ⟨q1, q2⟩ := okAs_snd B as (F := F) G tk h.2
      refine ⟨pxa_name (okV_snd G h.1 _) q1 (fun s => by simp only [evA]; try rfl) (fun _ _ => rfl), fun e he => ?_⟩
      rcases List.mem_cons.mp he with rfl | he
      · rfl
      · exact q2 e he
    · cases h
  | .val x as, Y, c, F, W, es, G, tk, h => by
    simp only [okAs] at h
    split at h
    · simp only [Bool.and_eq_true] at h
      obtain ⟨hs, hx, hr⟩ := h
      obtain ⟨q1, q2⟩ := okAs_snd B as (F := F) G tk hr
      refine ⟨pxa_val (notSt_snd hs) (okX_snd B x (F := F) G tk hx).val q1, fun e he => ?_⟩
      rcases List.mem_cons.mp he with rfl | he
      · exact hs
      · exact q2 e he
    · cases h
  | .own x as, Y, c, F, W, es, G, tk, h => by
    simp only [okAs] at h
    split at h
    · simp only [Bool.and_eq_true] at h
      obtain ⟨hs, hx, hr⟩ := h
      obtain ⟨q1, q2⟩ := okAs_snd B as (F := F) G tk hr
      refine ⟨pxa_own (notSt_snd hs) (okX_snd B x (F := F) G tk hx).val q1, fun e he => ?_⟩
      rcases List.mem_cons.mp he with rfl | he
      · exact hs
      · exact q2 e he
    · cases h
theorem okI_snd (B : Glob g P w K mg base n cl) : ∀ (it : MP.It) {Y : Cx} {c : Ck} {F : Fr} {W : WX} {t e : Expr}, Good P w K mg base n Y c → L2N.Takes Y W → okI g it c t e = true → PI Y t e (tIt K F W it (evI cl it))
  | .seq x, Y, c, F, W, t, e, G, tk, h => by
    simp only [okI] at h
    exact pix_seq G.K (okX_snd B x (F := F) G tk h).val
  | .lent i, Y, c, F, W, t, e, G, tk, h => by
    simp only [okI] at h
    split at h
    · exact pix_lent G.K (okV_snd G h _)
    · cases h
  | .rng as, Y, c, F, W, t, e, G, tk, h => by
    simp only [okI] at h
    split at h
    · split at h
      · simp only [Bool.and_eq_true, beq_iff_eq, decide_eq_true_eq] at h
        obtain ⟨⟨⟨⟨⟨hk, hx⟩, hf⟩, h1⟩, h3⟩, ha⟩ := h
        rename_i es ks pos fe x p
        have hk := List.isEmpty_iff.mp hk
        subst hk
        subst hx
        obtain ⟨f1, f2⟩ := free_snd B G hf
        have sx := okXs_snd B as (F := F) (W := W) G tk ha
        match as, es, sx, h1, h3 with
        | .cons x .nil, [a], ⟨s1, q1, _⟩, _, _ => exact pix_rng1 f1 f2 (notSt_snd s1) q1.val
        | .cons x (.cons y .nil), [a, b], ⟨s1, q1, s2, q2, _⟩, _, _ => exact pix_rng2 f1 f2 (notSt_snd s1) (notSt_snd s2) q1.val q2.val
        | .cons x (.cons y (.cons z .nil)), [a, b, d], ⟨s1, q1, s2, q2, s3, q3, _⟩, _, _ => exact pix_rng3 f1 f2 (notSt_snd s1) (notSt_snd s2) (notSt_snd s3) q1.val q2.val q3.val
        | .nil, _ :: _, h, _, _ => exact h.elim
        | _, [], _, h1, _ => simp at h1
        | _, _ :: _ :: _ :: _ :: _, _, _, h3 => simp at h3
        | .cons _ (.cons _ _), [_], ⟨_, _, h⟩, _, _ => exact h.elim
        | .cons _ .nil, _ :: _ :: _, ⟨_, _, h⟩, _, _ => exact h.elim
        | .cons _ (.cons _ .nil), _ :: _ :: _ :: _, ⟨_, _, _, _, h⟩, _, _ => exact h.elim
        | .cons _ (.cons _ (.cons _ _)), [_, _], ⟨_, _, _, _, h⟩, _, _ => exact h.elim
        | .cons _ (.cons _ (.cons _ (.cons _ _))), [_, _, _], ⟨_, _, _, _, _, _, h⟩, _, _ => exact h.elim
      · cases h
    · cases h
  | .zip a b, Y, c, F, W, t, e, G, tk, h => by
    simp only [okI] at h
    split at h
    · split at h
      · split at h
        · split at h
          · simp only [Bool.and_eq_true, beq_iff_eq] at h
            obtain ⟨⟨⟨⟨hk, hx⟩, hf⟩, h1, h2⟩, ha, hb⟩ := h
            have hk := List.isEmpty_iff.mp hk
            subst hk
            subst hx
            obtain ⟨f1, f2⟩ := free_snd B G hf
            exact pix_zip G.K f1 f2 (notSt_snd h1) (notSt_snd h2) (okX_snd B a (F := F) G tk ha).val (okX_snd B b (F := F) G tk hb).val
          · cases h
        · cases h
      · cases h
    · cases h
  | .enm a, Y, c, F, W, t, e, G, tk, h => by cases h
end
end
end MP
set_option linter.all false
set_option maxRecDepth 100000
set_option maxHeartbeats 8000000
/-! MiniPy: a checked statement does what its reading says. -/
namespace MP
open PySem PySem.Spec PyProof.Rows L2
section
variable {g : Gk} {P : Program} {w : World} {K : PySem.W.Frag} {mg : Str → Option Value} {base : Heap} {n : Nat} {cl : Nat → List D → MP.CR} {Y : Cx} {c : Ck} {F : Fr} {W : WX} {pos : Pos}
/-- raise X() -/
theorem pmk_own0 {x : Str} {C : Addr} {bmB : List Value} {T newId initId : String} {p : Pos} (ef : ExcBaseFacts T newId initId bmB) (own : PySem.W.excIn Y.K C bmB newId = true) (named : Y.mg x = some (.ref C)) (keep : PySem.W.keepIn Y.K (.ref C) = true) (rs : Raises Y (.ref C)) (hg : Gl Y x)
    (hdb : (x == ("__debug__" : Str)) = false) : L2N.PMk Y (.Call (.Name x p) [] [] pos) (fun _ H Q => Q (.ref C) none H) := by
  intro pins st σ H Q I wish
  refine wpAny_Call_Name_kw (ld_glob I hg named (PySem.W.callWith_K0 I.kIn keep ?_) hdb)
  obtain ⟨bm, N, nm, qn, bs, hdct, sn, sub, ab, col, dd, k0, k1, k2, k3, k5, mN, hC, hN, hni, T⟩ := exc_obj I.kIn own
  exact wpAny_call_exc_subT ef T hC hN hni (fun _ _ made => L2N.mk_of I made rs wish (I.hok.gone made.new)) (Nat.zero_le _)
theorem sx_rse {x : Str} {p p2 : Pos} {io : List Nat} (B : Glob g P w K mg base n cl) (G : Good P w K mg base n Y c) (tk : L2N.Takes Y W) (hg : glo c x = true) (he : g.exc.contains x = true) : PS Y (.Raise (some (.Call (.Name x p) [] [] p2)) none pos) (tS K F W (evS cl (.rse x) io)) := by
  obtain ⟨e1, e2, e3, e4, e5⟩ := B.exc x he
  obtain ⟨g1, g2⟩ := glo_snd G hg
  refine PS.imp (L2N.ps_raise G.calm tk (pmk_own0 (p := p) (pos := p2) PySem.F.excBase_ValueError (by rw [G.K]; exact e2) (by rw [G.mg]; exact e1) (by rw [G.K]; exact e3) (raises_own (by rw [G.K]; exact e4) (by rw [G.K]; exact e5)) g1 g2)) fun D0 σ H ⟨s, hs, so, out⟩ => ?_
  simp only [evS] at out
  exact out σ H (so.held (.refl _) (List.nil_sublist _))
theorem swaps_plain {v : Expr} (h : notLc v = true) (t : Option Expr) (l : Nat) (env : PySem.Env) : swapsWith v t l env = pure false := by
  cases v <;> first | rfl | (cases h; done)
theorem stores_plain {t v : Expr} (h : notTL v = true) (env : PySem.Env) : swappedStores [t] v env = pure none := by
  cases v <;> first | (cases t <;> rfl) | (cases h; done)
theorem okTg_one {is : List Nat} {t : Expr} (h : okTg c (.tp is) t = true) (env : PySem.Env) : (assignEach [t] env).map (·.2) = [assign t env] := by
  cases t <;> first | rfl | (cases h; done)
theorem okL_loc (G : Good P w K mg base n Y c) {x : Str} {i : Nat} (h : okL c x i = true) : Y.N.Nodup ∧ Y.N[i]? = some x ∧ Loc Y.env.scope x ∧ (Y.fn x = true ∨ Y.env.scope.names.lookup x = some .local) := by
  unfold okL at h
  simp only [Bool.and_eq_true, beq_iff_eq] at h
  obtain ⟨h1, h2⟩ := h
  refine ⟨by rw [G.N]; exact G.nd, by rw [G.N]; exact h1, ?_⟩
  unfold L2.Loc
  rw [G.sc]
  revert h2
  split <;> intro h2
  · rename_i e
    exact ⟨.inl e, .inr e⟩
  · rename_i e
    exact ⟨.inr e, .inl (G.fn x h2)⟩
  · cases h2
theorem swaps_lc {y : Str} {py pos : Pos} {scope : Scope} {elt : Expr} {gens : List Comprehension} {l : Nat} (hk : Y.env.scope.kind = .function) (hs : Y.env.scope = c.sc) : swapsWith (.ListComp elt gens scope pos) (some (.Name y py)) l Y.env = pure (swB c y py pos scope) := by
  have hb : Y.env.blockKind = .function := by unfold Env.blockKind; rw [hk]; rfl
  have ky : Y.env.kindOf y = c.sc.names.lookup y := by rw [← hs]; rfl
  unfold swapsWith swB
  simp only [hb, ky, Expr.pos]
  rfl
theorem asg_sub {o i : Expr} {p : Pos} (h : notSl i = true) (v : Value) : assign (.Subscript o i p) Y.env v = (do
      let ov ← holding [v] (eval o Y.env)
      let iv ← holding [v, ov] (eval i Y.env)
      standAt p
      holding [v, ov, iv] (setItem ov iv v)
      release [v, ov, iv] []) := by
  cases i <;> first | rfl | (cases h; done)
theorem swaps_sub {o i : Expr} {p : Pos} {l : Nat} {env : PySem.Env} (v : Expr) : swapsWithSole [.Subscript o i p] v l env = pure false := by
  show swapsWith v (some (.Subscript o i p)) l env = _
  cases v <;> rfl
theorem stores_sub {o i : Expr} {p : Pos} {env : PySem.Env} (v : Expr) : swappedStores [.Subscript o i p] v env = pure none := by
  cases v <;> rfl
/-- name = [..], the name's old list let go behind the new one -/
theorem lc_set (B : Glob g P w K mg base n cl) (G : Good P w K mg base n Y c) (tk : L2N.Takes Y W) {e : MP.X} {elt : Expr} {gens : List Comprehension} {scope : Scope} {lpos py spos : Pos} {y : Str} {i : Nat} (h : okX g e c (.ListComp elt gens scope lpos) = true) (hN : Y.N.Nodup) (hy : Y.N[i]? = some y) (hyl : Y.env.scope.names.lookup y = some .local)
    (hsw : swapsWith (.ListComp elt gens scope lpos) (some (.Name y py)) spos.line Y.env = pure true) : PS Y (.Assign [.Name y py] (.ListComp elt gens scope lpos) spos) (tAsg (tX K F W (evX cl e).val) (gName i)) := by
  cases e with
  | lc el tg it cd ws =>
    simp only [okX] at h
    split at h
    · simp only [Bool.and_eq_true, decide_eq_true_eq] at h
      obtain ⟨⟨⟨⟨⟨⟨has, hbk⟩, hset⟩, hit⟩, htg, hws⟩, hcd⟩, hel⟩ := h
      rename_i tgE itE ifs asy
      have has : asy = 0 := has
      subst has
      have bk := okBlk_snd G hbk
      have ew : (ws.map fun w => (c.N.getD w "", w)).map (·.2) = ws := by
        rw [List.map_map]
        exact List.map_id _
      have hws : ∀ j ∈ tgSlots tg, j ∈ ws := fun j hj => by
        have := List.all_eq_true.mp hws j hj
        simpa using this
      have pi := okI_snd B it (F := F) G tk hit
      have pg := fun (s : Shared) (H : Hp) (C : Addr) (cs : List (Str × Addr)) (fp : List Addr) => okTg_snd (F := F.free) (G.inBlk scope s H C cs fp) htg
      have pe := fun (s : Shared) (H : Hp) (C : Addr) (cs : List (Str × Addr)) (fp : List Addr) => (okX_snd B el (F := F.free) (W := W0) (G.inBlk scope s H C cs fp) takes0 hel).val
      have fs := fset (Y := Y) hset
      have sc := okCd_snd B cd (c := blkC c scope) hcd
      cases cd with
      | none =>
        have sc : ifs = [] := sc
        subst sc
        have q := ps_setLc (py := py) G.calm hN hy hyl hsw pi bk pg (fun s H C cs fp => pts_none (K := K) (F := F.free) (W := W0)) pe fs
        rw [ew] at q
        exact PS.imp q fun D0 σ H h => lc_read G.K hws h
      | some t =>
        obtain ⟨te, e1, st⟩ := sc
        subst e1
        have pt := fun (s : Shared) (H : Hp) (C : Addr) (cs : List (Str × Addr)) (fp : List Addr) => pts_one (st _ F.free W0 ⟨G.inBlk scope s H C cs fp, takes0⟩).tst
        have q := ps_setLc (py := py) G.calm hN hy hyl hsw pi bk pg pt pe fs
        rw [ew] at q
        exact PS.imp q fun D0 σ H h => lc_read G.K hws h
    · cases h
  | _ => simp [okX] at h
theorem lcOk_inv {v : Expr} (h : lcOk c v = true) : ∃ elt gens scope lp, v = .ListComp elt gens scope lp ∧ c.sc.kind = .function := by
  cases v <;> first | (cases h; done) | exact ⟨_, _, _, _, rfl, by simpa [lcOk] using h⟩
structure DefOk (Y : Cx) (c : Ck) : Prop where
  pass : PassesOwn (model Y.prog Y.w) Y.A Y.env Y.xe
mutual
theorem okS_snd (B : Glob g P w K mg base n cl) : ∀ (x : S) {Y : Cx} {c : Ck} {F : Fr} {W : WX} {io : List Nat} {st : Stmt}, Good P w K mg base n Y c → DefOk Y c → L2N.Takes Y W → (∀ p ∈ F.io, p.1 ∈ io) → okS g x c st = true → PS Y st (tS K F W (evS cl x io))
  | .set i e, Y, c, F, W, io, st, G, dk, tk, hio, h => by
    simp only [okS] at h
    split at h
    · rename_i ts v spos
      split at h
      · rename_i x py
        simp only [Bool.and_eq_true] at h
        obtain ⟨⟨hl, he⟩, hv⟩ := h
        obtain ⟨hN, hi, hx, hf⟩ := okL_loc G hl
        have se := okX_snd B e (F := F) G tk he
        cases hlc : notLc v with
        | true => exact sx_set hio (ps_set hN hi hx se.val (swaps_plain hlc _ _ _) hf) fun _ _ _ h => h
        | false =>
          rw [hlc] at hv
          obtain ⟨elt, gens, scope, lp, ev, hk⟩ := lcOk_inv (c := c) (v := v) hv
          subst ev
          have hk : Y.env.scope.kind = .function := by rw [G.sc]; exact hk
          cases hsw : swB c x py lp scope with
          | false => exact sx_set hio (ps_set hN hi hx se.val (by rw [swaps_lc hk G.sc, hsw]) hf) fun _ _ _ h => h
          | true =>
            have q := lc_set (spos := spos) (py := py) B (F := F) G tk he hN hi (by rw [G.sc]; unfold swB at hsw; simp only [Bool.and_eq_true, beq_iff_eq] at hsw; exact hsw.1.1) (by rw [swaps_lc hk G.sc, hsw])
            exact sx_set hio q fun _ _ _ h => h
      · cases h
    · cases h
  | .sett is e, Y, c, F, W, io, st, G, dk, tk, hio, h => by
    simp only [okS] at h
    split at h
    · split at h
      · simp only [Bool.and_eq_true] at h
        obtain ⟨⟨⟨ht, he⟩, h1⟩, h2⟩ := h
        have se := okX_snd B e (F := F) G tk he
        exact sx_sett hio (ps_asg se.val (okTg_snd (F := F) G ht) (swaps_plain h2 _ _ _) (stores_plain h1 _) (okTg_one ht _)) fun _ _ _ h => h
      · cases h
    · cases h
  | .par i j a b, Y, c, F, W, io, st, G, dk, tk, hio, h => by
    simp only [okS] at h
    cases h
  | .seti i ix e, Y, c, F, W, io, st, G, dk, tk, hio, h => by
    simp only [okS] at h
    split at h
    · split at h
      · simp only [Bool.and_eq_true] at h
        obtain ⟨⟨hv, hs⟩, hi, he⟩ := h
        have se := okX_snd B e (F := F) G tk he
        have si := okX_snd B ix (F := F) G tk hi
        exact sx_seti G.K (ps_asg se.val (pg_sub (okV_snd G hv _) si.val set_list (asg_sub hs)) (swaps_sub _) (stores_sub _) rfl)
      · cases h
    · cases h
  | .aug i o e, Y, c, F, W, io, st, G, dk, tk, hio, h => by
    simp only [okS] at h
    split at h
    · split at h
      · simp only [Bool.and_eq_true, Bool.or_eq_true, decide_eq_true_eq] at h
        obtain ⟨⟨⟨hl, ho⟩, ho2⟩, he⟩ := h
        subst ho
        obtain ⟨hN, hi, hx, hf⟩ := okL_loc G hl
        have se := okX_snd B e (F := F) G tk he
        refine sx_aug ho2 hio (fun z => ?_) (fun z => ?_)
        · subst z; exact ps_aug hN hi hx se.val ip_add hf
        · subst z; exact ps_aug hN hi hx se.val ip_sub hf
      · cases h
    · cases h
  | .app i e, Y, c, F, W, io, st, G, dk, tk, hio, h => by
    simp only [okS] at h
    split at h
    · simp only [Bool.and_eq_true, beq_iff_eq] at h
      obtain ⟨⟨⟨⟨⟨hk, ha⟩, hv⟩, hs⟩, hl⟩, he⟩ := h
      have hk := List.isEmpty_iff.mp hk
      subst hk
      subst ha
      have se := okX_snd B e (F := F) G tk he
      have hs := notSt_snd hs
      have pa : PA Y [_] (tXs K F W (evs cl (.cons e .nil))) := pxs_cons hs se.val pxs_nil
      exact sx_app G.K (pe_bm PySem.F.plainAttrs_list PySem.F.slot_list_append PySem.F.type_list_append mt_append (okV_snd G hv _) pa rfl (by rw [star_plain hs]; rfl) (by rw [hl]; exact beq_self_eq_true _) (star_plain hs) rfl) (swaps_plain rfl _ _ _)
    · cases h
  | .ext i e, Y, c, F, W, io, st, G, dk, tk, hio, h => by
    simp only [okS] at h
    split at h
    · simp only [Bool.and_eq_true, beq_iff_eq] at h
      obtain ⟨⟨⟨⟨⟨hk, ha⟩, hv⟩, hs⟩, hl⟩, he⟩ := h
      have hk := List.isEmpty_iff.mp hk
      subst hk
      subst ha
      have se := okX_snd B e (F := F) G tk he
      have hs := notSt_snd hs
      have pa : PA Y [_] (tXs K F W (evs cl (.cons e .nil))) := pxs_cons hs se.val pxs_nil
      exact sx_ext G.K (pe_bm PySem.F.plainAttrs_list PySem.F.slot_list_extend PySem.F.type_list_extend mt_extend (okV_snd G hv _) pa rfl (by rw [star_plain hs]; rfl) (by rw [hl]; exact beq_self_eq_true _) (star_plain hs) rfl) (swaps_plain rfl _ _ _)
    · cases h
  | .ex e, Y, c, F, W, io, st, G, dk, tk, hio, h => by
    simp only [okS] at h
    split at h
    · simp only [Bool.and_eq_true] at h
      exact sx_ex (okX_snd B e (F := F) G tk h.2).val (swaps_plain h.1 _ _ _)
    · cases h
  | .iff t a b, Y, c, F, W, io, st, G, dk, tk, hio, h => by
    simp only [okS] at h
    split at h
    · simp only [Bool.and_eq_true] at h
      exact sx_iff (okX_snd B t (F := F) G tk h.1).tst (okSs_snd B a G dk tk hio h.2.1) (okSs_snd B b G dk tk hio h.2.2)
    · cases h
  | .for tg it b, Y, c, F, W, io, st, G, dk, tk, hio, h => by
    simp only [okS] at h
    split at h
    · simp only [Bool.and_eq_true] at h
      obtain ⟨⟨hel, hset⟩, hi, ht, hb⟩ := h
      have hel := List.isEmpty_iff.mp hel
      subst hel
      exact sx_for (wi := fun _ _ _ => True) dk.pass G.calm hio (okI_snd B it (F := F) G tk hi) (fun io' => okTg_snd (F := { F with io := io' }) G ht) (fun io' io2 h2 => okSs_snd B b (F := { F with io := io' }) (io := io2) G dk tk h2 hb) (fset hset)
    · cases h
  | .whl t b, Y, c, F, W, io, st, G, dk, tk, hio, h => by
    simp only [okS] at h
    split at h
    · simp only [Bool.and_eq_true] at h
      obtain ⟨hel, ht, hb⟩ := h
      have hel := List.isEmpty_iff.mp hel
      subst hel
      exact sx_whl dk.pass (okX_snd B t (F := F) G tk ht).tst (okSs_snd B b G dk tk hio hb)
    · cases h
  | .ret e, Y, c, F, W, io, st, G, dk, tk, hio, h => by
    simp only [okS] at h
    split at h
    · exact sx_ret (okX_snd B e (F := F) G tk h).val
    · cases h
  | .retn, Y, c, F, W, io, st, G, dk, tk, hio, h => by
    simp only [okS] at h
    split at h
    · exact sx_retn
    · cases h
  | .brk, Y, c, F, W, io, st, G, dk, tk, hio, h => by
    simp only [okS] at h
    split at h
    · exact sx_brk
    · cases h
  | .cnt, Y, c, F, W, io, st, G, dk, tk, hio, h => by
    simp only [okS] at h
    split at h
    · exact sx_cnt
    · cases h
  | .pas, Y, c, F, W, io, st, G, dk, tk, hio, h => by
    simp only [okS] at h
    split at h
    · exact sx_pas
    · exact sx_doc
    · cases h
  | .rse cn, Y, c, F, W, io, st, G, dk, tk, hio, h => by
    simp only [okS] at h
    split at h
    · simp only [Bool.and_eq_true, beq_iff_eq] at h
      obtain ⟨⟨⟨⟨hk, he⟩, hx⟩, hg⟩, hc⟩ := h
      have hk := List.isEmpty_iff.mp hk
      have he := List.isEmpty_iff.mp he
      subst hk
      subst he
      subst hx
      exact sx_rse B G tk hg hc
    · cases h
theorem okSs_snd (B : Glob g P w K mg base n cl) : ∀ (xs : Ss) {Y : Cx} {c : Ck} {F : Fr} {W : WX} {io : List Nat} {sts : List Stmt}, Good P w K mg base n Y c → DefOk Y c → L2N.Takes Y W → (∀ p ∈ F.io, p.1 ∈ io) → okSs g xs c sts = true → PSs Y sts (tS K F W (evSs cl xs io))
  | .nil, Y, c, F, W, io, sts, G, dk, tk, hio, h => by
    simp only [okSs] at h
    have h := List.isEmpty_iff.mp h
    subst h
    exact sxs_nil
  | .cons x xs, Y, c, F, W, io, sts, G, dk, tk, hio, h => by
    simp only [okSs] at h
    split at h
    · simp only [Bool.and_eq_true] at h
      exact sxs_cons (okS_snd B x G dk tk hio h.1) (okSs_snd B xs G dk tk hio h.2)
    · cases h
end
end
end MP
set_option linter.all false
set_option maxRecDepth 100000
set_option maxHeartbeats 8000000
/-! MiniPy: all defs of a text at once; the law's end. -/
namespace MP
open PySem PySem.Spec PyProof.Rows L2

/-- a def: its name, its text, its slots' names, its reading -/
structure DefR where
  name : Str
  st : Stmt
  N : List Str
  ps : List Str
  io : List Nat
  dv : List D
  body : Ss
def tbOf (defs : List DefR) (f : Nat) : Option FD := (defs[f]?).map fun d => ⟨d.ps.length, d.N.length, d.io, d.body⟩
def infoOf (defs : List DefR) (f : Nat) : Option FI := (defs[f]?).map fun d => ⟨d.ps.length, d.io, d.dv⟩
def scOk (N ps : List Str) (sc : Scope) : Bool :=
  sc.kind == .function && !sc.isCoroutine && !sc.isGenerator && decide N.Nodup && decide (N.take ps.length = ps) && (ps.all fun x => sc.names.lookup x == some .local || sc.names.lookup x == some .cell) && sc.names.all fun y => !(y.2 == .free)
theorem scOk_snd {N ps : List Str} {sc : Scope} (h : scOk N ps sc = true) : FnScope N ps sc := by
  unfold scOk at h
  simp only [Bool.and_eq_true, beq_iff_eq, Bool.not_eq_true', decide_eq_true_eq, List.all_eq_true, Bool.or_eq_true] at h
  obtain ⟨⟨⟨⟨⟨⟨h1, h2⟩, h3⟩, h4⟩, h5⟩, h6⟩, h7⟩ := h
  refine ⟨h1, h2, h3, h4, h5, fun x hx => h6 x hx, fun y hy z => ?_⟩
  have := h7 y hy
  rw [z] at this
  cases this
def okDef (g : Gk) (d : DefR) : Bool := scOk d.N d.ps (defScope d.st) && decide d.io.Nodup && (d.io.all fun i => decide (i < d.ps.length)) && okSs g d.body ⟨d.N, defScope d.st, none⟩ (defBody d.st)
/-- what the head tells of a def -/
structure Fdef (K : PySem.W.Frag) (mg : Str → Option Value) (d : DefR) (fa : Addr) (fdat : FuncData) : Prop where
  mg : mg d.name = some (.ref fa)
  fn : FunD K d.name d.name (defArgs d.st) (defBody d.st) (defScope d.st) (d.dv.map toV) [] fa fdat
  binds : ∀ j, j ≤ d.dv.length → ∃ dds, Vals ((d.dv.drop j).map toV) dds ∧ Binds K fdat d.ps dds
section
variable {P : Program} {w : World} {K : PySem.W.Frag} {mg : Str → Option Value} {base : Heap} {g : Gk} {defs : List DefR} {pr : Nat → Option ((Nat → List D → MP.CR) → List D → MP.CR)}
structure TopOk (K : PySem.W.Frag) (mg : Str → Option Value) (g : Gk) (defs : List DefR) : Prop where
  all : ∀ (f : Nat) (d : DefR), defs[f]? = some d → ∃ fa fdat, Fdef K mg d fa fdat
  info : g.info = infoOf defs
  names : ∀ x f, g.fns.lookup x = some f → ∃ d, defs[f]? = some d ∧ d.name = x
  free : ∀ x, g.free.contains x = true → mg x = none
  vals : ∀ x d, g.vals.lookup x = some d → ∃ u, mg x = some u ∧ RelV (toV d) u
  exc : ∀ x, g.exc.contains x = true → mg x = some (.ref (He.ga K x)) ∧ PySem.W.excIn K (He.ga K x) He.veBase "ValueError.__new__" = true ∧ PySem.W.keepIn K (.ref (He.ga K x)) = true ∧ PySem.W.subIn K (.ref (He.ga K x)) (.type "BaseException") = some true ∧ PySem.W.typeIn K (.ref (He.ga K x)) = some (.type "type")
def AllFn (P : Program) (w : World) (K : PySem.W.Frag) (mg : Str → Option Value) (base : Heap) (defs : List DefR) (pr : Nat → Option ((Nat → List D → MP.CR) → List D → MP.CR)) (n : Nat) : Prop :=
  ∀ f d fa fdat, defs[f]? = some d → Fdef K mg d fa fdat → FnG P w K mg base n fa fdat d.ps (spI K d.io (runD (tbOf defs) pr n f))
theorem glob_of (T : TopOk K mg g defs) {n : Nat} (A : AllFn P w K mg base defs pr n) : Glob g P w K mg base n (runD (tbOf defs) pr n) where
  fn := fun x f fi h1 h2 => by
    obtain ⟨d, e1, e2⟩ := T.names x f h1
    rw [T.info] at h2
    unfold infoOf at h2
    rw [e1] at h2
    cases h2
    obtain ⟨fa, fdat, F⟩ := T.all f d e1
    exact ⟨fa, fdat, d.ps, by rw [← e2]; exact F.mg, F.fn.kp, A f d fa fdat e1 F, F.binds⟩
  free := T.free
  vals := T.vals
  exc := T.exc
theorem all_fn (T : TopOk K mg g defs) (ok : ∀ f d, defs[f]? = some d → pr f = none → okDef g d = true)
    (hp : ∀ n f d fa fdat p, pr f = some p → defs[f]? = some d → Fdef K mg d fa fdat → AllFn P w K mg base defs pr n → FnG P w K mg base (n + 1) fa fdat d.ps (spI K d.io (p (runD (tbOf defs) pr n)))) : ∀ n, AllFn P w K mg base defs pr n
  | 0, f, d, fa, fdat, _, _ => by
    have no : ∀ {vs : List V} {H : Hp} {Q : VK} {E : XK}, ¬ spI K d.io (runD (tbOf defs) pr 0 f) vs H Q E := fun ⟨ds, gg, _, _, h⟩ => h
    exact ⟨fun vs H Q E h => (no h).elim, fun A outer s H args us vs Q E _ _ _ _ _ h => (no h).elim⟩
  | n + 1, f, d, fa, fdat, e, F => by
    have A := all_fn T ok hp n
    cases ep : pr f with
    | some p =>
      have : runD (tbOf defs) pr (n + 1) f = p (runD (tbOf defs) pr n) := by
        funext ds
        simp only [runD, ep]
      rw [this]
      exact hp n f d fa fdat p ep e F A
    | none =>
      have h := ok f d e ep
      unfold okDef at h
      simp only [Bool.and_eq_true, decide_eq_true_eq, List.all_eq_true] at h
      obtain ⟨⟨⟨hs, hnd⟩, hlt⟩, hb⟩ := h
      have S := scOk_snd hs
      refine fn_body (fd := ⟨d.ps.length, d.N.length, d.io, d.body⟩) (N := d.N) (cl := runD (tbOf defs) pr n) F.fn S rfl rfl hnd hlt (fun ds => ?_) fun cdv A0 outer s H E Fr0 room gd hio => ?_
      · have et : tbOf defs f = some ⟨d.ps.length, d.N.length, d.io, d.body⟩ := by
          unfold tbOf
          rw [e]
          rfl
        simp only [runD, ep, et]
      · have G : Good P w K mg base n (cxOf (L2N.CX P w) P w K mg base d.N d.name (defScope d.st) fa cdv A0 outer s H E) ⟨d.N, defScope d.st, none⟩ :=
          ⟨rfl, rfl, rfl, rfl, rfl, rfl, gd, room, rfl, S.nd, rfl, fun _ _ => rfl⟩
        exact okSs_snd (glob_of T A) d.body G ⟨PassesOwn.leaving⟩ (L2N.takes_of rfl rfl rfl rfl) hio hb
/-! ### the end -/
theorem ints_vals : ∀ {us : List Value} {ns : List Int}, IntsAre us ns → Vals (ns.map V.int) us
  | _, _, .nil => .nil
  | _, _, .cons _ t h => .cons ⟨t, rfl⟩ (ints_vals h)
/-- the law's def, called by the claim -/
theorem call_end {mb : Str → Option Value} {k : Nat} {fa a : Addr} {fd : FuncData} {x : Str} {run : List D → MP.CR} {s₁ : Shared} {us : List Value} {ns : List Int}
    (kin : K.In s₁.heap) (glob : s₁.heap.Ns mainGlobals mg) (blt : s₁.heap.Ns builtinsNs mb) (same : ∀ x : Str, x ≠ "__name__" → mb x = bootBuiltins x) (lim : s₁.heap.NoLimit) (gens : s₁.gens = #[])
    (script : s₁.heap.get? a = some { cls := .type "list", data := .seq us.toArray }) (are : IntsAre us ns) (few : ns.length ≤ sizeLine) (room : Room k callerA)
    (F : ∀ base : Heap, K.In base → base.Ns mainGlobals mg → FnG P w K mg base k fa fd [x] (spI K [] run)) (bind : ∀ (s : Shared) (u : Value), BindsTo s fd ⟨[u], []⟩ [(x, u)])
    (yes : run [.scr ns] = .ok (.bl true) []) :
    codeAny (model P w) callerA (.call (.ref fa) ⟨[.ref a], []⟩) (fun r s' => r = .ok (.ret (.bool true)) ∧ OldK s₁.heap s'.heap ∧ s'.os = s₁.os ∧ AllBare s'.gens) s₁ := by
  classical
  have rel := ints_vals are
  -- the script alone is tracked, where the module does not hold it
  let so : Obj := { cls := .type "list", data := .seq us.toArray }
  let H : Hp := fun b => if b = a ∧ K.lookup a = none then some (.frz so (.lst (ns.map V.int))) else none
  have seen : ∀ {b : Addr} {u : HO}, H b = some u → b = a ∧ K.lookup a = none ∧ u = .frz so (.lst (ns.map V.int)) := fun {b u} e => by
    by_cases hb : b = a ∧ K.lookup a = none
    · have := (if_pos hb).symm.trans e
      exact ⟨hb.1, hb.2, (Option.some.inj this).symm⟩
    · have := (if_neg hb).symm.trans e
      cases this
  have keep : ∀ {b : Addr} {o : Obj}, s₁.heap.get? b = some o → (b = a → K.lookup a ≠ none) → (hidT s₁.heap H).get? b = some o := fun {b o} e n => by
    refine hidT_get e ?_
    cases q : H b with
    | none => rfl
    | some u => exact absurd (seen q).2.1 (n (seen q).1)
  have names : ∀ {b : Addr} {m : Str → Option Value}, s₁.heap.Ns b m → (hidT s₁.heap H).Ns b m := fun {b m} ⟨o, es, ep, e, d, r⟩ => by
    refine ⟨o, es, ep, keep e fun z => ?_, d, r⟩
    subst z
    rw [script] at e
    cases e
    have d : Data.seq us.toArray _ = Data.dict es ep := d
    cases d
  have kin' : K.In (hidT s₁.heap H) := fun b o e => keep (kin b o e) fun z n => by rw [z, n] at e; cases e
  have md : Mod K mg (hidT s₁.heap H) := ⟨kin', names glob, ⟨mb, names blt, same⟩, by obtain ⟨mc, h1, h2⟩ := lim; exact ⟨mc, names h1, h2⟩⟩
  have hok : HOk P w H s₁.heap := fun b u e => by
    obtain ⟨rfl, _, rfl⟩ := seen e
    exact ⟨script, by rw [List.length_map]; exact few, us, _, rel, script⟩
  have env : Env0 P w K mg (hidT s₁.heap H) callerA [] s₁ H := ⟨rfl, md, fun b o e => of_hidT e, Nat.le_of_eq (hidT_size _ _), trivial, (fun b hb => nomatch hb), hok, .of_eq gens⟩
  have den : Den K H (.scr ns) (.ref a) [] := by
    refine ⟨a, rfl, ?_, rfl⟩
    cases e : K.lookup a with
    | none => exact .inl ⟨so, if_pos ⟨rfl, e⟩⟩
    | some o =>
      have e2 := kin a o e
      rw [script] at e2
      cases e2
      exact .inr ⟨_, us.toArray, _, e, rfl, rfl, rfl, by have := are.length; rw [List.size_toArray]; omega, by simpa using rel⟩
  have wish : spI K [] run [.ref a] H (fun v _ => v = .bl true) fun _ _ _ => False := by
    refine ⟨[.scr ns], [], DenL.one den, List.Pairwise.nil, ?_⟩
    rw [yes]
    refine ⟨rfl, fun v H' ⟨_, g', d, _⟩ => ?_⟩
    obtain ⟨y, ys, _, _, e, _, dy, _⟩ := d
    cases e
    exact dy.1
  refine codeAny_mono ((F _ kin' (names glob)).run callerA [] s₁ H ⟨[.ref a], []⟩ [.ref a] [.ref a] _ _ room rfl env (bind s₁ (.ref a)) (.cons rfl .nil) wish) fun r s' h => ?_
  match r, h with
  | .ok (.ret u), ⟨v, H', os, bare, un, hok', ru, ev⟩ =>
    have ev : v = .bl true := ev
    subst ev
    have ru : u = Value.bool true := ru
    refine ⟨by rw [ru], OldK.of_keep fun b o e => ?_, os, bare⟩
    cases q : H b with
    | none => exact un.keep b o e q (fun z => nomatch z) (fun z => nomatch z)
    | some u2 =>
      obtain ⟨rfl, _, rfl⟩ := seen q
      have q2 := un.frzs b so _ q
      have e1 := (hok b _ q).1
      have e2 := (hok' b _ q2).1
      rw [e] at e1
      cases e1
      exact e2
  | .error e, ⟨_, _, _, _, _, _, _, _, _, _, _, _, z⟩ => exact z.elim
  | .ok .next, h => exact h.elim
  | .ok .brk, h => exact h.elim
  | .ok .cont, h => exact h.elim
/-- THE CLAIM'S GOAL behind the head -/
theorem walk_end {l : PySem.W.OpenLaw} {n k : Nat} {q : Program} {loose : List Str} {XP : (Str → Option Value) → Heap → Prop} {YP : World → Heap → Prop} {d : DefRec} {x : Str} {run : List D → MP.CR}
    (most : l.most = some n) (few : n ≤ sizeLine) (plain : d.params.defaults = []) (room : Room k callerA) (yes : ∀ ns : List Int, ns.length ≤ n → run [.scr ns] = .ok (.bl true) [])
    (F : ∀ (w : World) (mg : Str → Option Value) (fa : Addr) (h : Heap), YP w h → h.Ns mainGlobals mg → mg d.name = some (.ref fa) →
      ∃ (K : PySem.W.Frag) (fd : FuncData), K.In h ∧ (∀ (s : Shared) (u : Value), BindsTo s fd ⟨[u], []⟩ [(x, u)]) ∧ ∀ base : Heap, K.In base → base.Ns mainGlobals mg → FnG l.prog w K mg base k fa fd [x] (spI K [] run)) :
    PySem.W.WalkO q loose XP YP l.row.toRowW d [] (fun f vs => PySem.call f vs) := by
  refine Att.attach_call most plain ?_
  intro w s₀ s₁ mg mb fa o pm cd doc a us ns ground yp _ _ _ named laid are len gens
  obtain ⟨K, fd, kin, bind, fn⟩ := F w mg fa _ yp ground.T.g named
  exact call_end kin ground.T.g ground.T.b ground.T.builtins ground.T.nolimit gens laid are (Nat.le_trans len few) room fn bind (yes ns len)
end
end MP
set_option linter.all false
set_option maxRecDepth 100000
set_option maxHeartbeats 4000000
/-! MiniPy: what the head looks at, beside the kit's facts: the classes of errors that a suite asks for. -/
namespace MP
open PySem PySem.Spec PyProof.Rows L2

/-- a class of errors answers isinstance as it should -/
def excB (K : PySem.W.Frag) (D : Addr) : Bool :=
  decide (PySem.W.findIn K (.ref D) "__getattribute__" = some (some (.builtin "BaseException.__getattribute__"))) && (decide (PySem.W.findIn K (.ref D) "__getattr__" = some none) && (decide (PySem.W.subIn K (.ref D) (.type "BaseException") = some true) &&
    (PySem.W.hasDictIn K D && (decide (PySem.W.findIn K (.ref D) "__class__" = some (some (.builtin "object.__class__"))) && (decide (PySem.W.specialIn K (.builtin "object.__class__") "__get__" = some (some (.builtin "getset_descriptor.__get__"))) &&
      (decide (PySem.W.takesIn K (.builtin "object.__class__") = some true) && decide (PySem.W.mroIn K D (.type "object") = some true)))))))
theorem excB_ok {K : PySem.W.Frag} {D : Addr} (h : excB K D = true) : ExcC K D := by
  unfold excB at h
  simp only [Bool.and_eq_true, decide_eq_true_eq] at h
  obtain ⟨h1, h2, h3, h4, h5, h6, h7, h8⟩ := h
  exact ⟨h1, h2, h3, h4, h5, h6, h7, h8⟩
/-- isinstance of an error of class D asked for the class named x -/
def kitB (K : PySem.W.Frag) (D : Addr) (x : Str) (b : Bool) : Bool := decide (PySem.W.kitOne K (.ref D) (.ref (He.ga K x)) = some b)
/-- the suite's look at an error of the class named d: base: the class that except names; yes: the classes asked one by one; no: those asked in one row -/
structure ErrD where
  d : Str
  base : Str
  one : List (Str × Bool)
  row : List Str
  ve : Bool
def ErrD.ok (K : PySem.W.Frag) (e : ErrD) : Bool :=
  excB K (He.ga K e.d) && (decide (PySem.W.exmOne K (.ref (He.ga K e.d)) (.ref (He.ga K e.base)) = some true) && ((e.one.all fun p => kitB K (He.ga K e.d) p.1 p.2) && ((e.row.all fun x => kitB K (He.ga K e.d) x false) && decide (PySem.W.kitOne K (.ref (He.ga K e.d)) (.type "ValueError") = some e.ve))))
/-! ### the Hook -/
abbrev Ob : Type := Bool × He.AlD
def obsM (fa : List He.Fa) (fn : List He.DefD) (es : List ErrD) (K : PySem.W.Frag) : Ob := (es.all fun e => e.ok K, He.obsD fa fn K)
def obG (fa : List He.Fa) (fn : List He.DefD) (es : List ErrD) (g : Addr → Option Obj) : Ob := obsM fa fn es (He.frG g (He.asD g 2))
def hookM (fa : List He.Fa) (fn : List He.DefD) (es : List ErrD) : PySem.W.Hook where
  α := Ob
  obs := fun s => obG fa fn es s.heap.get?
  val := fun _ => (true, He.valD fn)
  says := fun _ h => ∃ K : PySem.W.Frag, K.In h ∧ obsM fa fn es K = (true, He.valD fn)
  of := fun _ _ e => ⟨_, He.frG_in, e⟩
  keeps := fun _ _ _ ⟨K, hK, c⟩ k => ⟨K, PySem.W.Frag.In.keeps hK k, c⟩
theorem obG_eq {fa : List He.Fa} {fn : List He.DefD} {es : List ErrD} (s : PySem.W.SharedT) : obG fa fn es (HandSHeadRun.getT s) = (hookM fa fn es).obs s.abs := by
  have : HandSHeadRun.getT s = s.abs.heap.get? := funext fun a => HandSHeadRun.getT_eq s a
  rw [this]
  rfl
theorem says_errs {fa : List He.Fa} {fn : List He.DefD} {es : List ErrD} {K : PySem.W.Frag} (h : obsM fa fn es K = (true, He.valD fn)) : (∀ e ∈ es, e.ok K = true) ∧ He.SaysD fa fn K :=
  ⟨List.all_eq_true.mp (congrArg Prod.fst h), congrArg Prod.snd h⟩

/-! ### the facts of a text -/
def toDv : D → He.Dv
  | .bl b => .bl b
  | .int i => .int i
  | .str x => .str x
  | _ => .non
theorem toDv_v (K : PySem.W.Frag) (d : D) : (toDv d).v K = toV d := by cases d <;> rfl
def valFa : Str × D → List He.Fa
  | (x, .int i) => [.int x i]
  | (x, .str z) => [.str x z]
  | _ => []
def faOf (defs : List DefR) (cls : List Str) (g : Gk) : List He.Fa := defs.map (fun d => .glo d.name) ++ (cls.map .glo ++ (g.free.map .free ++ (g.vals.flatMap valFa ++ g.exc.map .exc)))
def fnOf' (defs : List DefR) : List He.DefD := defs.map fun d => ⟨(d.name, none), d.name, d.name, defArgs d.st, defBody d.st, defScope d.st, d.dv.map toDv, []⟩
def okTop (defs : List DefR) (cls : List Str) (g : Gk) : Bool := (g.fns.all fun p => (defs[p.2]?.map (·.name)) == some p.1) && ((g.exc.all fun x => cls.contains x) && g.vals.all fun p => match p.2 with
  | .int _ => true
  | .str _ => true
  | _ => false)
/-- how a def's arguments are bound -/
def BindsD (K : PySem.W.Frag) (d : DefR) : Prop := ∀ fa fdat, FunD K d.name d.name (defArgs d.st) (defBody d.st) (defScope d.st) (d.dv.map toV) [] fa fdat → ∀ j, j ≤ d.dv.length → ∃ dds, Vals ((d.dv.drop j).map toV) dds ∧ Binds K fdat d.ps dds
theorem vals_map {K : PySem.W.Frag} (ds : List D) : (ds.map toDv).map (He.Dv.v K) = ds.map toV := by
  rw [List.map_map]
  exact List.map_congr_left fun d _ => toDv_v K d
theorem top_ok {K : PySem.W.Frag} {h : Heap} {mg : Str → Option Value} {g : Gk} {defs : List DefR} {cls : List Str} {es : List ErrD} (kin : K.In h) (G : h.Ns mainGlobals mg) (say : MP.obsM (faOf defs cls g) (fnOf' defs) es K = (true, He.valD (fnOf' defs)))
    (ok : okTop defs cls g = true) (hi : g.info = infoOf defs) (hb : ∀ (f : Nat) (d : DefR), defs[f]? = some d → BindsD K d) : TopOk K mg g defs := by
  obtain ⟨_, c⟩ := says_errs say
  have fact : ∀ f ∈ faOf defs cls g, f.ok K = true := fun f hf => by
    obtain ⟨i, hi, e⟩ := List.getElem_of_mem hf
    exact c.fact i (by rw [List.getElem?_eq_getElem hi, e])
  unfold okTop at ok
  simp only [Bool.and_eq_true, List.all_eq_true] at ok
  obtain ⟨o1, o2, o3⟩ := ok
  have glo : ∀ x, (He.Fa.glo x) ∈ faOf defs cls g → mg x = some (.ref (He.ga K x)) := fun x hx => He.glo_ok kin G (fact _ hx)
  refine ⟨fun f d e => ?_, hi, fun x f e => ?_, fun x hx => ?_, fun x d e => ?_, fun x hx => ?_⟩
  · obtain ⟨fdat, F⟩ := c.def_ f (d := ⟨(d.name, none), d.name, d.name, defArgs d.st, defBody d.st, defScope d.st, d.dv.map toDv, []⟩) (by
      unfold fnOf'
      rw [List.getElem?_map, e]
      rfl)
    have F2 : FunD K d.name d.name (defArgs d.st) (defBody d.st) (defScope d.st) (d.dv.map toV) [] (He.ga K d.name) fdat := by
      have := F
      rw [show (He.DefD.dvs K ⟨(d.name, none), d.name, d.name, defArgs d.st, defBody d.st, defScope d.st, d.dv.map toDv, []⟩) = d.dv.map toV from vals_map d.dv] at this
      exact this
    exact ⟨_, fdat, glo _ (List.mem_append_left _ (List.mem_map.mpr ⟨d, List.mem_of_getElem? e, rfl⟩)), F2, hb f d e _ _ F2⟩
  · have := o1 (x, f) (PySem.mem_of_lookup e)
    simp only [beq_iff_eq] at this
    cases e2 : defs[f]? with
    | none => rw [e2] at this; cases this
    | some d => rw [e2] at this; exact ⟨d, rfl, Option.some.inj this⟩
  · refine He.free_ok kin G (fact (.free x) ?_)
    have : x ∈ g.free := by simpa using hx
    exact List.mem_append_right _ (List.mem_append_right _ (List.mem_append_left _ (List.mem_map.mpr ⟨x, this, rfl⟩)))
  · have m := PySem.mem_of_lookup e
    have q := o3 (x, d) m
    have at_ : ∀ f ∈ valFa (x, d), f ∈ faOf defs cls g := fun f hf => List.mem_append_right _ (List.mem_append_right _ (List.mem_append_right _ (List.mem_append_left _ (List.mem_flatMap.mpr ⟨_, m, hf⟩))))
    cases d with
    | int i =>
      obtain ⟨t, et⟩ := He.int_ok kin G (fact (.int x i) (at_ _ List.mem_cons_self))
      exact ⟨_, et, t, rfl⟩
    | str z =>
      obtain ⟨t, et⟩ := He.str_ok kin G (fact (.str x z) (at_ _ List.mem_cons_self))
      exact ⟨_, et, t, rfl⟩
    | _ => cases q
  · have m : x ∈ g.exc := by simpa using hx
    have m2 : x ∈ cls := by simpa using o2 x m
    refine ⟨glo x (List.mem_append_right _ (List.mem_append_left _ (List.mem_map.mpr ⟨x, m2, rfl⟩))), ?_⟩
    exact He.exc_ok (fact (.exc x) (List.mem_append_right _ (List.mem_append_right _ (List.mem_append_right _ (List.mem_append_right _ (List.mem_map.mpr ⟨x, m, rfl⟩))))))
theorem cls_glo {K : PySem.W.Frag} {h : Heap} {mg : Str → Option Value} {g : Gk} {defs : List DefR} {cls : List Str} {es : List ErrD} (kin : K.In h) (G : h.Ns mainGlobals mg) (say : MP.obsM (faOf defs cls g) (fnOf' defs) es K = (true, He.valD (fnOf' defs))) :
    ∀ x ∈ cls, mg x = some (.ref (He.ga K x)) := fun x hx => by
  obtain ⟨_, c⟩ := says_errs say
  refine He.glo_ok kin G ?_
  have hf : (He.Fa.glo x) ∈ faOf defs cls g := List.mem_append_right _ (List.mem_append_left _ (List.mem_map.mpr ⟨x, hx, rfl⟩))
  obtain ⟨i, hi, e⟩ := List.getElem_of_mem hf
  exact c.fact i (by rw [List.getElem?_eq_getElem hi, e])
end MP
set_option linter.all false
set_option maxRecDepth 100000
set_option maxHeartbeats 0
namespace MP
open PySem PySem.Spec PyProof.Rows L2
def top (i : Nat) : Stmt := PySem.Challenge.pw_everyshift_k01_reduced_and_written.main.body.getD i (.Pass ⟨0, 0, 0, 0⟩)
/-- 0 is_whole -/
def d0 : DefR := ⟨"is_whole", top 45, [("value" : PySem.Str)], [("value" : PySem.Str)], [], [], (.cons (.ret (.band (.isi (.v 0 false) [.int]) (.bnot (.isi (.v 0 false) [.bool])))) .nil)⟩
/-- 1 is_within -/
def d1 : DefR := ⟨"is_within", top 46, [("value" : PySem.Str), ("low" : PySem.Str), ("high" : PySem.Str)], [("value" : PySem.Str), ("low" : PySem.Str), ("high" : PySem.Str)], [], [], (.cons (.ret (.band (.call 0 (.lent 0 .nil) []) (.chn .le .le (.v 1 false) (.v 0 false) (.v 2 false)))) .nil)⟩
/-- 2 check_directions -/
def d2 : DefR := ⟨"check_directions", top 47, [("directions" : PySem.Str)], [("directions" : PySem.Str)], [], [], (.cons (.iff (.bnot (.call 1 (.lent 0 (.val (.k (.int 1)) (.val (.k (.int 18)) .nil))) [])) (.cons (.rse "BadNumber") .nil) .nil) .nil)⟩
/-- 3 is_tuple_within -/
def d3 : DefR := ⟨"is_tuple_within", top 48, [("length" : PySem.Str), ("low" : PySem.Str), ("value" : PySem.Str), ("entry" : PySem.Str)], [("length" : PySem.Str), ("low" : PySem.Str), ("value" : PySem.Str)], [], [], (.cons (.iff (.bor (.bnot (.isi (.v 2 false) [.tuple])) (.cmp .ne (.bi .len (.cons (.v 2 false) .nil)) (.v 0 false))) (.cons (.ret (.k (.bl false))) .nil) .nil) (.cons (.ret (.bi .all (.cons (.lc (.call 1 (.lent 3 (.lent 1 (.val (.k (.int 1000000000000000000000000000000000000000000000000000000000000)) .nil))) []) (.nm 3) (.seq (.v 2 false)) .none [3]) .nil))) .nil))⟩
/-- 4 is_cell -/
def d4 : DefR := ⟨"is_cell", top 49, [("directions" : PySem.Str), ("value" : PySem.Str)], [("directions" : PySem.Str), ("value" : PySem.Str)], [], [], (.cons (.ex (.call 2 (.lent 0 .nil) [])) (.cons (.ret (.call 3 (.lent 0 (.val (.neg (.k (.int 1000000000000000000000000000000000000000000000000000000000000))) (.lent 1 .nil))) [])) .nil))⟩
/-- 5 is_square -/
def d5 : DefR := ⟨"is_square", top 50, [("value" : PySem.Str), ("row" : PySem.Str), ("entry" : PySem.Str)], [("value" : PySem.Str)], [], [], (.cons (.iff (.bor (.bnot (.isi (.v 0 false) [.tuple])) (.bnot (.chn .le .le (.k (.int 1)) (.bi .len (.cons (.v 0 false) .nil)) (.k (.int 18))))) (.cons (.ret (.k (.bl false))) .nil) .nil) (.cons (.for (.nm 1) (.seq (.v 0 false)) (.cons (.iff (.bor (.bnot (.isi (.v 1 false) [.tuple])) (.cmp .ne (.bi .len (.cons (.v 1 false) .nil)) (.bi .len (.cons (.v 0 false) .nil)))) (.cons (.ret (.k (.bl false))) .nil) .nil) (.cons (.iff (.bnot (.bi .all (.cons (.lc (.call 0 (.lent 2 .nil) []) (.nm 2) (.lent 1) .none [2]) .nil))) (.cons (.ret (.k (.bl false))) .nil) .nil) .nil))) (.cons (.ret (.k (.bl true))) .nil)))⟩
/-- 6 is_basis_row -/
def d6 : DefR := ⟨"is_basis_row", top 51, [("square" : PySem.Str), ("i" : PySem.Str), ("row" : PySem.Str), ("j" : PySem.Str)], [("square" : PySem.Str), ("i" : PySem.Str)], [], [], (.cons (.set 2 (.ix (.v 0 false) (.v 1 false))) (.cons (.iff (.cmp .lt (.ix (.v 2 false) (.v 1 false)) (.k (.int 1))) (.cons (.ret (.k (.bl false))) .nil) .nil) (.cons (.for (.nm 3) (.rng (.cons (.v 1 false) .nil)) (.cons (.iff (.cmp .ne (.ix (.v 2 false) (.v 3 false)) (.k (.int 0))) (.cons (.ret (.k (.bl false))) .nil) .nil) .nil)) (.cons (.for (.nm 3) (.rng (.cons (.bin .add (.v 1 false) (.k (.int 1))) (.cons (.bi .len (.cons (.v 2 false) .nil)) .nil))) (.cons (.iff (.bnot (.chn .le .lt (.k (.int 0)) (.ix (.v 2 false) (.v 3 false)) (.ix (.ix (.v 0 false) (.v 3 false)) (.v 3 false)))) (.cons (.ret (.k (.bl false))) .nil) .nil) .nil)) (.cons (.ret (.k (.bl true))) .nil)))))⟩
/-- 7 index_bounded -/
def d7 : DefR := ⟨"index_bounded", top 52, [("screens" : PySem.Str), ("product" : PySem.Str), ("screen" : PySem.Str), ("i" : PySem.Str)], [("screens" : PySem.Str)], [], [], (.cons (.set 1 (.k (.int 1))) (.cons (.for (.nm 2) (.seq (.v 0 false)) (.cons (.for (.nm 3) (.rng (.cons (.bi .len (.cons (.v 2 false) .nil)) .nil)) (.cons (.set 1 (.bin .mul (.v 1 false) (.ix (.ix (.v 2 false) (.v 3 false)) (.v 3 false)))) (.cons (.iff (.cmp .gt (.v 1 false) (.k (.int 1000000000000000000000000000000000000000000000000000000000000))) (.cons (.ret (.k (.bl false))) .nil) .nil) .nil))) .nil)) (.cons (.ret (.k (.bl true))) .nil)))⟩
/-- 8 is_screen -/
def d8 : DefR := ⟨"is_screen", top 53, [("value" : PySem.Str), ("i" : PySem.Str)], [("value" : PySem.Str)], [], [], (.cons (.iff (.bnot (.call 5 (.lent 0 .nil) [])) (.cons (.ret (.k (.bl false))) .nil) .nil) (.cons (.iff (.bnot (.bi .all (.cons (.lc (.call 6 (.lent 0 (.lent 1 .nil)) []) (.nm 1) (.rng (.cons (.bi .len (.cons (.v 0 false) .nil)) .nil)) .none [1]) .nil))) (.cons (.ret (.k (.bl false))) .nil) .nil) (.cons (.ret (.call 7 (.val (.lst (.cons (.v 0 true) .nil)) .nil) [])) .nil)))⟩
/-- 9 check_cell -/
def d9 : DefR := ⟨"check_cell", top 54, [("directions" : PySem.Str), ("value" : PySem.Str)], [("directions" : PySem.Str), ("value" : PySem.Str)], [], [], (.cons (.iff (.bnot (.call 4 (.lent 0 (.lent 1 .nil)) [])) (.cons (.rse "BadCell") .nil) .nil) .nil)⟩
/-- 10 check_screen -/
def d10 : DefR := ⟨"check_screen", top 55, [("value" : PySem.Str)], [("value" : PySem.Str)], [], [], (.cons (.iff (.bnot (.call 8 (.lent 0 .nil) [])) (.cons (.rse "BadScreen") .nil) .nil) .nil)⟩
/-- 11 lessened -/
def d11 : DefR := ⟨"lessened", top 57, [("basis" : PySem.Str), ("x" : PySem.Str), ("start" : PySem.Str), ("rest" : PySem.Str), ("j" : PySem.Str), ("times" : PySem.Str), ("a" : PySem.Str), ("b" : PySem.Str)], [("basis" : PySem.Str), ("x" : PySem.Str), ("start" : PySem.Str)], [], [], (.cons (.set 3 (.bi .list (.cons (.v 1 false) .nil))) (.cons (.for (.nm 4) (.rng (.cons (.v 2 false) (.cons (.bi .len (.cons (.v 0 false) .nil)) .nil))) (.cons (.set 5 (.bin .fdiv (.ix (.v 3 false) (.v 4 false)) (.ix (.ix (.v 0 false) (.v 4 false)) (.v 4 false)))) (.cons (.iff (.cmp .ne (.v 5 false) (.k (.int 0))) (.cons (.set 3 (.lc (.bin .sub (.v 6 false) (.bin .mul (.v 5 false) (.v 7 false))) (.tp [6, 7]) (.zip (.v 3 false) (.ix (.v 0 false) (.v 4 false))) .none [6, 7])) .nil) .nil) .nil))) (.cons (.ret (.bi .tuple (.cons (.v 3 false) .nil))) .nil)))⟩
/-- 12 reduced -/
def d12 : DefR := ⟨"reduced", top 58, [("screen" : PySem.Str), ("x" : PySem.Str)], [("screen" : PySem.Str), ("x" : PySem.Str)], [], [], (.cons (.ex (.call 10 (.lent 0 .nil) [])) (.cons (.ex (.call 9 (.val (.bi .len (.cons (.v 0 false) .nil)) (.lent 1 .nil)) [])) (.cons (.ret (.call 11 (.lent 0 (.lent 1 (.val (.k (.int 0)) .nil))) [])) .nil)))⟩
/-- 13 written -/
def d13 : DefR := ⟨"written", top 59, [("screen" : PySem.Str), ("x" : PySem.Str), ("rest" : PySem.Str), ("numbers" : PySem.Str), ("j" : PySem.Str), ("times" : PySem.Str), ("a" : PySem.Str), ("b" : PySem.Str)], [("screen" : PySem.Str), ("x" : PySem.Str)], [], [], (.cons (.ex (.call 10 (.lent 0 .nil) [])) (.cons (.ex (.call 9 (.val (.bi .len (.cons (.v 0 false) .nil)) (.lent 1 .nil)) [])) (.cons (.set 2 (.bi .list (.cons (.v 1 false) .nil))) (.cons (.set 3 (.lst .nil)) (.cons (.for (.nm 4) (.rng (.cons (.bi .len (.cons (.v 0 false) .nil)) .nil)) (.cons (.iff (.cmp .ne (.bin .mod (.ix (.v 2 false) (.v 4 false)) (.ix (.ix (.v 0 false) (.v 4 false)) (.v 4 false))) (.k (.int 0))) (.cons (.ret (.k (.non))) .nil) .nil) (.cons (.set 5 (.bin .fdiv (.ix (.v 2 false) (.v 4 false)) (.ix (.ix (.v 0 false) (.v 4 false)) (.v 4 false)))) (.cons (.app 3 (.v 5 false)) (.cons (.set 2 (.lc (.bin .sub (.v 6 false) (.bin .mul (.v 5 false) (.v 7 false))) (.tp [6, 7]) (.zip (.v 2 false) (.ix (.v 0 false) (.v 4 false))) .none [6, 7])) .nil))))) (.cons (.ret (.v 3 true)) .nil))))))⟩
/-- 14 _law_start -/
def d14 : DefR := ⟨"_law_start", top 61, [("script" : PySem.Str)], [("script" : PySem.Str)], [], [], (.cons (.ret (.lst (.cons (.bi .list (.cons (.v 0 false) .nil)) (.cons (.k (.int 0)) (.cons (.k (.int 0)) (.cons (.k (.int 0)) (.cons (.k (.int 7)) (.cons (.k (.int 0)) .nil)))))))) .nil)⟩
/-- 15 _law_mixed -/
def d15 : DefR := ⟨"_law_mixed", top 62, [("state" : PySem.Str), ("turn" : PySem.Str), ("wide" : PySem.Str), ("once" : PySem.Str), ("twice" : PySem.Str)], [("state" : PySem.Str), ("turn" : PySem.Str)], [], [], (.cons (.set 2 (.k (.int 2305843009213693951))) (.cons (.set 3 (.bin .mod (.bi .int (.cons (.bin .add (.bin .add (.bin .mul (.v 0 false) (.k (.int 6364136223846793005))) (.bin .mul (.v 1 false) (.k (.int 1442695040888963407)))) (.k (.int 1013904223))) .nil)) (.v 2 false))) (.cons (.set 4 (.bin .mod (.bi .int (.cons (.bin .add (.bin .add (.bin .mul (.bin .fdiv (.v 3 false) (.k (.int 1048576))) (.k (.int 2862933555777941757))) (.bin .mul (.v 3 false) (.v 3 false))) (.bin .mul (.v 1 false) (.k (.int 3037000493)))) .nil)) (.k (.int 1000000000000000003)))) (.cons (.ret (.bin .fdiv (.v 4 false) (.k (.int 1000)))) .nil))))⟩
/-- 16 _law_wide -/
def d16 : DefR := ⟨"_law_wide", top 63, [("state" : PySem.Str), ("turn" : PySem.Str), ("many" : PySem.Str), ("drawn" : PySem.Str), ("reach" : PySem.Str), ("k" : PySem.Str)], [("state" : PySem.Str), ("turn" : PySem.Str), ("many" : PySem.Str)], [], [], (.cons (.set 3 (.call 15 (.lent 0 (.lent 1 .nil)) [])) (.cons (.set 4 (.bin .pow (.k (.int 10)) (.k (.int 15)))) (.cons (.for (.nm 5) (.rng (.cons (.k (.int 40)) .nil)) (.cons (.iff (.cmp .ge (.v 4 false) (.bin .mul (.v 2 false) (.k (.int 1000)))) (.cons (.brk) .nil) .nil) (.cons (.set 3 (.bin .add (.bin .mul (.v 3 false) (.bin .pow (.k (.int 10)) (.k (.int 15)))) (.call 15 (.lent 0 (.val (.bin .add (.v 1 false) (.bin .mul (.k (.int 1000003)) (.bin .add (.v 5 false) (.k (.int 1))))) .nil)) []))) (.cons (.set 4 (.bin .mul (.v 4 false) (.bin .pow (.k (.int 10)) (.k (.int 15))))) .nil)))) (.cons (.ret (.bin .mod (.bi .int (.cons (.v 3 false) .nil)) (.v 2 false))) .nil))))⟩
/-- 17 _law_move -/
def d17 : DefR := ⟨"_law_move", top 64, [("store" : PySem.Str), ("cell" : PySem.Str)], [("store" : PySem.Str)], [0], [], (.cons (.set 1 (.bi .int (.cons (.ix (.ix (.v 0 false) (.k (.int 0))) (.ix (.v 0 false) (.k (.int 1)))) .nil))) (.cons (.seti 0 (.k (.int 4)) (.call 15 (.val (.bin .add (.ix (.v 0 false) (.k (.int 4))) (.bin .mod (.bi .int (.cons (.v 1 false) .nil)) (.k (.int 2305843009213693951)))) (.val (.bin .add (.ix (.v 0 false) (.k (.int 1))) (.k (.int 7))) .nil)) [])) (.cons (.seti 0 (.k (.int 1)) (.bin .add (.ix (.v 0 false) (.k (.int 1))) (.k (.int 1)))) (.cons (.iff (.bor (.cmp .ge (.v 1 false) (.bin .pow (.k (.int 10)) (.k (.int 18)))) (.cmp .le (.v 1 false) (.neg (.bin .pow (.k (.int 10)) (.k (.int 18)))))) (.cons (.seti 0 (.k (.int 2)) (.bin .mod (.bi .int (.cons (.bi .abs (.cons (.v 1 false) .nil)) .nil)) (.bin .pow (.bin .pow (.k (.int 10)) (.k (.int 60))) (.k (.int 12))))) .nil) (.cons (.seti 0 (.k (.int 3)) (.k (.int 2))) .nil)) .nil))))⟩
/-- 18 _law_take -/
def d18 : DefR := ⟨"_law_take", top 65, [("store" : PySem.Str), ("many" : PySem.Str), ("k" : PySem.Str), ("drawn" : PySem.Str)], [("store" : PySem.Str), ("many" : PySem.Str)], [0], [], (.cons (.iff (.cmp .lt (.v 1 false) (.k (.int 2))) (.cons (.ret (.k (.int 0))) .nil) .nil) (.cons (.seti 0 (.k (.int 5)) (.bin .add (.ix (.v 0 false) (.k (.int 5))) (.k (.int 1)))) (.cons (.for (.nm 2) (.rng (.cons (.bi .len (.cons (.ix (.v 0 false) (.k (.int 0))) .nil)) .nil)) (.cons (.iff (.bor (.cmp .gt (.ix (.v 0 false) (.k (.int 2))) (.k (.int 0))) (.bor (.cmp .gt (.ix (.v 0 false) (.k (.int 3))) (.k (.int 0))) (.cmp .ge (.ix (.v 0 false) (.k (.int 1))) (.bi .len (.cons (.ix (.v 0 false) (.k (.int 0))) .nil))))) (.cons (.brk) .nil) .nil) (.cons (.ex (.call 17 (.io 0 .nil) [])) .nil))) (.cons (.iff (.cmp .gt (.ix (.v 0 false) (.k (.int 2))) (.k (.int 0))) (.cons (.set 3 (.bin .mod (.bi .int (.cons (.ix (.v 0 false) (.k (.int 2))) .nil)) (.v 1 false))) (.cons (.seti 0 (.k (.int 2)) (.bin .fdiv (.ix (.v 0 false) (.k (.int 2))) (.v 1 false))) (.cons (.ret (.v 3 true)) .nil))) .nil) (.cons (.seti 0 (.k (.int 3)) (.bi .max2 (.cons (.k (.int 0)) (.cons (.bin .sub (.ix (.v 0 false) (.k (.int 3))) (.k (.int 1))) .nil)))) (.cons (.ret (.call 16 (.val (.ix (.v 0 false) (.k (.int 4))) (.val (.ix (.v 0 false) (.k (.int 5))) (.lent 1 .nil))) [])) .nil))))))⟩
/-- 19 _law_from -/
def d19 : DefR := ⟨"_law_from", top 66, [("store" : PySem.Str), ("low" : PySem.Str), ("high" : PySem.Str)], [("store" : PySem.Str), ("low" : PySem.Str), ("high" : PySem.Str)], [0], [], (.cons (.ret (.bin .add (.v 1 false) (.call 18 (.io 0 (.val (.bin .add (.bin .sub (.v 2 false) (.v 1 false)) (.k (.int 1))) .nil)) []))) .nil)⟩
/-- 20 _law_pick -/
def d20 : DefR := ⟨"_law_pick", top 67, [("store" : PySem.Str), ("things" : PySem.Str)], [("store" : PySem.Str), ("things" : PySem.Str)], [0], [], (.cons (.ret (.ix (.v 1 false) (.call 18 (.io 0 (.val (.bi .len (.cons (.v 1 false) .nil)) .nil)) []))) .nil)⟩
/-- 21 _law_rare -/
def d21 : DefR := ⟨"_law_rare", top 68, [("store" : PySem.Str), ("many" : PySem.Str)], [("store" : PySem.Str), ("many" : PySem.Str)], [0], [], (.cons (.ret (.cmp .eq (.call 18 (.io 0 (.lent 1 .nil)) []) (.k (.int 0)))) .nil)⟩
/-- 22 _law_number -/
def d22 : DefR := ⟨"_law_number", top 69, [("store" : PySem.Str), ("how" : PySem.Str)], [("store" : PySem.Str)], [0], [], (.cons (.set 1 (.call 18 (.io 0 (.val (.k (.int 8)) .nil)) [])) (.cons (.iff (.cmp .eq (.v 1 false) (.k (.int 0))) (.cons (.ret (.call 20 (.io 0 (.val (.lst (.cons (.k (.int 0)) (.cons (.k (.int 1)) (.cons (.neg (.k (.int 1))) (.cons (.k (.int 2)) (.cons (.neg (.k (.int 2))) .nil)))))) .nil)) [])) .nil) .nil) (.cons (.iff (.cmp .eq (.v 1 false) (.k (.int 1))) (.cons (.ret (.call 20 (.io 0 (.val (.lst (.cons (.bin .pow (.k (.int 10)) (.k (.int 60))) (.cons (.neg (.bin .pow (.k (.int 10)) (.k (.int 60)))) (.cons (.bin .sub (.bin .pow (.k (.int 10)) (.k (.int 60))) (.k (.int 1))) (.cons (.bin .sub (.k (.int 1)) (.bin .pow (.k (.int 10)) (.k (.int 60)))) .nil))))) .nil)) [])) .nil) .nil) (.cons (.iff (.cmp .eq (.v 1 false) (.k (.int 2))) (.cons (.ret (.call 19 (.io 0 (.val (.neg (.bin .pow (.k (.int 10)) (.k (.int 60)))) (.val (.bin .pow (.k (.int 10)) (.k (.int 60))) .nil))) [])) .nil) .nil) (.cons (.iff (.cmp .eq (.v 1 false) (.k (.int 3))) (.cons (.ret (.call 19 (.io 0 (.val (.neg (.bin .pow (.k (.int 10)) (.k (.int 9)))) (.val (.bin .pow (.k (.int 10)) (.k (.int 9))) .nil))) [])) .nil) .nil) (.cons (.ret (.call 19 (.io 0 (.val (.neg (.k (.int 12))) (.val (.k (.int 12)) .nil))) [])) .nil))))))⟩
/-- 23 _law_count -/
def d23 : DefR := ⟨"_law_count", top 70, [("store" : PySem.Str), ("most" : PySem.Str), ("how" : PySem.Str)], [("store" : PySem.Str), ("most" : PySem.Str)], [0], [], (.cons (.set 2 (.call 18 (.io 0 (.val (.k (.int 6)) .nil)) [])) (.cons (.iff (.cmp .eq (.v 2 false) (.k (.int 0))) (.cons (.ret (.k (.int 1))) .nil) .nil) (.cons (.iff (.cmp .eq (.v 2 false) (.k (.int 1))) (.cons (.ret (.bi .max2 (.cons (.k (.int 1)) (.cons (.bin .sub (.v 1 false) (.call 18 (.io 0 (.val (.k (.int 2)) .nil)) [])) .nil)))) .nil) .nil) (.cons (.iff (.cmp .eq (.v 2 false) (.k (.int 2))) (.cons (.ret (.call 19 (.io 0 (.val (.k (.int 1)) (.lent 1 .nil))) [])) .nil) .nil) (.cons (.ret (.call 19 (.io 0 (.val (.k (.int 1)) (.val (.bi .min2 (.cons (.v 1 false) (.cons (.k (.int 12)) .nil))) .nil))) [])) .nil)))))⟩
/-- 24 _law_order -/
def d24 : DefR := ⟨"_law_order", top 71, [("store" : PySem.Str), ("many" : PySem.Str), ("places" : PySem.Str), ("how" : PySem.Str), ("at" : PySem.Str), ("k" : PySem.Str), ("held" : PySem.Str)], [("store" : PySem.Str), ("many" : PySem.Str)], [0], [], (.cons (.set 2 (.lrg (.cons (.v 1 false) .nil))) (.cons (.set 3 (.call 18 (.io 0 (.val (.k (.int 6)) .nil)) [])) (.cons (.iff (.cmp .eq (.v 3 false) (.k (.int 1))) (.cons (.set 2 (.lc (.bin .sub (.bin .sub (.v 1 false) (.k (.int 1))) (.v 5 false)) (.nm 5) (.rng (.cons (.v 1 false) .nil)) .none [5])) .nil) .nil) (.cons (.iff (.band (.cmp .eq (.v 3 false) (.k (.int 2))) (.cmp .gt (.v 1 false) (.k (.int 1)))) (.cons (.set 4 (.call 18 (.io 0 (.val (.bin .sub (.v 1 false) (.k (.int 1))) .nil)) [])) (.cons (.seti 2 (.v 4 false) (.bin .add (.v 4 false) (.k (.int 1)))) (.cons (.seti 2 (.bin .add (.v 4 false) (.k (.int 1))) (.v 4 false)) .nil))) .nil) (.cons (.iff (.cmp .gt (.v 3 false) (.k (.int 2))) (.cons (.for (.nm 5) (.rng (.cons (.bin .sub (.v 1 false) (.k (.int 1))) (.cons (.k (.int 0)) (.cons (.neg (.k (.int 1))) .nil)))) (.cons (.set 4 (.call 18 (.io 0 (.val (.bin .add (.v 5 false) (.k (.int 1))) .nil)) [])) (.cons (.set 6 (.ix (.v 2 false) (.v 4 false))) (.cons (.seti 2 (.v 4 false) (.ix (.v 2 false) (.v 5 false))) (.cons (.seti 2 (.v 5 false) (.v 6 true)) .nil))))) .nil) .nil) (.cons (.ret (.v 2 true)) .nil))))))⟩
/-- 25 _law_copy -/
def d25 : DefR := ⟨"_law_copy", top 72, [("part" : PySem.Str), ("deep" : PySem.Str), ("x" : PySem.Str)], [("part" : PySem.Str), ("deep" : PySem.Str)], [], [.int 8], (.cons (.iff (.cmp .lt (.v 1 false) (.k (.int 1))) (.cons (.ret (.v 0 true)) .nil) .nil) (.cons (.iff (.isi (.v 0 false) [.list]) (.cons (.ret (.lc (.call 25 (.lent 2 (.val (.bin .sub (.v 1 false) (.k (.int 1))) .nil)) []) (.nm 2) (.seq (.v 0 false)) .none [2])) .nil) .nil) (.cons (.iff (.isi (.v 0 false) [.tuple]) (.cons (.ret (.bi .tuple (.cons (.lc (.call 25 (.lent 2 (.val (.bin .sub (.v 1 false) (.k (.int 1))) .nil)) []) (.nm 2) (.seq (.v 0 false)) .none [2]) .nil))) .nil) .nil) (.cons (.ret (.v 0 true)) .nil))))⟩
/-- 26 _law_is_number -/
def d26 : DefR := ⟨"_law_is_number", top 73, [("part" : PySem.Str)], [("part" : PySem.Str)], [], [], (.cons (.ret (.band (.isi (.v 0 false) [.int]) (.bnot (.isi (.v 0 false) [.bool])))) .nil)⟩
/-- 27 _law_is_cell -/
def d27 : DefR := ⟨"_law_is_cell", top 74, [("directions" : PySem.Str), ("part" : PySem.Str), ("x" : PySem.Str)], [("directions" : PySem.Str), ("part" : PySem.Str)], [], [], (.cons (.iff (.bor (.bnot (.isi (.v 1 false) [.tuple])) (.cmp .ne (.bi .len (.cons (.v 1 false) .nil)) (.v 0 false))) (.cons (.ret (.k (.bl false))) .nil) .nil) (.cons (.ret (.bi .all (.cons (.lc (.call 26 (.lent 2 .nil) []) (.nm 2) (.seq (.v 1 false)) .none [2]) .nil))) .nil))⟩
/-- 28 _law_with -/
def d28 : DefR := ⟨"_law_with", top 75, [("things" : PySem.Str), ("place" : PySem.Str), ("part" : PySem.Str), ("row" : PySem.Str)], [("things" : PySem.Str), ("place" : PySem.Str), ("part" : PySem.Str)], [], [], (.cons (.set 3 (.bi .list (.cons (.v 0 false) .nil))) (.cons (.seti 3 (.v 1 false) (.v 2 true)) (.cons (.ret (.ife (.isi (.v 0 false) [.tuple]) (.bi .tuple (.cons (.v 3 false) .nil)) (.v 3 false))) .nil)))⟩
/-- 29 _law_entry -/
def d29 : DefR := ⟨"_law_entry", top 76, [("screen" : PySem.Str), ("i" : PySem.Str), ("j" : PySem.Str), ("part" : PySem.Str)], [("screen" : PySem.Str), ("i" : PySem.Str), ("j" : PySem.Str), ("part" : PySem.Str)], [], [], (.cons (.ret (.call 28 (.lent 0 (.lent 1 (.val (.call 28 (.val (.ix (.v 0 false) (.v 1 false)) (.lent 2 (.lent 3 .nil))) []) .nil))) [])) .nil)⟩
/-- 30 _law_index_of -/
def d30 : DefR := ⟨"_law_index_of", top 77, [("screen" : PySem.Str), ("whole" : PySem.Str), ("i" : PySem.Str)], [("screen" : PySem.Str)], [], [], (.cons (.set 1 (.k (.int 1))) (.cons (.for (.nm 2) (.rng (.cons (.bi .len (.cons (.v 0 false) .nil)) .nil)) (.cons (.set 1 (.bin .mul (.v 1 false) (.ix (.ix (.v 0 false) (.v 2 false)) (.v 2 false)))) .nil)) (.cons (.ret (.v 1 true)) .nil)))⟩
/-- 31 _law_corner -/
def d31 : DefR := ⟨"_law_corner", top 78, [("screen" : PySem.Str), ("x" : PySem.Str), ("rest" : PySem.Str), ("j" : PySem.Str), ("row" : PySem.Str), ("many" : PySem.Str), ("k" : PySem.Str)], [("screen" : PySem.Str), ("x" : PySem.Str)], [], [], (.cons (.set 2 (.bi .list (.cons (.v 1 false) .nil))) (.cons (.for (.nm 3) (.rng (.cons (.bi .len (.cons (.v 0 false) .nil)) .nil)) (.cons (.set 4 (.ix (.v 0 false) (.v 3 false))) (.cons (.set 5 (.bin .fdiv (.ix (.v 2 false) (.v 3 false)) (.ix (.v 4 false) (.v 3 false)))) (.cons (.iff (.cmp .ne (.v 5 false) (.k (.int 0))) (.cons (.for (.nm 6) (.rng (.cons (.v 3 false) (.cons (.bi .len (.cons (.v 0 false) .nil)) .nil))) (.cons (.seti 2 (.v 6 false) (.bin .sub (.ix (.v 2 false) (.v 6 false)) (.bin .mul (.v 5 false) (.ix (.v 4 false) (.v 6 false))))) .nil)) .nil) .nil) .nil)))) (.cons (.ret (.bi .tuple (.cons (.v 2 false) .nil))) .nil)))⟩
/-- 32 _law_corner_at -/
def d32 : DefR := ⟨"_law_corner_at", top 79, [("screen" : PySem.Str), ("number" : PySem.Str), ("corner" : PySem.Str), ("k" : PySem.Str), ("j" : PySem.Str)], [("screen" : PySem.Str), ("number" : PySem.Str)], [], [], (.cons (.set 2 (.lc (.k (.int 0)) (.nm 3) (.seq (.v 0 false)) .none [3])) (.cons (.for (.nm 3) (.rng (.cons (.bi .len (.cons (.v 0 false) .nil)) .nil)) (.cons (.set 4 (.bin .sub (.bin .sub (.bi .len (.cons (.v 0 false) .nil)) (.k (.int 1))) (.v 3 false))) (.cons (.seti 2 (.v 4 false) (.bin .mod (.bi .int (.cons (.v 1 false) .nil)) (.ix (.ix (.v 0 false) (.v 4 false)) (.v 4 false)))) (.cons (.set 1 (.bin .fdiv (.v 1 false) (.ix (.ix (.v 0 false) (.v 4 false)) (.v 4 false)))) .nil)))) (.cons (.ret (.bi .tuple (.cons (.v 2 false) .nil))) .nil)))⟩
/-- 33 _law_filled -/
def d33 : DefR := ⟨"_law_filled", top 80, [("store" : PySem.Str), ("sizes" : PySem.Str), ("free" : PySem.Str), ("rows" : PySem.Str), ("i" : PySem.Str), ("row" : PySem.Str), ("j" : PySem.Str), ("size" : PySem.Str)], [("store" : PySem.Str), ("sizes" : PySem.Str), ("free" : PySem.Str)], [0], [], (.cons (.set 3 (.lst .nil)) (.cons (.for (.nm 4) (.rng (.cons (.bi .len (.cons (.v 1 false) .nil)) .nil)) (.cons (.set 5 (.lc (.k (.int 0)) (.nm 7) (.seq (.v 1 false)) .none [7])) (.cons (.seti 5 (.v 4 false) (.ix (.v 1 false) (.v 4 false))) (.cons (.for (.nm 6) (.rng (.cons (.bin .add (.v 4 false) (.k (.int 1))) (.cons (.bi .len (.cons (.v 1 false) .nil)) .nil))) (.cons (.iff (.v 2 false) (.cons (.seti 5 (.v 6 false) (.call 18 (.io 0 (.val (.ix (.v 1 false) (.v 6 false)) .nil)) [])) .nil) .nil) .nil)) (.cons (.app 3 (.bi .tuple (.cons (.v 5 false) .nil))) .nil))))) (.cons (.ret (.bi .tuple (.cons (.v 3 false) .nil))) .nil)))⟩
/-- 34 _law_great_screen -/
def d34 : DefR := ⟨"_law_great_screen", top 81, [("store" : PySem.Str), ("directions" : PySem.Str), ("most" : PySem.Str), ("sizes" : PySem.Str), ("room" : PySem.Str), ("at" : PySem.Str), ("k" : PySem.Str)], [("store" : PySem.Str), ("directions" : PySem.Str), ("most" : PySem.Str)], [0], [], (.cons (.set 3 (.lc (.k (.int 1)) (.nm 6) (.rng (.cons (.v 1 false) .nil)) .none [6])) (.cons (.set 4 (.v 2 true)) (.cons (.for (.nm 5) (.seq (.call 24 (.io 0 (.lent 1 .nil)) [])) (.cons (.iff (.bor (.call 21 (.io 0 (.val (.k (.int 2)) .nil)) []) (.cmp .eq (.v 5 false) (.k (.int 0)))) (.cons (.seti 3 (.v 5 false) (.call 23 (.io 0 (.val (.bi .max2 (.cons (.k (.int 1)) (.cons (.v 4 false) .nil))) .nil)) [])) (.cons (.set 4 (.bin .fdiv (.v 4 false) (.ix (.v 3 false) (.v 5 false)))) .nil)) .nil) .nil)) (.cons (.ret (.call 33 (.io 0 (.lent 3 (.val (.bnot (.call 21 (.io 0 (.val (.k (.int 4)) .nil)) [])) .nil))) [])) .nil))))⟩
/-- 35 _law_no_numbers -/
def d35 : DefR := ⟨"_law_no_numbers", top 82, [], [], [], [], (.cons (.ret (.lst (.cons (.k (.non)) (.cons (.k (.bl true)) (.cons (.k (.bl false)) (.cons (.k (.str "")) (.cons (.k (.str "1")) (.cons (.lst .nil) (.cons (.tup .nil) (.cons (.lst (.cons (.k (.int 1)) .nil)) (.cons (.tup (.cons (.k (.int 1)) .nil)) .nil))))))))))) .nil)⟩
/-- 36 _law_bad_numbers -/
def d36 : DefR := ⟨"_law_bad_numbers", top 83, [("low" : PySem.Str), ("high" : PySem.Str)], [("low" : PySem.Str), ("high" : PySem.Str)], [], [], (.cons (.ret (.bin .add (.call 35 .nil []) (.lst (.cons (.bin .sub (.v 0 false) (.k (.int 1))) (.cons (.bin .add (.v 1 false) (.k (.int 1))) .nil))))) .nil)⟩
/-- 37 _law_call -/
def d37 : DefR := ⟨"_law_call", top 84, [("what" : PySem.Str), ("args" : PySem.Str)], [("what" : PySem.Str), ("args" : PySem.Str)], [], [], (.cons (.iff (.cmp .eq (.v 0 false) (.k (.str "reduced"))) (.cons (.ret (.call 12 (.val (.ix (.v 1 false) (.k (.int 0))) (.val (.ix (.v 1 false) (.k (.int 1))) .nil)) [])) .nil) .nil) (.cons (.iff (.cmp .eq (.v 0 false) (.k (.str "written"))) (.cons (.ret (.call 13 (.val (.ix (.v 1 false) (.k (.int 0))) (.val (.ix (.v 1 false) (.k (.int 1))) .nil)) [])) .nil) .nil) (.cons (.iff (.cmp .eq (.v 0 false) (.k (.str "is_screen"))) (.cons (.ret (.call 8 (.val (.ix (.v 1 false) (.k (.int 0))) .nil) [])) .nil) .nil) (.cons (.iff (.cmp .eq (.v 0 false) (.k (.str "check_screen"))) (.cons (.ret (.call 10 (.val (.ix (.v 1 false) (.k (.int 0))) .nil) [])) .nil) .nil) (.cons (.iff (.cmp .eq (.v 0 false) (.k (.str "is_cell"))) (.cons (.ret (.call 4 (.val (.ix (.v 1 false) (.k (.int 0))) (.val (.ix (.v 1 false) (.k (.int 1))) .nil)) [])) .nil) .nil) (.cons (.ret (.call 9 (.val (.ix (.v 1 false) (.k (.int 0))) (.val (.ix (.v 1 false) (.k (.int 1))) .nil)) [])) .nil))))))⟩
/-- 38 _law_told -/
def d38 : DefR := ⟨"_law_told", top 85, [("what" : PySem.Str), ("args" : PySem.Str), ("e" : PySem.Str), ("told" : PySem.Str), ("names" : PySem.Str), ("other" : PySem.Str)], [("what" : PySem.Str), ("args" : PySem.Str)], [], [], .nil⟩
/-- 39 _law_equal -/
def d39 : DefR := ⟨"_law_equal", top 86, [("actual" : PySem.Str), ("due" : PySem.Str)], [("actual" : PySem.Str), ("due" : PySem.Str)], [], [], (.cons (.ret (.band (.cmp .eq (.v 0 false) (.v 1 false)) (.cmp .eq (.bi .repr (.cons (.v 0 false) .nil)) (.bi .repr (.cons (.v 1 false) .nil))))) .nil)⟩
/-- 40 _law_spoil -/
def d40 : DefR := ⟨"_law_spoil", top 87, [("thing" : PySem.Str), ("found" : PySem.Str), ("left" : PySem.Str), ("turn" : PySem.Str), ("part" : PySem.Str), ("many" : PySem.Str)], [("thing" : PySem.Str)], [], [], .nil⟩
/-- 41 _law_asked -/
def d41 : DefR := ⟨"_law_asked", top 88, [("what" : PySem.Str), ("args" : PySem.Str), ("found" : PySem.Str), ("turn" : PySem.Str), ("handed" : PySem.Str), ("told" : PySem.Str)], [("what" : PySem.Str), ("args" : PySem.Str)], [], [], (.cons (.set 2 (.lst .nil)) (.cons (.for (.nm 3) (.rng (.cons (.k (.int 2)) .nil)) (.cons (.set 4 (.call 25 (.lent 1 .nil) [.int 8])) (.cons (.set 5 (.call 38 (.lent 0 (.lent 4 .nil)) [])) (.cons (.iff (.bor (.cmp .ne (.ix (.v 5 false) (.k (.int 0))) (.k (.str ""))) (.bnot (.call 39 (.lent 4 (.lent 1 .nil)) []))) (.cons (.ret (.lst .nil)) .nil) .nil) (.cons (.app 2 (.calli 25 5 1 [.int 8])) (.cons (.iff (.bnot (.call 40 (.own (.lst (.cons (.ix (.v 5 true) (.k (.int 1))) (.cons (.v 4 true) .nil))) .nil) [])) (.cons (.ret (.lst .nil)) .nil) .nil) .nil)))))) (.cons (.ret (.ife (.call 39 (.val (.ix (.v 2 false) (.k (.int 1))) (.val (.ix (.v 2 false) (.k (.int 0))) .nil)) []) (.sl (.v 2 false) .none (.some (.k (.int 1)))) (.lst .nil))) .nil)))⟩
/-- 42 _law_answers -/
def d42 : DefR := ⟨"_law_answers", top 89, [("what" : PySem.Str), ("args" : PySem.Str), ("due" : PySem.Str), ("found" : PySem.Str)], [("what" : PySem.Str), ("args" : PySem.Str), ("due" : PySem.Str)], [], [], (.cons (.set 3 (.call 41 (.lent 0 (.lent 1 .nil)) [])) (.cons (.ret (.band (.cmp .eq (.bi .len (.cons (.v 3 false) .nil)) (.k (.int 1))) (.call 39 (.val (.ix (.v 3 false) (.k (.int 0))) (.lent 2 .nil)) []))) .nil))⟩
/-- 43 _law_refuses -/
def d43 : DefR := ⟨"_law_refuses", top 90, [("what" : PySem.Str), ("args" : PySem.Str), ("due" : PySem.Str), ("handed" : PySem.Str)], [("what" : PySem.Str), ("args" : PySem.Str), ("due" : PySem.Str)], [], [], (.cons (.set 3 (.call 25 (.lent 1 .nil) [.int 8])) (.cons (.ret (.band (.cmp .eq (.ix (.call 38 (.lent 0 (.lent 3 .nil)) []) (.k (.int 0))) (.v 2 false)) (.call 39 (.lent 3 (.lent 1 .nil)) []))) .nil))⟩
/-- 44 _law_sum_of -/
def d44 : DefR := ⟨"_law_sum_of", top 91, [("screen" : PySem.Str), ("weights" : PySem.Str), ("many" : PySem.Str), ("x" : PySem.Str), ("i" : PySem.Str), ("k" : PySem.Str)], [("screen" : PySem.Str), ("weights" : PySem.Str)], [], [], (.cons (.set 2 (.bi .len (.cons (.v 0 false) .nil))) (.cons (.set 3 (.lc (.k (.int 0)) (.nm 5) (.rng (.cons (.v 2 false) .nil)) .none [5])) (.cons (.for (.nm 4) (.rng (.cons (.v 2 false) .nil)) (.cons (.set 3 (.lc (.bin .add (.ix (.v 3 false) (.v 5 false)) (.bin .mul (.ix (.v 1 false) (.v 4 false)) (.ix (.ix (.v 0 false) (.v 4 false)) (.v 5 false)))) (.nm 5) (.rng (.cons (.v 2 false) .nil)) .none [5])) .nil)) (.cons (.ret (.bi .tuple (.cons (.v 3 false) .nil))) .nil))))⟩
/-- 45 _law_weights -/
def d45 : DefR := ⟨"_law_weights", top 92, [("store" : PySem.Str), ("screen" : PySem.Str), ("weights" : PySem.Str), ("at" : PySem.Str), ("most" : PySem.Str), ("row" : PySem.Str), ("k" : PySem.Str), ("top" : PySem.Str)], [("store" : PySem.Str), ("screen" : PySem.Str)], [0], [], (.cons (.set 2 (.lc (.call 19 (.io 0 (.val (.neg (.k (.int 3))) (.val (.k (.int 3)) .nil))) []) (.nm 5) (.seq (.v 1 false)) .none [5])) (.cons (.iff (.bor (.call 21 (.io 0 (.val (.k (.int 3)) .nil)) []) (.cmp .gt (.bi .max1 (.cons (.lc (.bi .abs (.cons (.v 7 false) .nil)) (.nm 7) (.seq (.call 44 (.lent 1 (.lent 2 .nil)) [])) .none [7]) .nil)) (.bin .pow (.k (.int 10)) (.k (.int 60))))) (.cons (.set 3 (.call 18 (.io 0 (.val (.bi .len (.cons (.v 1 false) .nil)) .nil)) [])) (.cons (.set 4 (.bin .fdiv (.bin .pow (.k (.int 10)) (.k (.int 60))) (.bi .max1 (.cons (.lc (.bi .abs (.cons (.v 7 false) .nil)) (.nm 7) (.seq (.ix (.v 1 false) (.v 3 false))) .none [7]) .nil)))) (.cons (.set 2 (.lc (.ife (.cmp .eq (.v 6 false) (.v 3 false)) (.call 19 (.io 0 (.val (.bin .sub (.k (.int 0)) (.v 4 false)) (.lent 4 .nil))) []) (.k (.int 0))) (.nm 6) (.rng (.cons (.bi .len (.cons (.v 1 false) .nil)) .nil)) .none [6])) .nil))) .nil) (.cons (.ret (.v 2 true)) .nil)))⟩
/-- 46 _law_free_cell -/
def d46 : DefR := ⟨"_law_free_cell", top 93, [("store" : PySem.Str), ("screen" : PySem.Str), ("x" : PySem.Str), ("due" : PySem.Str), ("taken" : PySem.Str), ("found" : PySem.Str), ("row" : PySem.Str), ("k" : PySem.Str), ("top" : PySem.Str)], [("store" : PySem.Str), ("screen" : PySem.Str)], [0], [], (.cons (.set 2 (.bi .tuple (.cons (.lc (.call 22 (.io 0 .nil) []) (.nm 6) (.seq (.v 1 false)) .none [6]) .nil))) (.cons (.set 3 (.call 31 (.lent 1 (.lent 2 .nil)) [])) (.cons (.iff (.bor (.bnot (.call 42 (.val (.k (.str "reduced")) (.val (.lst (.cons (.v 1 false) (.cons (.v 2 false) .nil))) (.lent 3 .nil))) [])) (.bnot (.call 42 (.val (.k (.str "reduced")) (.val (.lst (.cons (.v 1 false) (.cons (.v 3 false) .nil))) (.lent 3 .nil))) []))) (.cons (.ret (.k (.bl false))) .nil) .nil) (.cons (.iff (.band (.bi .any (.cons (.bi .list (.cons (.v 3 false) .nil)) .nil)) (.bnot (.call 42 (.val (.k (.str "written")) (.val (.lst (.cons (.v 1 false) (.cons (.v 2 false) .nil))) (.val (.k (.non)) .nil))) []))) (.cons (.ret (.k (.bl false))) .nil) .nil) (.cons (.set 4 (.bi .tuple (.cons (.lc (.bin .sub (.ix (.v 2 false) (.v 7 false)) (.ix (.v 3 false) (.v 7 false))) (.nm 7) (.rng (.cons (.bi .len (.cons (.v 2 false) .nil)) .nil)) .none [7]) .nil))) (.cons (.iff (.cmp .gt (.bi .max1 (.cons (.lc (.bi .abs (.cons (.v 8 false) .nil)) (.nm 8) (.lent 4) .none [8]) .nil)) (.bin .pow (.k (.int 10)) (.k (.int 60)))) (.cons (.ret (.k (.bl true))) .nil) .nil) (.cons (.set 5 (.call 41 (.val (.k (.str "written")) (.val (.lst (.cons (.v 1 false) (.cons (.v 4 false) .nil))) .nil)) [])) (.cons (.iff (.bor (.cmp .ne (.bi .len (.cons (.v 5 false) .nil)) (.k (.int 1))) (.bor (.bnot (.isi (.ix (.v 5 false) (.k (.int 0))) [.list])) (.bnot (.call 27 (.val (.bi .len (.cons (.v 2 false) .nil)) (.val (.bi .tuple (.cons (.ix (.v 5 false) (.k (.int 0))) .nil)) .nil)) [])))) (.cons (.ret (.k (.bl false))) .nil) .nil) (.cons (.ret (.cmp .eq (.call 44 (.lent 1 (.val (.ix (.v 5 false) (.k (.int 0))) .nil)) []) (.v 4 false))) .nil)))))))))⟩
/-- 47 _law_odd_screens -/
def d47 : DefR := ⟨"_law_odd_screens", top 94, [("store" : PySem.Str), ("screen" : PySem.Str), ("many" : PySem.Str), ("at" : PySem.Str), ("size" : PySem.Str), ("bad" : PySem.Str), ("odd" : PySem.Str), ("two" : PySem.Str), ("one" : PySem.Str), ("k" : PySem.Str), ("row" : PySem.Str), ("j" : PySem.Str)], [("store" : PySem.Str), ("screen" : PySem.Str)], [0], [], (.cons (.set 2 (.bi .len (.cons (.v 1 false) .nil))) (.cons (.set 3 (.call 18 (.io 0 (.lent 2 .nil)) [])) (.cons (.set 4 (.ix (.ix (.v 1 false) (.v 3 false)) (.v 3 false))) (.cons (.set 5 (.lst (.cons (.k (.non)) (.cons (.k (.bl true)) (.cons (.k (.int 1)) (.cons (.k (.str "rows 1")) (.cons (.lst .nil) (.cons (.tup .nil) (.cons (.bi .list (.cons (.v 1 false) .nil)) (.cons (.sl (.v 1 false) .none (.some (.bin .sub (.v 2 false) (.k (.int 1))))) (.cons (.bin .add (.v 1 false) (.tup (.cons (.ix (.v 1 false) (.v 3 false)) .nil))) (.cons (.lst (.cons (.v 1 false) .nil)) (.cons (.tup (.cons (.k (.int 1)) .nil)) .nil))))))))))))) (.cons (.app 5 (.bi .tuple (.cons (.lc (.bi .tuple (.cons (.lc (.bi .int (.cons (.cmp .eq (.v 11 false) (.v 9 false)) .nil)) (.nm 11) (.rng (.cons (.k (.int 19)) .nil)) .none [11]) .nil)) (.nm 9) (.rng (.cons (.k (.int 19)) .nil)) .none [9]) .nil))) (.cons (.app 5 (.bi .tuple (.cons (.lc (.bin .add (.v 10 false) (.tup (.cons (.k (.int 0)) .nil))) (.nm 10) (.seq (.v 1 false)) .none [10]) .nil))) (.cons (.app 5 (.call 28 (.lent 1 (.lent 3 (.val (.bi .list (.cons (.ix (.v 1 false) (.v 3 false)) .nil)) .nil))) [])) (.cons (.for (.nm 6) (.seq (.lst (.cons (.k (.int 0)) (.cons (.bin .sub (.k (.int 0)) (.v 4 false)) (.cons (.bin .add (.bin .pow (.k (.int 10)) (.k (.int 60))) (.k (.int 1))) (.cons (.cmp .eq (.v 4 false) (.k (.int 1))) (.cons (.k (.non)) (.cons (.k (.str "1")) (.cons (.tup (.cons (.v 4 false) .nil)) .nil))))))))) (.cons (.app 5 (.call 29 (.lent 1 (.lent 3 (.lent 3 (.lent 6 .nil)))) [])) .nil)) (.cons (.iff (.cmp .gt (.v 2 false) (.k (.int 1))) (.cons (.set 7 (.bin .add (.k (.int 1)) (.call 18 (.io 0 (.val (.bin .sub (.v 2 false) (.k (.int 1))) .nil)) []))) (.cons (.set 8 (.call 18 (.io 0 (.lent 7 .nil)) [])) (.cons (.for (.nm 6) (.seq (.lst (.cons (.ix (.ix (.v 1 false) (.v 7 false)) (.v 7 false)) (.cons (.neg (.k (.int 1))) (.cons (.k (.non)) (.cons (.k (.bl true)) .nil)))))) (.cons (.app 5 (.call 29 (.lent 1 (.lent 8 (.lent 7 (.lent 6 .nil)))) [])) .nil)) (.cons (.app 5 (.call 29 (.lent 1 (.lent 7 (.lent 8 (.val (.k (.int 1)) .nil)))) [])) (.cons (.app 5 (.call 29 (.lent 1 (.lent 7 (.lent 8 (.val (.k (.bl false)) .nil)))) [])) (.cons (.app 5 (.call 29 (.val (.call 29 (.lent 1 (.lent 8 (.lent 8 (.val (.bin .pow (.k (.int 10)) (.k (.int 60))) .nil)))) []) (.lent 7 (.lent 7 (.val (.k (.int 2)) .nil)))) [])) .nil)))))) .nil) (.cons (.ret (.v 5 true)) .nil))))))))))⟩
/-- 48 _law_odd_cells -/
def d48 : DefR := ⟨"_law_odd_cells", top 95, [("store" : PySem.Str), ("x" : PySem.Str), ("at" : PySem.Str), ("bad" : PySem.Str), ("odd" : PySem.Str)], [("store" : PySem.Str), ("x" : PySem.Str)], [0], [], (.cons (.set 2 (.call 18 (.io 0 (.val (.bi .len (.cons (.v 1 false) .nil)) .nil)) [])) (.cons (.set 3 (.lst (.cons (.bin .add (.v 1 false) (.tup (.cons (.k (.int 0)) .nil))) (.cons (.sl (.v 1 false) (.some (.k (.int 1))) .none) (.cons (.bi .list (.cons (.v 1 false) .nil)) (.cons (.k (.non)) (.cons (.k (.bl true)) (.cons (.k (.int 0)) (.cons (.k (.str "0")) (.cons (.lst (.cons (.v 1 false) .nil)) (.cons (.tup (.cons (.v 1 false) .nil)) .nil))))))))))) (.cons (.for (.nm 4) (.seq (.lst (.cons (.bin .add (.bin .pow (.k (.int 10)) (.k (.int 60))) (.k (.int 1))) (.cons (.bin .sub (.neg (.bin .pow (.k (.int 10)) (.k (.int 60)))) (.k (.int 1))) (.cons (.k (.non)) (.cons (.cmp .eq (.ix (.v 1 false) (.v 2 false)) (.k (.int 1))) (.cons (.k (.str "0")) (.cons (.tup (.cons (.k (.int 0)) .nil)) .nil)))))))) (.cons (.app 3 (.call 28 (.lent 1 (.lent 2 (.lent 4 .nil))) [])) .nil)) (.cons (.ret (.v 3 true)) .nil))))⟩
/-- 49 _law_turned_away -/
def d49 : DefR := ⟨"_law_turned_away", top 96, [("store" : PySem.Str), ("screen" : PySem.Str), ("x" : PySem.Str), ("cells" : PySem.Str), ("screens" : PySem.Str), ("odd" : PySem.Str), ("cell" : PySem.Str), ("what" : PySem.Str), ("value" : PySem.Str)], [("store" : PySem.Str), ("screen" : PySem.Str), ("x" : PySem.Str)], [0], [], (.cons (.set 3 (.call 48 (.io 0 (.lent 2 .nil)) [])) (.cons (.set 4 (.call 47 (.io 0 (.lent 1 .nil)) [])) (.cons (.for (.nm 5) (.seq (.v 4 false)) (.cons (.iff (.bor (.bnot (.call 42 (.val (.k (.str "is_screen")) (.val (.lst (.cons (.v 5 false) .nil)) (.val (.k (.bl false)) .nil))) [])) (.bnot (.call 43 (.val (.k (.str "check_screen")) (.val (.lst (.cons (.v 5 false) .nil)) (.val (.k (.str "BadScreen")) .nil))) []))) (.cons (.ret (.k (.bl false))) .nil) .nil) (.cons (.set 6 (.ife (.call 21 (.io 0 (.val (.k (.int 2)) .nil)) []) (.v 2 false) (.call 20 (.io 0 (.lent 3 .nil)) []))) (.cons (.for (.nm 7) (.seq (.lst (.cons (.k (.str "reduced")) (.cons (.k (.str "written")) .nil)))) (.cons (.iff (.bnot (.call 43 (.lent 7 (.val (.lst (.cons (.v 5 false) (.cons (.v 6 false) .nil))) (.val (.k (.str "BadScreen")) .nil))) [])) (.cons (.ret (.k (.bl false))) .nil) .nil) .nil)) .nil)))) (.cons (.for (.nm 5) (.seq (.v 3 false)) (.cons (.iff (.bnot (.call 42 (.val (.k (.str "is_cell")) (.val (.lst (.cons (.bi .len (.cons (.v 2 false) .nil)) (.cons (.v 5 false) .nil))) (.val (.k (.bl false)) .nil))) [])) (.cons (.ret (.k (.bl false))) .nil) .nil) (.cons (.for (.nm 7) (.seq (.lst (.cons (.k (.str "reduced")) (.cons (.k (.str "written")) (.cons (.k (.str "check_cell")) .nil))))) (.cons (.iff (.bnot (.call 43 (.lent 7 (.val (.lst (.cons (.ife (.cmp .eq (.v 7 false) (.k (.str "check_cell"))) (.bi .len (.cons (.v 2 false) .nil)) (.v 1 false)) (.cons (.v 5 false) .nil))) (.val (.k (.str "BadCell")) .nil))) [])) (.cons (.ret (.k (.bl false))) .nil) .nil) .nil)) .nil))) (.cons (.for (.nm 5) (.seq (.call 36 (.val (.k (.int 1)) (.val (.k (.int 18)) .nil)) [])) (.cons (.set 8 (.ife (.call 21 (.io 0 (.val (.k (.int 2)) .nil)) []) (.v 2 false) (.call 20 (.io 0 (.lent 3 .nil)) []))) (.cons (.iff (.bnot (.call 43 (.val (.k (.str "is_cell")) (.val (.lst (.cons (.v 5 false) (.cons (.v 8 false) .nil))) (.val (.k (.str "BadNumber")) .nil))) [])) (.cons (.ret (.k (.bl false))) .nil) .nil) (.cons (.iff (.bnot (.call 43 (.val (.k (.str "check_cell")) (.val (.lst (.cons (.v 5 true) (.cons (.v 8 true) .nil))) (.val (.k (.str "BadNumber")) .nil))) [])) (.cons (.ret (.k (.bl false))) .nil) .nil) .nil)))) (.cons (.ret (.k (.bl true))) .nil))))))⟩
/-- 50 law -/
def d50 : DefR := ⟨"law", top 97, [("script" : PySem.Str), ("store" : PySem.Str), ("great" : PySem.Str), ("directions" : PySem.Str), ("screen" : PySem.Str), ("weights" : PySem.Str), ("inner" : PySem.Str), ("corner" : PySem.Str), ("x" : PySem.Str), ("k" : PySem.Str), ("top" : PySem.Str)], [("script" : PySem.Str)], [], [], (.cons (.set 1 (.call 14 (.lent 0 .nil) [])) (.cons (.set 2 (.call 21 (.io 1 (.val (.k (.int 2)) .nil)) [])) (.cons (.set 3 (.bin .add (.k (.int 1)) (.call 18 (.io 1 (.val (.ife (.band (.v 2 false) (.call 21 (.io 1 (.val (.k (.int 3)) .nil)) [])) (.k (.int 18)) (.k (.int 4))) .nil)) []))) (.cons (.set 4 (.call 34 (.io 1 (.lent 3 (.val (.ife (.v 2 false) (.bin .pow (.k (.int 10)) (.k (.int 60))) (.k (.int 60))) .nil))) [])) (.cons (.set 5 (.call 45 (.io 1 (.lent 4 .nil)) [])) (.cons (.set 6 (.call 44 (.lent 4 (.lent 5 .nil)) [])) (.cons (.set 7 (.call 32 (.lent 4 (.val (.call 18 (.io 1 (.val (.call 30 (.lent 4 .nil) []) .nil)) []) .nil)) [])) (.cons (.set 8 (.bi .tuple (.cons (.lc (.bin .add (.ix (.v 6 false) (.v 9 false)) (.ix (.v 7 false) (.v 9 false))) (.nm 9) (.rng (.cons (.v 3 false) .nil)) .none [9]) .nil))) (.cons (.iff (.cmp .gt (.bi .max1 (.cons (.lc (.bi .abs (.cons (.v 10 false) .nil)) (.nm 10) (.lent 8) .none [10]) .nil)) (.bin .pow (.k (.int 10)) (.k (.int 60)))) (.cons (.set 8 (.v 6 false)) (.cons (.set 7 (.bi .tuple (.cons (.lc (.k (.int 0)) (.nm 9) (.rng (.cons (.v 3 false) .nil)) .none [9]) .nil))) .nil)) .nil) (.cons (.iff (.bor (.bnot (.call 42 (.val (.k (.str "reduced")) (.val (.lst (.cons (.v 4 false) (.cons (.v 8 false) .nil))) (.lent 7 .nil))) [])) (.bnot (.call 42 (.val (.k (.str "written")) (.val (.lst (.cons (.v 4 false) (.cons (.v 6 true) .nil))) (.lent 5 .nil))) []))) (.cons (.ret (.k (.bl false))) .nil) .nil) (.cons (.iff (.bnot (.call 42 (.val (.k (.str "written")) (.val (.lst (.cons (.v 4 false) (.cons (.v 8 false) .nil))) (.val (.ife (.bi .any (.cons (.bi .list (.cons (.v 7 false) .nil)) .nil)) (.k (.non)) (.v 5 false)) .nil))) [])) (.cons (.ret (.k (.bl false))) .nil) .nil) (.cons (.iff (.bor (.bnot (.call 42 (.val (.k (.str "is_screen")) (.val (.lst (.cons (.v 4 false) .nil)) (.val (.k (.bl true)) .nil))) [])) (.bnot (.call 42 (.val (.k (.str "check_screen")) (.val (.lst (.cons (.v 4 false) .nil)) (.val (.k (.non)) .nil))) []))) (.cons (.ret (.k (.bl false))) .nil) .nil) (.cons (.iff (.bor (.bnot (.call 42 (.val (.k (.str "is_cell")) (.val (.lst (.cons (.v 3 false) (.cons (.v 8 false) .nil))) (.val (.k (.bl true)) .nil))) [])) (.bnot (.call 42 (.val (.k (.str "check_cell")) (.val (.lst (.cons (.v 3 true) (.cons (.v 8 false) .nil))) (.val (.k (.non)) .nil))) []))) (.cons (.ret (.k (.bl false))) .nil) .nil) (.cons (.ret (.band (.call 46 (.io 1 (.lent 4 .nil)) []) (.call 49 (.io 1 (.lent 4 (.lent 8 .nil))) []))) .nil))))))))))))))⟩
def defs : List DefR := [d0, d1, d2, d3, d4, d5, d6, d7, d8, d9, d10, d11, d12, d13, d14, d15, d16, d17, d18, d19, d20, d21, d22, d23, d24, d25, d26, d27, d28, d29, d30, d31, d32, d33, d34, d35, d36, d37, d38, d39, d40, d41, d42, d43, d44, d45, d46, d47, d48, d49, d50]
def gk : Gk := ⟨[(("is_whole" : PySem.Str), 0), (("is_within" : PySem.Str), 1), (("check_directions" : PySem.Str), 2), (("is_tuple_within" : PySem.Str), 3), (("is_cell" : PySem.Str), 4), (("is_square" : PySem.Str), 5), (("is_basis_row" : PySem.Str), 6), (("index_bounded" : PySem.Str), 7), (("is_screen" : PySem.Str), 8), (("check_cell" : PySem.Str), 9), (("check_screen" : PySem.Str), 10), (("lessened" : PySem.Str), 11), (("reduced" : PySem.Str), 12), (("written" : PySem.Str), 13), (("_law_start" : PySem.Str), 14), (("_law_mixed" : PySem.Str), 15), (("_law_wide" : PySem.Str), 16), (("_law_move" : PySem.Str), 17), (("_law_take" : PySem.Str), 18), (("_law_from" : PySem.Str), 19), (("_law_pick" : PySem.Str), 20), (("_law_rare" : PySem.Str), 21), (("_law_number" : PySem.Str), 22), (("_law_count" : PySem.Str), 23), (("_law_order" : PySem.Str), 24), (("_law_copy" : PySem.Str), 25), (("_law_is_number" : PySem.Str), 26), (("_law_is_cell" : PySem.Str), 27), (("_law_with" : PySem.Str), 28), (("_law_entry" : PySem.Str), 29), (("_law_index_of" : PySem.Str), 30), (("_law_corner" : PySem.Str), 31), (("_law_corner_at" : PySem.Str), 32), (("_law_filled" : PySem.Str), 33), (("_law_great_screen" : PySem.Str), 34), (("_law_no_numbers" : PySem.Str), 35), (("_law_bad_numbers" : PySem.Str), 36), (("_law_call" : PySem.Str), 37), (("_law_told" : PySem.Str), 38), (("_law_equal" : PySem.Str), 39), (("_law_spoil" : PySem.Str), 40), (("_law_asked" : PySem.Str), 41), (("_law_answers" : PySem.Str), 42), (("_law_refuses" : PySem.Str), 43), (("_law_sum_of" : PySem.Str), 44), (("_law_weights" : PySem.Str), 45), (("_law_free_cell" : PySem.Str), 46), (("_law_odd_screens" : PySem.Str), 47), (("_law_odd_cells" : PySem.Str), 48), (("_law_turned_away" : PySem.Str), 49), (("law" : PySem.Str), 50)], infoOf defs, [("ValueError" : PySem.Str), ("abs" : PySem.Str), ("all" : PySem.Str), ("any" : PySem.Str), ("bool" : PySem.Str), ("int" : PySem.Str), ("isinstance" : PySem.Str), ("len" : PySem.Str), ("list" : PySem.Str), ("max" : PySem.Str), ("min" : PySem.Str), ("range" : PySem.Str), ("repr" : PySem.Str), ("sum" : PySem.Str), ("tuple" : PySem.Str), ("zip" : PySem.Str)], [("BadCell" : PySem.Str), ("BadNumber" : PySem.Str), ("BadScreen" : PySem.Str)], [(("MOST" : PySem.Str), (.int 1000000000000000000000000000000000000000000000000000000000000 : D))]⟩
def isPr (f : Nat) : Bool := f == 38 || f == 40
theorem ok_all : (defs.zipIdx.all fun p => isPr p.2 || okDef gk p.1) = true := by decide +kernel
end MP
set_option linter.all false
set_option maxRecDepth 100000
set_option maxHeartbeats 0
namespace MP
open PySem PySem.Spec PyProof.Rows L2
def cls_0 : List PySem.Str := [("ShiftError" : PySem.Str), ("BadNumber" : PySem.Str), ("BadCell" : PySem.Str), ("BadScreen" : PySem.Str), ("BadColours" : PySem.Str), ("BadGrowth" : PySem.Str), ("BadJob" : PySem.Str), ("BadLay" : PySem.Str), ("BadLine" : PySem.Str), ("BadPicture" : PySem.Str), ("BadPile" : PySem.Str), ("BadPrint" : PySem.Str), ("BadRow" : PySem.Str), ("BadRows" : PySem.Str), ("BadRun" : PySem.Str), ("BadSheet" : PySem.Str), ("BadStack" : PySem.Str), ("BadText" : PySem.Str), ("BadWave" : PySem.Str), ("BadWeave" : PySem.Str), ("BadWindow" : PySem.Str), ("BoxWindow" : PySem.Str), ("ByZero" : PySem.Str), ("Empty" : PySem.Str), ("Flat" : PySem.Str)]
def cls_1 : List PySem.Str := [("Full" : PySem.Str), ("NoBack" : PySem.Str), ("NoInk" : PySem.Str), ("NoPaper" : PySem.Str), ("NotAPrint" : PySem.Str), ("NotClosed" : PySem.Str), ("NotIn" : PySem.Str), ("NotInside" : PySem.Str), ("NotNested" : PySem.Str), ("NotWave" : PySem.Str), ("Quarrels" : PySem.Str), ("ShortStack" : PySem.Str), ("Taken" : PySem.Str), ("TooBig" : PySem.Str), ("TooLong" : PySem.Str), ("Unlike" : PySem.Str), ("Unruly" : PySem.Str)]
def cls : List PySem.Str := cls_0 ++ cls_1
def row_0 : List PySem.Str := [("BadColours" : PySem.Str), ("BadGrowth" : PySem.Str), ("BadJob" : PySem.Str), ("BadLay" : PySem.Str), ("BadLine" : PySem.Str), ("BadPicture" : PySem.Str), ("BadPile" : PySem.Str), ("BadPrint" : PySem.Str), ("BadRow" : PySem.Str), ("BadRows" : PySem.Str), ("BadRun" : PySem.Str), ("BadSheet" : PySem.Str), ("BadStack" : PySem.Str), ("BadText" : PySem.Str), ("BadWave" : PySem.Str), ("BadWeave" : PySem.Str), ("BadWindow" : PySem.Str), ("BoxWindow" : PySem.Str), ("ByZero" : PySem.Str), ("Empty" : PySem.Str), ("Flat" : PySem.Str), ("Full" : PySem.Str), ("NoBack" : PySem.Str), ("NoInk" : PySem.Str), ("NoPaper" : PySem.Str)]
def row_1 : List PySem.Str := [("NotAPrint" : PySem.Str), ("NotClosed" : PySem.Str), ("NotIn" : PySem.Str), ("NotInside" : PySem.Str), ("NotNested" : PySem.Str), ("NotWave" : PySem.Str), ("Quarrels" : PySem.Str), ("ShortStack" : PySem.Str), ("Taken" : PySem.Str), ("TooBig" : PySem.Str), ("TooLong" : PySem.Str), ("Unlike" : PySem.Str), ("Unruly" : PySem.Str)]
def row : List PySem.Str := row_0 ++ row_1
def one : List PySem.Str := [("BadNumber" : PySem.Str), ("BadCell" : PySem.Str), ("BadScreen" : PySem.Str)]
def errs : List ErrD := [⟨("BadCell" : PySem.Str), ("ShiftError" : PySem.Str), [(("BadNumber" : PySem.Str), false), (("BadCell" : PySem.Str), true), (("BadScreen" : PySem.Str), false)], row, true⟩, ⟨("BadNumber" : PySem.Str), ("ShiftError" : PySem.Str), [(("BadNumber" : PySem.Str), true), (("BadCell" : PySem.Str), false), (("BadScreen" : PySem.Str), false)], row, true⟩, ⟨("BadScreen" : PySem.Str), ("ShiftError" : PySem.Str), [(("BadNumber" : PySem.Str), false), (("BadCell" : PySem.Str), false), (("BadScreen" : PySem.Str), true)], row, true⟩]
def loose_0 : List PySem.Str := [("__name__" : PySem.Str), ("ShiftError" : PySem.Str), ("BadNumber" : PySem.Str), ("BadCell" : PySem.Str), ("BadRows" : PySem.Str), ("BadScreen" : PySem.Str), ("BadStack" : PySem.Str), ("BadWindow" : PySem.Str), ("BadWave" : PySem.Str), ("BadRow" : PySem.Str), ("BadLay" : PySem.Str), ("BadRun" : PySem.Str), ("BadSheet" : PySem.Str), ("BadPile" : PySem.Str), ("BadGrowth" : PySem.Str), ("BadPrint" : PySem.Str), ("BadJob" : PySem.Str), ("BadColours" : PySem.Str), ("BadPicture" : PySem.Str), ("BadWeave" : PySem.Str), ("BadLine" : PySem.Str), ("Flat" : PySem.Str), ("Unruly" : PySem.Str), ("TooBig" : PySem.Str), ("TooLong" : PySem.Str)]
def loose_1 : List PySem.Str := [("ShortStack" : PySem.Str), ("NotIn" : PySem.Str), ("NotInside" : PySem.Str), ("NotWave" : PySem.Str), ("NotNested" : PySem.Str), ("NotClosed" : PySem.Str), ("BoxWindow" : PySem.Str), ("NoPaper" : PySem.Str), ("NotAPrint" : PySem.Str), ("Quarrels" : PySem.Str), ("Unlike" : PySem.Str), ("ByZero" : PySem.Str), ("Full" : PySem.Str), ("NoBack" : PySem.Str), ("Empty" : PySem.Str), ("BadText" : PySem.Str), ("NoInk" : PySem.Str), ("Taken" : PySem.Str), ("MOST" : PySem.Str), ("is_whole" : PySem.Str), ("is_within" : PySem.Str), ("check_directions" : PySem.Str), ("is_tuple_within" : PySem.Str), ("is_cell" : PySem.Str), ("is_square" : PySem.Str)]
def loose_2 : List PySem.Str := [("is_basis_row" : PySem.Str), ("index_bounded" : PySem.Str), ("is_screen" : PySem.Str), ("check_cell" : PySem.Str), ("check_screen" : PySem.Str), ("lessened" : PySem.Str), ("reduced" : PySem.Str), ("written" : PySem.Str), ("_law_start" : PySem.Str), ("_law_mixed" : PySem.Str), ("_law_wide" : PySem.Str), ("_law_move" : PySem.Str), ("_law_take" : PySem.Str), ("_law_from" : PySem.Str), ("_law_pick" : PySem.Str), ("_law_rare" : PySem.Str), ("_law_number" : PySem.Str), ("_law_count" : PySem.Str), ("_law_order" : PySem.Str), ("_law_copy" : PySem.Str), ("_law_is_number" : PySem.Str), ("_law_is_cell" : PySem.Str), ("_law_with" : PySem.Str), ("_law_entry" : PySem.Str), ("_law_index_of" : PySem.Str)]
def loose_3 : List PySem.Str := [("_law_corner" : PySem.Str), ("_law_corner_at" : PySem.Str), ("_law_filled" : PySem.Str), ("_law_great_screen" : PySem.Str), ("_law_no_numbers" : PySem.Str), ("_law_bad_numbers" : PySem.Str), ("_law_call" : PySem.Str), ("_law_told" : PySem.Str), ("_law_equal" : PySem.Str), ("_law_spoil" : PySem.Str), ("_law_asked" : PySem.Str), ("_law_answers" : PySem.Str), ("_law_refuses" : PySem.Str), ("_law_sum_of" : PySem.Str), ("_law_weights" : PySem.Str), ("_law_free_cell" : PySem.Str), ("_law_odd_screens" : PySem.Str), ("_law_odd_cells" : PySem.Str), ("_law_turned_away" : PySem.Str)]
def loose : List PySem.Str := loose_0 ++ loose_1 ++ loose_2 ++ loose_3
theorem b0 (K : PySem.W.Frag) : BindsD K d0 := fun fa fdat F j hj => by
  have : j = 0 := Nat.le_zero.mp hj
  subst this
  exact ⟨[], .nil, F.bindsN fun _ _ _ _ _ _ us hl => match us, hl with | [_], _ => rfl⟩
theorem b1 (K : PySem.W.Frag) : BindsD K d1 := fun fa fdat F j hj => by
  have : j = 0 := Nat.le_zero.mp hj
  subst this
  exact ⟨[], .nil, F.bindsN fun _ _ _ _ _ _ us hl => match us, hl with | [_, _, _], _ => rfl⟩
theorem b2 (K : PySem.W.Frag) : BindsD K d2 := fun fa fdat F j hj => by
  have : j = 0 := Nat.le_zero.mp hj
  subst this
  exact ⟨[], .nil, F.bindsN fun _ _ _ _ _ _ us hl => match us, hl with | [_], _ => rfl⟩
theorem b3 (K : PySem.W.Frag) : BindsD K d3 := fun fa fdat F j hj => by
  have : j = 0 := Nat.le_zero.mp hj
  subst this
  exact ⟨[], .nil, F.bindsN fun _ _ _ _ _ _ us hl => match us, hl with | [_, _, _], _ => rfl⟩
theorem b4 (K : PySem.W.Frag) : BindsD K d4 := fun fa fdat F j hj => by
  have : j = 0 := Nat.le_zero.mp hj
  subst this
  exact ⟨[], .nil, F.bindsN fun _ _ _ _ _ _ us hl => match us, hl with | [_, _], _ => rfl⟩
theorem b5 (K : PySem.W.Frag) : BindsD K d5 := fun fa fdat F j hj => by
  have : j = 0 := Nat.le_zero.mp hj
  subst this
  exact ⟨[], .nil, F.bindsN fun _ _ _ _ _ _ us hl => match us, hl with | [_], _ => rfl⟩
theorem b6 (K : PySem.W.Frag) : BindsD K d6 := fun fa fdat F j hj => by
  have : j = 0 := Nat.le_zero.mp hj
  subst this
  exact ⟨[], .nil, F.bindsN fun _ _ _ _ _ _ us hl => match us, hl with | [_, _], _ => rfl⟩
theorem b7 (K : PySem.W.Frag) : BindsD K d7 := fun fa fdat F j hj => by
  have : j = 0 := Nat.le_zero.mp hj
  subst this
  exact ⟨[], .nil, F.bindsN fun _ _ _ _ _ _ us hl => match us, hl with | [_], _ => rfl⟩
theorem b8 (K : PySem.W.Frag) : BindsD K d8 := fun fa fdat F j hj => by
  have : j = 0 := Nat.le_zero.mp hj
  subst this
  exact ⟨[], .nil, F.bindsN fun _ _ _ _ _ _ us hl => match us, hl with | [_], _ => rfl⟩
theorem b9 (K : PySem.W.Frag) : BindsD K d9 := fun fa fdat F j hj => by
  have : j = 0 := Nat.le_zero.mp hj
  subst this
  exact ⟨[], .nil, F.bindsN fun _ _ _ _ _ _ us hl => match us, hl with | [_, _], _ => rfl⟩
theorem b10 (K : PySem.W.Frag) : BindsD K d10 := fun fa fdat F j hj => by
  have : j = 0 := Nat.le_zero.mp hj
  subst this
  exact ⟨[], .nil, F.bindsN fun _ _ _ _ _ _ us hl => match us, hl with | [_], _ => rfl⟩
theorem b11 (K : PySem.W.Frag) : BindsD K d11 := fun fa fdat F j hj => by
  have : j = 0 := Nat.le_zero.mp hj
  subst this
  exact ⟨[], .nil, F.bindsN fun _ _ _ _ _ _ us hl => match us, hl with | [_, _, _], _ => rfl⟩
theorem b12 (K : PySem.W.Frag) : BindsD K d12 := fun fa fdat F j hj => by
  have : j = 0 := Nat.le_zero.mp hj
  subst this
  exact ⟨[], .nil, F.bindsN fun _ _ _ _ _ _ us hl => match us, hl with | [_, _], _ => rfl⟩
theorem b13 (K : PySem.W.Frag) : BindsD K d13 := fun fa fdat F j hj => by
  have : j = 0 := Nat.le_zero.mp hj
  subst this
  exact ⟨[], .nil, F.bindsN fun _ _ _ _ _ _ us hl => match us, hl with | [_, _], _ => rfl⟩
theorem b14 (K : PySem.W.Frag) : BindsD K d14 := fun fa fdat F j hj => by
  have : j = 0 := Nat.le_zero.mp hj
  subst this
  exact ⟨[], .nil, F.bindsN fun _ _ _ _ _ _ us hl => match us, hl with | [_], _ => rfl⟩
theorem b15 (K : PySem.W.Frag) : BindsD K d15 := fun fa fdat F j hj => by
  have : j = 0 := Nat.le_zero.mp hj
  subst this
  exact ⟨[], .nil, F.bindsN fun _ _ _ _ _ _ us hl => match us, hl with | [_, _], _ => rfl⟩
theorem b16 (K : PySem.W.Frag) : BindsD K d16 := fun fa fdat F j hj => by
  have : j = 0 := Nat.le_zero.mp hj
  subst this
  exact ⟨[], .nil, F.bindsN fun _ _ _ _ _ _ us hl => match us, hl with | [_, _, _], _ => rfl⟩
theorem b17 (K : PySem.W.Frag) : BindsD K d17 := fun fa fdat F j hj => by
  have : j = 0 := Nat.le_zero.mp hj
  subst this
  exact ⟨[], .nil, F.bindsN fun _ _ _ _ _ _ us hl => match us, hl with | [_], _ => rfl⟩
theorem b18 (K : PySem.W.Frag) : BindsD K d18 := fun fa fdat F j hj => by
  have : j = 0 := Nat.le_zero.mp hj
  subst this
  exact ⟨[], .nil, F.bindsN fun _ _ _ _ _ _ us hl => match us, hl with | [_, _], _ => rfl⟩
theorem b19 (K : PySem.W.Frag) : BindsD K d19 := fun fa fdat F j hj => by
  have : j = 0 := Nat.le_zero.mp hj
  subst this
  exact ⟨[], .nil, F.bindsN fun _ _ _ _ _ _ us hl => match us, hl with | [_, _, _], _ => rfl⟩
theorem b20 (K : PySem.W.Frag) : BindsD K d20 := fun fa fdat F j hj => by
  have : j = 0 := Nat.le_zero.mp hj
  subst this
  exact ⟨[], .nil, F.bindsN fun _ _ _ _ _ _ us hl => match us, hl with | [_, _], _ => rfl⟩
theorem b21 (K : PySem.W.Frag) : BindsD K d21 := fun fa fdat F j hj => by
  have : j = 0 := Nat.le_zero.mp hj
  subst this
  exact ⟨[], .nil, F.bindsN fun _ _ _ _ _ _ us hl => match us, hl with | [_, _], _ => rfl⟩
theorem b22 (K : PySem.W.Frag) : BindsD K d22 := fun fa fdat F j hj => by
  have : j = 0 := Nat.le_zero.mp hj
  subst this
  exact ⟨[], .nil, F.bindsN fun _ _ _ _ _ _ us hl => match us, hl with | [_], _ => rfl⟩
theorem b23 (K : PySem.W.Frag) : BindsD K d23 := fun fa fdat F j hj => by
  have : j = 0 := Nat.le_zero.mp hj
  subst this
  exact ⟨[], .nil, F.bindsN fun _ _ _ _ _ _ us hl => match us, hl with | [_, _], _ => rfl⟩
theorem b24 (K : PySem.W.Frag) : BindsD K d24 := fun fa fdat F j hj => by
  have : j = 0 := Nat.le_zero.mp hj
  subst this
  exact ⟨[], .nil, F.bindsN fun _ _ _ _ _ _ us hl => match us, hl with | [_, _], _ => rfl⟩
theorem b25 (K : PySem.W.Frag) : BindsD K d25 := fun fa fdat F j hj => by
  match j, hj with
  | 0, _ => exact F.binds1 1 0 (fun z => nomatch z) rfl fun T kV doc pm an cdv ct us its h1 h2 => match us, its, h1, h2 with | [_], [_], _, _ => ⟨_, rfl, rfl⟩
  | 1, _ => exact F.binds1 2 1 (fun z => nomatch z) rfl fun T kV doc pm an cdv ct us its h1 h2 => match us, its, h1, h2 with | [_, _], [_], _, _ => ⟨_, rfl, rfl⟩
  | k + 2, h => exact absurd h (by show ¬ (k + 2 ≤ 1); omega)
theorem b26 (K : PySem.W.Frag) : BindsD K d26 := fun fa fdat F j hj => by
  have : j = 0 := Nat.le_zero.mp hj
  subst this
  exact ⟨[], .nil, F.bindsN fun _ _ _ _ _ _ us hl => match us, hl with | [_], _ => rfl⟩
theorem b27 (K : PySem.W.Frag) : BindsD K d27 := fun fa fdat F j hj => by
  have : j = 0 := Nat.le_zero.mp hj
  subst this
  exact ⟨[], .nil, F.bindsN fun _ _ _ _ _ _ us hl => match us, hl with | [_, _], _ => rfl⟩
theorem b28 (K : PySem.W.Frag) : BindsD K d28 := fun fa fdat F j hj => by
  have : j = 0 := Nat.le_zero.mp hj
  subst this
  exact ⟨[], .nil, F.bindsN fun _ _ _ _ _ _ us hl => match us, hl with | [_, _, _], _ => rfl⟩
theorem b29 (K : PySem.W.Frag) : BindsD K d29 := fun fa fdat F j hj => by
  have : j = 0 := Nat.le_zero.mp hj
  subst this
  exact ⟨[], .nil, F.bindsN fun _ _ _ _ _ _ us hl => match us, hl with | [_, _, _, _], _ => rfl⟩
theorem b30 (K : PySem.W.Frag) : BindsD K d30 := fun fa fdat F j hj => by
  have : j = 0 := Nat.le_zero.mp hj
  subst this
  exact ⟨[], .nil, F.bindsN fun _ _ _ _ _ _ us hl => match us, hl with | [_], _ => rfl⟩
theorem b31 (K : PySem.W.Frag) : BindsD K d31 := fun fa fdat F j hj => by
  have : j = 0 := Nat.le_zero.mp hj
  subst this
  exact ⟨[], .nil, F.bindsN fun _ _ _ _ _ _ us hl => match us, hl with | [_, _], _ => rfl⟩
theorem b32 (K : PySem.W.Frag) : BindsD K d32 := fun fa fdat F j hj => by
  have : j = 0 := Nat.le_zero.mp hj
  subst this
  exact ⟨[], .nil, F.bindsN fun _ _ _ _ _ _ us hl => match us, hl with | [_, _], _ => rfl⟩
theorem b33 (K : PySem.W.Frag) : BindsD K d33 := fun fa fdat F j hj => by
  have : j = 0 := Nat.le_zero.mp hj
  subst this
  exact ⟨[], .nil, F.bindsN fun _ _ _ _ _ _ us hl => match us, hl with | [_, _, _], _ => rfl⟩
theorem b34 (K : PySem.W.Frag) : BindsD K d34 := fun fa fdat F j hj => by
  have : j = 0 := Nat.le_zero.mp hj
  subst this
  exact ⟨[], .nil, F.bindsN fun _ _ _ _ _ _ us hl => match us, hl with | [_, _, _], _ => rfl⟩
theorem b35 (K : PySem.W.Frag) : BindsD K d35 := fun fa fdat F j hj => by
  have : j = 0 := Nat.le_zero.mp hj
  subst this
  exact ⟨[], .nil, F.bindsN fun _ _ _ _ _ _ us hl => match us, hl with | [], _ => rfl⟩
theorem b36 (K : PySem.W.Frag) : BindsD K d36 := fun fa fdat F j hj => by
  have : j = 0 := Nat.le_zero.mp hj
  subst this
  exact ⟨[], .nil, F.bindsN fun _ _ _ _ _ _ us hl => match us, hl with | [_, _], _ => rfl⟩
theorem b37 (K : PySem.W.Frag) : BindsD K d37 := fun fa fdat F j hj => by
  have : j = 0 := Nat.le_zero.mp hj
  subst this
  exact ⟨[], .nil, F.bindsN fun _ _ _ _ _ _ us hl => match us, hl with | [_, _], _ => rfl⟩
theorem b38 (K : PySem.W.Frag) : BindsD K d38 := fun fa fdat F j hj => by
  have : j = 0 := Nat.le_zero.mp hj
  subst this
  exact ⟨[], .nil, F.bindsN fun _ _ _ _ _ _ us hl => match us, hl with | [_, _], _ => rfl⟩
theorem b39 (K : PySem.W.Frag) : BindsD K d39 := fun fa fdat F j hj => by
  have : j = 0 := Nat.le_zero.mp hj
  subst this
  exact ⟨[], .nil, F.bindsN fun _ _ _ _ _ _ us hl => match us, hl with | [_, _], _ => rfl⟩
theorem b40 (K : PySem.W.Frag) : BindsD K d40 := fun fa fdat F j hj => by
  have : j = 0 := Nat.le_zero.mp hj
  subst this
  exact ⟨[], .nil, F.bindsN fun _ _ _ _ _ _ us hl => match us, hl with | [_], _ => rfl⟩
theorem b41 (K : PySem.W.Frag) : BindsD K d41 := fun fa fdat F j hj => by
  have : j = 0 := Nat.le_zero.mp hj
  subst this
  exact ⟨[], .nil, F.bindsN fun _ _ _ _ _ _ us hl => match us, hl with | [_, _], _ => rfl⟩
theorem b42 (K : PySem.W.Frag) : BindsD K d42 := fun fa fdat F j hj => by
  have : j = 0 := Nat.le_zero.mp hj
  subst this
  exact ⟨[], .nil, F.bindsN fun _ _ _ _ _ _ us hl => match us, hl with | [_, _, _], _ => rfl⟩
theorem b43 (K : PySem.W.Frag) : BindsD K d43 := fun fa fdat F j hj => by
  have : j = 0 := Nat.le_zero.mp hj
  subst this
  exact ⟨[], .nil, F.bindsN fun _ _ _ _ _ _ us hl => match us, hl with | [_, _, _], _ => rfl⟩
theorem b44 (K : PySem.W.Frag) : BindsD K d44 := fun fa fdat F j hj => by
  have : j = 0 := Nat.le_zero.mp hj
  subst this
  exact ⟨[], .nil, F.bindsN fun _ _ _ _ _ _ us hl => match us, hl with | [_, _], _ => rfl⟩
theorem b45 (K : PySem.W.Frag) : BindsD K d45 := fun fa fdat F j hj => by
  have : j = 0 := Nat.le_zero.mp hj
  subst this
  exact ⟨[], .nil, F.bindsN fun _ _ _ _ _ _ us hl => match us, hl with | [_, _], _ => rfl⟩
theorem b46 (K : PySem.W.Frag) : BindsD K d46 := fun fa fdat F j hj => by
  have : j = 0 := Nat.le_zero.mp hj
  subst this
  exact ⟨[], .nil, F.bindsN fun _ _ _ _ _ _ us hl => match us, hl with | [_, _], _ => rfl⟩
theorem b47 (K : PySem.W.Frag) : BindsD K d47 := fun fa fdat F j hj => by
  have : j = 0 := Nat.le_zero.mp hj
  subst this
  exact ⟨[], .nil, F.bindsN fun _ _ _ _ _ _ us hl => match us, hl with | [_, _], _ => rfl⟩
theorem b48 (K : PySem.W.Frag) : BindsD K d48 := fun fa fdat F j hj => by
  have : j = 0 := Nat.le_zero.mp hj
  subst this
  exact ⟨[], .nil, F.bindsN fun _ _ _ _ _ _ us hl => match us, hl with | [_, _], _ => rfl⟩
theorem b49 (K : PySem.W.Frag) : BindsD K d49 := fun fa fdat F j hj => by
  have : j = 0 := Nat.le_zero.mp hj
  subst this
  exact ⟨[], .nil, F.bindsN fun _ _ _ _ _ _ us hl => match us, hl with | [_, _, _], _ => rfl⟩
theorem b50 (K : PySem.W.Frag) : BindsD K d50 := fun fa fdat F j hj => by
  have : j = 0 := Nat.le_zero.mp hj
  subst this
  exact ⟨[], .nil, F.bindsN fun _ _ _ _ _ _ us hl => match us, hl with | [_], _ => rfl⟩
theorem binds_all (K : PySem.W.Frag) : ∀ (f : Nat) (d : DefR), defs[f]? = some d → BindsD K d
  | 0, _, rfl => b0 K
  | 1, _, rfl => b1 K
  | 2, _, rfl => b2 K
  | 3, _, rfl => b3 K
  | 4, _, rfl => b4 K
  | 5, _, rfl => b5 K
  | 6, _, rfl => b6 K
  | 7, _, rfl => b7 K
  | 8, _, rfl => b8 K
  | 9, _, rfl => b9 K
  | 10, _, rfl => b10 K
  | 11, _, rfl => b11 K
  | 12, _, rfl => b12 K
  | 13, _, rfl => b13 K
  | 14, _, rfl => b14 K
  | 15, _, rfl => b15 K
  | 16, _, rfl => b16 K
  | 17, _, rfl => b17 K
  | 18, _, rfl => b18 K
  | 19, _, rfl => b19 K
  | 20, _, rfl => b20 K
  | 21, _, rfl => b21 K
  | 22, _, rfl => b22 K
  | 23, _, rfl => b23 K
  | 24, _, rfl => b24 K
  | 25, _, rfl => b25 K
  | 26, _, rfl => b26 K
  | 27, _, rfl => b27 K
  | 28, _, rfl => b28 K
  | 29, _, rfl => b29 K
  | 30, _, rfl => b30 K
  | 31, _, rfl => b31 K
  | 32, _, rfl => b32 K
  | 33, _, rfl => b33 K
  | 34, _, rfl => b34 K
  | 35, _, rfl => b35 K
  | 36, _, rfl => b36 K
  | 37, _, rfl => b37 K
  | 38, _, rfl => b38 K
  | 39, _, rfl => b39 K
  | 40, _, rfl => b40 K
  | 41, _, rfl => b41 K
  | 42, _, rfl => b42 K
  | 43, _, rfl => b43 K
  | 44, _, rfl => b44 K
  | 45, _, rfl => b45 K
  | 46, _, rfl => b46 K
  | 47, _, rfl => b47 K
  | 48, _, rfl => b48 K
  | 49, _, rfl => b49 K
  | 50, _, rfl => b50 K
  | n + 51, d, h => by
    have : defs[n + 51]? = none := List.getElem?_eq_none (by show 51 ≤ n + 51; omega)
    rw [this] at h
    cases h
theorem ok_top : okTop defs cls gk = true := by decide +kernel
abbrev Rw : PySem.W.OpenRow := PySem.W.OpenLaw.row PySem.Challenge.rw_everyshift_k01_reduced_and_written
abbrev hk : PySem.W.Hook := hookM (faOf defs cls gk) (fnOf' defs) errs
def ob (s : PySem.W.SharedT) : Ob := obG (faOf defs cls gk) (fnOf' defs) errs (HandSHeadRun.getT s)
open HandSHeadRun PySem.W in
noncomputable abbrev endW (w : World) (os : OsState) : Option PySem.W.SharedT := HandSHeadRun.endF (HandSHeadRun.stepQ (HandSHeadRun.denQ HandSHeadRun.tabQ) Rw.prog w) 12000 Rw.prog w os
open HandSHeadRun PySem.W in
theorem run_a (w : World) (os : OsState) : (endW w os).map (fun s => HandSHeadRun.looksF Rw.prog (boot_heap w.params) s.abs) = some true := by kernel_rfl
open HandSHeadRun PySem.W in
theorem run_b (w : World) (os : OsState) : (endW w os).map (fun s => HandSHeadRun.seenQ (PySem.W.view Rw.prog [97]) loose (importedModules Rw.prog.main.body) (fun s => PySem.W.xlAt (PySem.W.view Rw.prog [97]) [] s && PySem.W.recOk Rw.toRowW.records s) s.abs) = some (PySem.W.openGood (PySem.W.view Rw.prog [97]) loose) := by kernel_rfl
open HandSHeadRun PySem.W in
theorem run_c (w : World) (os : OsState) : (endW w os).map (fun s => ob s) = some (hk.val w) := by kernel_rfl
theorem map3 {α β γ δ : Type} {o : Option α} {f : α → β} {g : α → γ} {h : α → δ} {a : β} {b : γ} {c : δ} (h1 : o.map f = some a) (h2 : o.map g = some b) (h3 : o.map h = some c) : o.map (fun s => (f s, g s, h s)) = some (a, b, c) := by
  cases o with
  | none => cases h1
  | some s => cases h1; cases h2; cases h3; rfl
theorem run (w : World) : HandSHeadRun.RunEq Rw (PySem.W.view Rw.prog [97]) hk ob 12000 loose w := fun os => map3 (run_a w os) (run_b w os) (run_c w os)
end MP
set_option linter.all false
set_option maxRecDepth 100000
set_option maxHeartbeats 4000000
/-! MiniPy: within an except suite: a list walked, bools summed, an error asked for its classes. -/
namespace MP
open PySem PySem.Spec PyProof.Rows L2 HotX
section
variable {prog : Program} {w : World} {A : Around} {E : Value → Shared → Prop} {s : Shared}
/-- the exception that is handled, where it lies -/
structure HotO (A : Around) (x1 : Addr) (o1 : Obj) : Prop where
  hd : A.handled = some (.ref x1)
  ctx : ∃ vs : Array Value, o1.data = .fields vs ∧ vs[2]? = some .none
theorem next_end_hot {it l x1 : Addr} {i : Nat} {items : Array Value} {o1 : Obj} {Q : Option Value → Shared → Prop} (hot : HotO A x1 o1) (h1 : s.heap.get? x1 = some o1) (ne : x1 ≠ it) (hit : s.heap.IsListIter it l i) (hl : s.heap.IsList l items) (over : items[i]? = none)
    (hQ : ∀ h', (∀ b o, b ≠ it → s.heap.get? b = some o → h'.get? b = some o) → Q none { s with heap := h' }) : wpAny (model prog w) A (pyNext (.ref it)) Q E s := by
  obtain ⟨hh, vs1, d1, c1⟩ := hot
  have T := hit.typeIs
  obtain ⟨oi, gi, ci, di⟩ := hit
  obtain ⟨ol, gl, _, nl, dl⟩ := hl
  unfold pyNext
  refine wpAny_bind (wpAny_attempt (wpAny_callSpecial?_slot (name := Str.ofString "__next__") T slot_listiter_next (wpAny_call_entry slot_listiter_next T entry_listiter_next ?_ (args_listiter_next _))))
  refine wpAny_bind (m := field (.ref it) 0) (wpAny_field gi di (x := .ref l) rfl ?_)
  have no : ¬ ((Value.ref l == Value.none) = true) := Bool.false_ne_true
  show wpAny _ _ (if (Value.ref l == Value.none) = true then _ else _) _ _ s
  rw [if_neg no]
  refine wpAny_bind (m := field (.ref it) 1) (wpAny_field gi di (x := .int i 0) rfl ?_)
  refine wpAny_bind (m := seqItems? (.ref l)) (wpAny_seqItems gl dl ?_)
  simp only [Int.toNat_natCast, over]
  refine wpAny_bind (wpAny_rule (wpAny_bind (wpAny_setField gi di (by simp) ?_)))
  refine wpAny_bind (m := newExc (.type "StopIteration") []) ?_
  simp only [newExc, newTuple]
  refine wpAny_bind (wpAny_newObj_type ?_ (by size_fits))
  refine wpAny_bind (m := firstArgMember _ _) (wpAny_of_eq (a := Value.none) (by first | rfl | (simp only [firstArgMember]; rfl)) (wpAny_newObj_type ?_ (by size_fits)))
  have k1 : ∀ {b : Addr} {o : Obj} {u : Obj → Obj}, b ≠ it → s.heap.get? b = some o → (s.heap.update it u).get? b = some o := fun {b o u} n e => (Heap.get?_update_other _ _ (Ne.symm n)).trans e
  have hx := Heap.get?_push_of_some { cls := .type "tuple", data := .seq #[] } (k1 (u := Obj.mapFields (·.setIfInBounds 0 .none)) ne h1)
  refine raiseNew_hot ⟨hh, o1, vs1, Heap.get?_push_of_some _ (Heap.get?_push_of_some _ (k1 ne h1)), d1, c1⟩ (Nat.ne_of_lt (Heap.lt_size (Heap.get?_push_of_some _ (k1 ne h1)))) (Heap.get?_push_size _ rfl) rfl (by first | (simp; done) | (simp; omega) | (simp only [Array.size_append]; simp; omega)) ?_
  refine wpAny_bind (wpAny_isInstance (T := "StopIteration") (b := true) ⟨_, Heap.get?_update_self _ (Heap.get?_push_size _ rfl) rfl, rfl⟩ isSubtype_stop (wpAny_pure (hQ _ fun b o n e => ?_)))
  rw [Heap.get?_update_other _ _ (Nat.ne_of_gt (Heap.lt_size (Heap.get?_push_of_some _ (k1 n e))))]
  exact Heap.get?_push_of_some _ (Heap.get?_push_of_some _ (k1 n e))
theorem walks_hot {I ax x1 : Addr} {o1 : Obj} (hot : HotO A x1 o1) (n1 : ax ≠ I) (n2 : x1 ≠ I) (items : Array Value) :
    Walks prog w A I [I, ax, x1] [I] items.size (fun i v => items[i]? = some v) (fun i h => h.IsListIter I ax i ∧ h.IsList ax items ∧ h.get? x1 = some o1) where
  sub := fun b hb => by
    have : b = I := by simpa using hb
    simp [this]
  frame := fun i h h' st k => ⟨st.1.at fun o e => k I (by simp) o e, st.2.1.at fun o e => k ax (by simp) o e, k x1 (by simp) _ st.2.2⟩
  item := fun i s Q E hi st hQ => wpAny_pyNext_list_item st.1 st.2.1 (x := items[i]) (by simp [hi]) fun h' it' sb =>
    hQ _ h' s.toks (by simp [hi]) ⟨it', st.2.1.extBut sb.extBut n1, sb.extBut x1 _ n2 st.2.2⟩ fun b o hb e => sb.extBut b o (fun z => hb (by simp [z])) e
  done := fun s Q E st hQ => next_end_hot hot st.2.2 n2 st.1 st.2.1 (by simp) fun h' k => hQ h' s.toks fun b o hb e => k b o (fun z => hb (by simp [z])) e
  self := fun _ _ _ _ st hQ => wpAny_pyIter_listiter st.1 hQ
def cntB : List Bool → Int
  | [] => 0
  | b :: bs => (if b then 1 else 0) + cntB bs
theorem cntB_bd : ∀ bs : List Bool, 0 ≤ cntB bs ∧ cntB bs ≤ bs.length
  | [] => ⟨Int.le_refl _, Int.le_refl _⟩
  | b :: bs => by
    have := cntB_bd bs
    simp only [cntB, List.length_cons]
    cases b <;> simp <;> omega
theorem sum_loopB {I S : Addr} {fp wr : List Addr} {R : Result → Shared → Prop} {St : Nat → Heap → Prop} {bs : List Bool} {P : Nat → Value → Prop} (W : Walks prog w A.in1 I fp wr bs.length P St) (val : ∀ i v, P i v → ∃ b, bs[i]? = some b ∧ v = .bool b) (hS : S ∉ fp) (few : bs.length ≤ 1000000) :
    ∀ (k i : Nat) (s : Shared) (t : Tok) (c : Nat) (a : Int), bs.length - i = k → i ≤ bs.length → 0 ≤ a → a ≤ i → St i s.heap → s.heap.get? S = some { cls := .type "list", dict := none, data := .seq #[.int a t] c, slots := #[] } →
      (∀ h' tk t', (∀ b o, b ∉ wr → b ≠ S → s.heap.get? b = some o → h'.get? b = some o) → R (.ok (.ret (.int (a + cntB (bs.drop i)) t'))) { s with heap := h', toks := tk }) →
      codeAny (model prog w) A (.builtin "sum.loop" ⟨[.ref I, .ref S, rawInt 0, rawInt 0], []⟩) R s
  | 0, i, s, t, c, a, hk, hi, ha, ha2, st, g, fin => by
    have e : i = bs.length := by omega
    subst e
    refine codeAny_builtin F.entry_sum_loop ?_
    rw [Around.under_plainId F.plain_sum_loop _]
    refine wpAny_bind (m := seqItems? (.ref S)) (wpAny_seqItems g rfl ?_)
    show wpAny _ A.in1 (tryCatch (pyNext (.ref I)) _ >>= _) _ _ s
    refine wpAny_bind (wpAny_tryCatch (W.done s _ _ st fun h' tk kp => wpAny_pure ?_))
    have := fin h' tk t fun b o nb _ e => kp b o nb e
    rw [List.drop_length] at this
    simpa [cntB] using this
  | k + 1, i, s, t, c, a, hk, hi, ha, ha2, st, g, fin => by
    have lt : i < bs.length := by omega
    have nw : S ∉ wr := fun z => hS (W.sub _ z)
    refine codeAny_builtin F.entry_sum_loop ?_
    rw [Around.under_plainId F.plain_sum_loop _]
    refine wpAny_bind (m := seqItems? (.ref S)) (wpAny_seqItems g rfl ?_)
    show wpAny _ A.in1 (tryCatch (pyNext (.ref I)) _ >>= _) _ _ s
    refine wpAny_bind (wpAny_tryCatch (W.item i s _ _ lt st fun v h' tk pv st' kp => ?_))
    obtain ⟨b, eb, rfl⟩ := val i v pv
    have g' := kp S _ nw g
    have ed : bs.drop i = b :: bs.drop (i + 1) := by
      rw [List.drop_eq_getElem_cons lt]
      have := List.getElem?_eq_getElem lt
      rw [eb] at this
      rw [← Option.some.inj this]
    have bd : a + (if b then 1 else 0) ≤ i + 1 ∧ 0 ≤ a + (if b then 1 else 0) := by cases b <;> simp <;> omega
    have again_ok : ∀ tk', codeAny (model prog w) A (.builtin "sum.loop" ⟨[.ref I, .ref S, rawInt 0, rawInt 0], []⟩) R { s with heap := h'.update S (Obj.mapSeq fun _ => #[Value.int (a + (if b then 1 else 0)) tk']), toks := tk' + 1 } := fun tk' => by
      refine sum_loopB W val hS few k (i + 1) _ tk' _ _ (by omega) lt bd.2 (by have := bd.1; omega) (W.frame _ _ _ st' fun q hq o e => ?_) (Heap.get?_update_self _ g' rfl) fun h'' tk'' t'' kp'' => ?_
      · exact (Heap.get?_update_other _ _ (fun z : S = q => hS (by rw [z]; exact hq))).trans e
      · have := fin h'' tk'' t'' fun q o nb nS e => kp'' q o nb nS ((Heap.get?_update_other _ _ (Ne.symm nS)).trans (kp q o nb e))
        rw [ed] at this
        rw [show a + (if b then 1 else 0) + cntB (bs.drop (i + 1)) = a + cntB (b :: bs.drop (i + 1)) by simp only [cntB]; omega]
        exact this
    cases b with
    | true =>
      have fits : ((decide (-(2 ^ 63 : Int) ≤ 1) && decide ((1 : Int) < 2 ^ 63)) && (decide (-(2 ^ 63 : Int) ≤ a + 1) && decide (a + 1 < (2 ^ 63 : Int)))) = true := by
        simp only [Bool.and_eq_true, decide_eq_true_eq]
        have := bd.1
        simp at this
        omega
      show wpAny _ A.in1 (if ((decide (-(2 ^ 63 : Int) ≤ 1) && decide ((1 : Int) < 2 ^ 63)) && (decide (-(2 ^ 63 : Int) ≤ a + 1) && decide (a + 1 < (2 ^ 63 : Int)))) = true then (mkInt (a + 1) >>= _) else _) _ _ _
      rw [if_pos fits]
      refine wpAny_bind (wpAny_mkInt ?_)
      exact wpAny_bind (m := updateSeq S (fun _ => #[.int (a + 1) tk])) (wpAny_updateSeq g' rfl (wpAny_pure ⟨plainId_quiet F.plain_sum_loop _, again_ok tk⟩))
    | false =>
      have fits : ((decide (-(2 ^ 63 : Int) ≤ 0) && decide ((0 : Int) < 2 ^ 63)) && (decide (-(2 ^ 63 : Int) ≤ a + 0) && decide (a + 0 < (2 ^ 63 : Int)))) = true := by
        simp only [Bool.and_eq_true, decide_eq_true_eq]
        have := bd.1
        simp at this
        omega
      show wpAny _ A.in1 (if ((decide (-(2 ^ 63 : Int) ≤ 0) && decide ((0 : Int) < 2 ^ 63)) && (decide (-(2 ^ 63 : Int) ≤ a + 0) && decide (a + 0 < (2 ^ 63 : Int)))) = true then (mkInt (a + 0) >>= _) else _) _ _ _
      rw [if_pos fits]
      refine wpAny_bind (wpAny_mkInt ?_)
      exact wpAny_bind (m := updateSeq S (fun _ => #[.int (a + 0) tk])) (wpAny_updateSeq g' rfl (wpAny_pure ⟨plainId_quiet F.plain_sum_loop _, again_ok tk⟩))
/-- sum of a row of bools -/
theorem sum_hot {l x1 : Addr} {o1 : Obj} {items : Array Value} {bs : List Bool} {Q : Value → Shared → Prop} (hot : HotO A x1 o1) (h1 : s.heap.get? x1 = some o1) (hl : s.heap.IsList l items) (hi : items = (bs.map Value.bool).toArray) (few : bs.length ≤ 1000000)
    (hQ : ∀ h' tk t', (∀ b o, s.heap.get? b = some o → h'.get? b = some o) → Q (.int (cntB bs) t') { s with heap := h', toks := tk }) : wpAny (model prog w) A (call (.builtin "sum") [.ref l]) Q E s := by
  subst hi
  have hlt : l < s.heap.objs.size := by obtain ⟨_, e, _⟩ := hl; exact Heap.lt_size e
  refine call_function_tree F.kind_sum F.plain_sum F.entry_sum (F.args_sum1 _) ?_
  unfold Builtin.«sum»
  simp only [List.length_cons, List.length_nil]
  rw [if_neg (by decide)]
  refine wpAny_bind (wpAny_of_eq (show Builtin.Builtins.bindParams "sum" ["start"] 0 { } = pure [none] from rfl) (wpAny_bind (wpAny_pyIter_list hl ?_)))
  refine wpAny_bind (wpAny_mkInt (wpAny_bind (wpAny_pure ?_)))
  simp only [List.forIn_cons, List.forIn_nil]
  refine wpAny_bind (wpAny_bind (wpAny_bind (wpAny_isInstance (T := "int") (b := false) (typeIs_int _ _ _) PySem.sub_int_str ?_)))
  simp only [Bool.false_eq_true, if_false]
  refine wpAny_pure (wpAny_bind (wpAny_bind (wpAny_isInstance (T := "int") (b := false) (typeIs_int _ _ _) sub_int_bytes ?_)))
  simp only [Bool.false_eq_true, if_false]
  refine wpAny_pure (wpAny_bind (wpAny_bind (wpAny_isInstance (T := "int") (b := false) (typeIs_int _ _ _) sub_int_bytearray ?_)))
  simp only [Bool.false_eq_true, if_false]
  refine wpAny_pure (wpAny_pure (wpAny_bind (wpAny_newObj_type ?_)))
  have W := walks_hot (prog := prog) (w := w) (A := A.in1) (I := s.heap.objs.size) (ax := l) (x1 := x1) (o1 := o1) ⟨hot.hd, hot.ctx⟩ (Nat.ne_of_lt hlt) (Nat.ne_of_lt (Heap.lt_size h1)) (bs.map Value.bool).toArray
  have sz : ((bs.map Value.bool).toArray).size = bs.length := by simp
  rw [sz] at W
  have push1 : ∀ {b : Addr} {o : Obj}, s.heap.get? b = some o → ∀ p, (s.heap.push p).get? b = some o := fun e p => Heap.get?_push_of_some _ e
  refine wpAny_pure ⟨plainId_quiet F.plain_sum_loop _, sum_loopB W (fun i v e => ?_) (S := (s.heap.push _).objs.size) (fun z => ?_) few bs.length 0 _ s.toks 0 0 (by omega) (Nat.zero_le _) (Int.le_refl _) (by simp) ⟨?_, ?_, ?_⟩ (Heap.get?_push_size _ rfl) fun h' tk t' kp => ?_⟩
  · have e : (bs.map Value.bool)[i]? = some v := by simpa using e
    rw [List.getElem?_map] at e
    cases eb : bs[i]? with
    | none => rw [eb] at e; cases e
    | some b => rw [eb] at e; exact ⟨b, rfl, (Option.some.inj e).symm⟩
  · rw [Heap.size_push] at z
    have hx : x1 < s.heap.objs.size := Heap.lt_size h1
    rcases List.mem_cons.mp z with z | z
    · exact absurd z (Nat.succ_ne_self _)
    · rcases List.mem_cons.mp z with z | z
      · rw [← z] at hlt
        exact absurd hlt (Nat.not_lt.mpr (Nat.le_succ _))
      · rw [← List.mem_singleton.mp z] at hx
        exact absurd hx (Nat.not_lt.mpr (Nat.le_succ _))
  · exact (show (s.heap.push _).IsListIter s.heap.objs.size l 0 from ⟨_, Heap.get?_push_size _ rfl, rfl, rfl⟩).at fun o e => Heap.get?_push_of_some _ e
  · exact (hl.push _).push _
  · exact Heap.get?_push_of_some _ (Heap.get?_push_of_some _ h1)
  · have := hQ h' tk t' fun b o e => kp b o (fun z => ?_) (fun z => ?_) (Heap.get?_push_of_some _ (Heap.get?_push_of_some _ e))
    · simpa using this
    · have z : b = s.heap.objs.size := by simpa using z
      have le := Heap.lt_size e
      rw [z] at le
      exact Nat.lt_irrefl _ le
    · have le := Heap.lt_size e
      rw [z, Heap.size_push] at le
      exact absurd le (Nat.not_lt.mpr (Nat.le_succ _))
end
end MP
set_option linter.all false
set_option maxRecDepth 100000
set_option maxHeartbeats 4000000
/-! MiniPy: a def that calls another, and tells its answer or its error's name. -/
namespace MP
open PySem PySem.Spec PyProof.Rows L2
section
variable {X : Cx} {a D : Addr} {oe : Obj} {pn : List (Addr × Obj)}
/-- isinstance(e, (c1, c2, ..)) of the error that the suite holds -/
def rIsER (K : PySem.W.Frag) (D a : Addr) : List V → Hp → VK → Prop := fun xs H Q => ∃ (tp : Addr) (cs : List V) (us : List Value) (b : Bool), xs = [.ref a, .ref tp] ∧ H tp = some (.tup cs) ∧ Paired ClsV cs us ∧ PySem.W.kitAny K (.ref D) us = some b ∧ Q (.bl b) H
theorem call_isER (C : ExcC X.K D) (hz : Zc (.ref D) none oe) (hf : ∃ vs, oe.data = .fields vs) : CallR (X.suite a ((a, oe) :: pn)) (.builtin "isinstance") (rIsER X.K D a) := by
  intro pins s σ H xs us Q I r ⟨tp, cs, ws, b, ex, hT, k, e, q⟩
  subst ex
  obtain ⟨u1, u2, rfl, r1, r2⟩ := vals2 r
  cases (show u1 = Value.ref a from r1)
  cases (show u2 = Value.ref tp from r2)
  obtain ⟨hget, _⟩ := I.pin (a, oe) (List.mem_append.mpr (.inl List.mem_cons_self))
  obtain ⟨vs, hv⟩ := hf
  have J : PySem.W.InstAt s.heap a oe D none := by
    obtain ⟨oc, od, oda, osl⟩ := oe
    obtain ⟨z1, z2⟩ := hz
    dsimp only at z1 z2 hv
    subst z1 z2 hv
    exact ⟨hget, rfl, rfl, trivial⟩
  obtain ⟨_, its, rv, o, h1, h2, n, h3⟩ := (show ObjOk X.prog X.w H s.heap tp (.tup cs) from I.hok tp _ hT)
  have e3 := ClsV.all k rv
  subst e3
  obtain ⟨oc, od, dt, sl⟩ := o
  simp only at h2 h3
  subst h2 h3
  exact PySem.W.kia_tup (PySem.W.handS_kitx_exc C.hg C.hk C.hs C.hd C.ha C.hn C.ht C.hm) I.kIn J h1 e (fun z => nomatch z) fun tk => ⟨.bl b, H, I.tok tk, rfl, q⟩
/-- sum of a row of bools, in the suite -/
def rSumB (K : PySem.W.Frag) : List V → Hp → VK → Prop := fun xs H Q => ∃ (p : Addr) (bs : List Bool), xs = [.ref p] ∧ SqL K H p (bs.map V.bl) ∧ bs.length ≤ 1000000 ∧ Q (.int (cntB bs)) H
theorem vals_bl : ∀ {bs : List Bool} {us : List Value}, Vals (bs.map V.bl) us → us = bs.map Value.bool
  | [], _, .nil => rfl
  | _ :: _, _, .cons r t => by
    rw [vals_bl t]
    cases (show _ = Value.bool _ from r)
    rfl
theorem call_sumB (hz : L2N.Zn (.ref D) none oe) (hf : ∃ vs, oe.data = .fields vs) : CallR (X.suite a ((a, oe) :: pn)) (.builtin "sum") (rSumB X.K) := by
  intro pins s σ H xs us Q I r ⟨p, bs, ex, hp, few, q⟩
  subst ex
  rw [Vals.ref1 r]
  obtain ⟨its, rv, hl, _⟩ := I.list hp
  obtain ⟨vs, hv⟩ := hf
  obtain ⟨hget, _⟩ := I.pin (a, oe) (List.mem_append.mpr (.inl List.mem_cons_self))
  have hot : HotO (X.suite a ((a, oe) :: pn)).A a oe := ⟨rfl, vs, hv, hz.2.2 vs hv⟩
  refine sum_hot hot hget hl.isList (by rw [vals_bl rv]) few fun h' tk t' kp => ⟨.int _, H, I.kept (t' := tk) kp, ⟨_, rfl⟩, q⟩
end

/-! ### rows of classes, of names -/
/-- isinstance(e, C) -/
def isOne (g : Gk) (c : Ck) (en x : Str) : Expr → Bool
  | .Call fe es ks _ => match fe, es with
    | .Name f _, [.Name y _, .Name z _] => ks.isEmpty && f == ("isinstance" : Str) && okFree g c f && y == en && z == x && glo c z
    | _, _ => false
  | _ => false
theorem isOne_inv {g : Gk} {c : Ck} {en x : Str} {e : Expr} (h : isOne g c en x e = true) : ∃ p1 p2 p3 p4, e = .Call (.Name "isinstance" p1) [.Name en p2, .Name x p3] [] p4 ∧ okFree g c "isinstance" = true ∧ glo c x = true := by
  unfold isOne at h
  split at h
  · split at h
    · simp only [Bool.and_eq_true, beq_iff_eq] at h
      obtain ⟨⟨⟨⟨⟨hk, rfl⟩, hf⟩, rfl⟩, rfl⟩, hg⟩ := h
      have hk := List.isEmpty_iff.mp hk
      subst hk
      exact ⟨_, _, _, _, rfl, hf, hg⟩
    · cases h
  · cases h
/-- [isinstance(e, C1), ..] -/
def isRow (g : Gk) (c : Ck) (en : Str) : List Str → List Expr → Bool
  | [], [] => true
  | x :: xs, e :: es => isOne g c en x e && isRow g c en xs es
  | _, _ => false
def clOne (c : Ck) (x : Str) : Expr → Bool
  | .Name z _ => z == x && glo c z
  | _ => false
theorem clOne_inv {c : Ck} {x : Str} {e : Expr} (h : clOne c x e = true) : ∃ p, e = .Name x p ∧ glo c x = true := by
  unfold clOne at h
  split at h
  · simp only [Bool.and_eq_true, beq_iff_eq] at h
    obtain ⟨rfl, h⟩ := h
    exact ⟨_, rfl, h⟩
  · cases h
/-- (C1, ..) -/
def clRow (c : Ck) : List Str → List Expr → Bool
  | [], [] => true
  | x :: xs, e :: es => clOne c x e && clRow c xs es
  | _, _ => false
def stOne (x : Str) : Expr → Bool
  | .Constant k _ _ => decide (k = .str x)
  | _ => false
theorem stOne_inv {x : Str} {e : Expr} (h : stOne x e = true) : ∃ j p, e = .Constant (.str x) j p := by
  unfold stOne at h
  split at h
  · have h := of_decide_eq_true h
    subst h
    exact ⟨_, _, rfl⟩
  · cases h
/-- ['C1', ..] -/
def stRow : List Str → List Expr → Bool
  | [], [] => true
  | x :: xs, e :: es => stOne x e && stRow xs es
  | _, _ => false
section
variable {g : Gk} {P : Program} {w : World} {K : PySem.W.Frag} {mg : Str → Option Value} {base : Heap} {n : Nat} {cl : Nat → List D → MP.CR} {X : Cx} {c : Ck} {a D : Addr} {oe : Obj} {pn : List (Addr × Obj)} {en : Str} {iE : Nat}
abbrev Z0 (X : Cx) (a : Addr) (oe : Obj) (pn : List (Addr × Obj)) : Cx := X.suite a ((a, oe) :: pn)
/-- the readings -/
def tRow (iE : Nat) (a : Addr) (vs : List V) : TA := fun σ H Q => σ[iE]? = some (some (.ref a)) ∧ Q vs H
theorem glo_at (G : Good P w K mg base n X c) {x : Str} (h : glo c x = true) (hm : mg x = some (.ref (He.ga K x))) (p : Pos) : PE (Z0 X a oe pn) (.Name x p) (tC (.ref (He.ga K x))) :=
  pe_glob (X := Z0 X a oe pn) (glo_snd G h).1 (by show X.mg x = _; rw [G.mg]; exact hm) rfl (glo_snd G h).2
theorem var_at (G : Good P w K mg base n X c) {x : Str} {i : Nat} (h : okV c x i = true) (p : Pos) : PE (Z0 X a oe pn) (.Name x p) (tVar i) := by
  have := h
  unfold okV at this
  simp only [Bool.and_eq_true, Bool.not_eq_true', beq_iff_eq] at this
  obtain ⟨⟨⟨h1, h2⟩, h3⟩, h4⟩ := this
  refine pe_var (X := Z0 X a oe pn) (by show X.N[i]? = _; rw [G.N]; exact h1) ?_ h3 h4
  unfold Vis
  rw [show (Z0 X a oe pn).env.scope = c.sc from G.sc]
  revert h2
  split <;> intro h2
  · exact .inl (by assumption)
  · exact .inr (.inl (by assumption))
  · exact .inr (.inr (by assumption))
  · cases h2
theorem isRow_pa (B : Glob g P w K mg base n cl) (G : Good P w K mg base n X c) (C : ExcC K D) (hz : Zc (.ref D) none oe) (hf : ∃ vs, oe.data = .fields vs) (hv : okV c en iE = true) : ∀ {ps : List (Str × Bool)} {es : List Expr}, isRow g c en (ps.map (·.1)) es = true → (∀ p ∈ ps, mg p.1 = some (.ref (He.ga K p.1)) ∧ PySem.W.kitOne K (.ref D) (.ref (He.ga K p.1)) = some p.2) →
    PA (Z0 X a oe pn) es (tRow iE a (ps.map fun p => V.bl p.2))
  | [], [], _, _ => PA.imp pa_nil fun σ H Q h => h.2
  | (x, b) :: ps, e :: es, h, hk => by
    simp only [List.map_cons, isRow, Bool.and_eq_true] at h
    obtain ⟨h1, h2⟩ := h
    obtain ⟨p1, p2, p3, p4, rfl, hfr, hg⟩ := isOne_inv h1
    obtain ⟨f1, f2⟩ := free_snd B G hfr
    obtain ⟨m1, m2⟩ := hk _ List.mem_cons_self
    have r := isRow_pa B G C hz hf hv h2 (fun p hp => hk p (List.mem_cons_of_mem _ hp))
    refine PA.imp (pa_cons (pe_callB (X := Z0 X a oe pn) (call_isE (X := X) (a := a) (D := D) (oe := oe) (pn := pn) (by rw [G.K]; exact C) hz hf) f1 f2 PyProof.Rows.boot_isinstance (pa_cons (var_at G hv p2) (pa_cons (glo_at G hg m1 p3) pa_nil rfl) rfl) (by decide) (by decide) rfl rfl) r rfl) fun σ H Q ⟨h3, h4⟩ => ?_
    refine ⟨_, h3, _, _, b, rfl, fun u ru => ru, by rw [show (Z0 X a oe pn).K = K from G.K]; exact m2, h3, h4⟩
  | [], _ :: _, h, _ => by cases h
  | _ :: _, [], h, _ => by cases h
theorem clRow_pa (G : Good P w K mg base n X c) : ∀ {xs : List Str} {es : List Expr}, clRow c xs es = true → (∀ x ∈ xs, mg x = some (.ref (He.ga K x))) → PA (Z0 X a oe pn) es (fun _ H Q => Q (xs.map fun x => V.ref (He.ga K x)) H)
  | [], [], _, _ => PA.imp pa_nil fun σ H Q h => h
  | x :: xs, e :: es, h, hk => by
    simp only [clRow, Bool.and_eq_true] at h
    obtain ⟨p, rfl, hg⟩ := clOne_inv h.1
    exact PA.imp (pa_cons (glo_at G hg (hk x List.mem_cons_self) p) (clRow_pa G h.2 fun y hy => hk y (List.mem_cons_of_mem _ hy)) rfl) fun σ H Q q => q
  | [], _ :: _, h, _ => by cases h
  | _ :: _, [], h, _ => by cases h
theorem stRow_pa {Y : Cx} : ∀ {xs : List Str} {es : List Expr}, stRow xs es = true → PA Y es (fun _ H Q => Q (xs.map V.str) H)
  | [], [], _ => PA.imp pa_nil fun σ H Q h => h
  | x :: xs, e :: es, h => by
    simp only [stRow, Bool.and_eq_true] at h
    obtain ⟨j, p, rfl⟩ := stOne_inv h.1
    exact PA.imp (pa_cons pe_str (stRow_pa h.2) rfl) fun σ H Q q => q
  | [], _ :: _, h => by cases h
  | _ :: _, [], h => by cases h

/-- the suite's wish: the answer is a new list of the name and None -/
def tSuite (iE iT iN iO : Nat) (a : Addr) (bs : List Bool) (ns : List Str) (rs : List V) (nm : Str) : TS := fun D0 σ H => σ[iE]? = some (some (.ref a)) ∧ iT < σ.length ∧ iN < σ.length ∧ iO < σ.length ∧
  ∀ p1 p2 p3 p4, H p1 = none → upd H p1 (.lst (bs.map V.bl)) p2 = none → upd (upd H p1 (.lst (bs.map V.bl))) p2 (.lst (ns.map V.str)) p3 = none → upd (upd (upd H p1 (.lst (bs.map V.bl))) p2 (.lst (ns.map V.str))) p3 (.tup rs) p4 = none →
    D0.rt (.ref p4) (upd (upd (upd (upd H p1 (.lst (bs.map V.bl))) p2 (.lst (ns.map V.str))) p3 (.tup rs)) p4 (.lst [.str nm, .non]))
theorem kit_row {xs : List Str} (h : ∀ x ∈ xs, PySem.W.kitOne K (.ref D) (.ref (He.ga K x)) = some false) : PySem.W.kitAny K (.ref D) (xs.map fun x => Value.ref (He.ga K x)) = some false := by
  induction xs with
  | nil => rfl
  | cons x xs ih => exact kitAny_cons (h x List.mem_cons_self) (fun _ => ih fun y hy => h y (List.mem_cons_of_mem _ hy)) (fun z => nomatch z)
theorem paired_ref : ∀ xs : List Str, Paired ClsV (xs.map fun x => V.ref (He.ga K x)) (xs.map fun x => Value.ref (He.ga K x))
  | [] => .nil
  | _ :: xs => .cons (.own _) (paired_ref xs)

theorem cmp_ne1 : cmpD .ne (.int 1) (.int 1) = some false := by decide +kernel
theorem get_set {σ : L2.St} {i j : Nat} {v : Option V} (h : i ≠ j) : (σ.set i v)[j]? = σ[j]? := List.getElem?_set_ne h
theorem get_self {σ : L2.St} {i : Nat} {v : Option V} (h : i < σ.length) : (σ.set i v)[i]? = some v := List.getElem?_set_self h
/-- a suite that tells an error's name -/
theorem suite_pss (B : Glob g P w K mg base n cl) (G : Good P w K mg base n X c) (C : ExcC K D) (hz : L2N.Zn (.ref D) none oe) (hf : ∃ vs, oe.data = .fields vs) {iT iN iO : Nat} {tn nn on nm : Str} {kits : List (Str × Bool)} {row names : List Str} {es cs rs : List Expr} {body4 : List Stmt} {j : Nat}
    (hvE : okV c en iE = true) (hvT : okV c tn iT = true) (hvN : okV c nn iN = true) (hvO : okV c on iO = true) (lT : okL c tn iT = true) (lN : okL c nn iN = true) (lO : okL c on iO = true) (dis : [iE, iT, iN, iO].Nodup)
    (hes : isRow g c en (kits.map (·.1)) es = true) (hkits : ∀ p ∈ kits, mg p.1 = some (.ref (He.ga K p.1)) ∧ PySem.W.kitOne K (.ref D) (.ref (He.ga K p.1)) = some p.2) (hcs : stRow names cs = true) (hrs : clRow c row rs = true) (hrow : ∀ x ∈ row, mg x = some (.ref (He.ga K x)) ∧ PySem.W.kitOne K (.ref D) (.ref (He.ga K x)) = some false)
    (hve : PySem.W.kitOne K (.ref D) (.type "ValueError") = some true) (fI : okFree g c "isinstance" = true) (fS : okFree g c "sum" = true) (fV : okFree g c "ValueError" = true) (one : cntB (kits.map (·.2)) = 1) (fst : (kits.map (·.2))[j]? = some true) (bef : ∀ m, m < j → (kits.map (·.2))[m]? = some false) (lab : names[j]? = some nm)
    (few : kits.length ≤ 100000 ∧ names.length ≤ 100000 ∧ row.length ≤ 100000) {p1 p2 p3 p4 p5 p6 p7 p8 p9 p10 p11 p12 p13 p14 p15 p16 p17 p18 p19 p20 p21 p22 p23 p24 p25 p26 p27 p28 p29 p30 p31 p32 p33 p34 : Pos} {k1 k2 k3 k4 : Nat} (line : (p28.endLine == p30.line) = true) :
    PSs (Z0 X a oe pn) [.Assign [.Name tn p1] (.List es p2) p3, .Assign [.Name nn p4] (.List cs p5) p6, .Assign [.Name on p7] (.Call (.Name "isinstance" p8) [.Name en p9, .Tuple rs k1 p10] [] p11) p12,
      .If (.BoolOp .Or [.Name on p13, .Compare (.Call (.Name "sum" p14) [.Name tn p15] [] p16) [.NotEq] [.Constant (.int 1) k2 p17] p18, .UnaryOp .Not (.Call (.Name "isinstance" p19) [.Name en p20, .Name "ValueError" p21] [] p22) p23] p24) body4 [] p25,
      .Return (some (.List [.Subscript (.Name nn p26) (.Call (.Attribute (.Name tn p27) "index" p28) [.Constant (.bool true) k3 p29] [] p30) p31, .Constant .none k4 p32] p33)) p34]
      (tSuite iE iT iN iO a (kits.map (·.2)) names (row.map fun x => V.ref (He.ga K x)) nm) := by
  have eK : (Z0 X a oe pn).K = K := G.K
  have hzc : Zc (.ref D) none oe := hz.zc
  have C' : ExcC X.K D := by rw [G.K]; exact C
  obtain ⟨i1, i2⟩ := free_snd B G fI
  obtain ⟨s1, s2⟩ := free_snd B G fS
  obtain ⟨v1, v2⟩ := free_snd B G fV
  have hu : (Z0 X a oe pn).A.units + 64 < cLine := by
    have := G.room.un
    show X.A.units + 64 < cLine
    omega
  obtain ⟨nd, t1, t2, t3⟩ := okL_loc G lT
  obtain ⟨_, n1, n2, n3⟩ := okL_loc G lN
  obtain ⟨_, o1, o2, o3⟩ := okL_loc G lO
  have TP : PE (Z0 X a oe pn) (.Tuple rs k1 p10) _ := pe_tup (clRow_pa (a := a) (oe := oe) (pn := pn) G hrs fun x hx => (hrow x hx).1)
  -- the statements
  have S1 := ps_set (X := Z0 X a oe pn) (pos' := p1) (pos := p3) nd t1 t2 (pe_lst (pos := p2) (isRow_pa (a := a) (pn := pn) B G C hzc hf hvE hes hkits)) rfl t3
  have S2 := ps_set (X := Z0 X a oe pn) (pos' := p4) (pos := p6) nd n1 n2 (pe_lst (pos := p5) (stRow_pa (Y := Z0 X a oe pn) hcs)) rfl n3
  have S3 := ps_set (X := Z0 X a oe pn) (pos' := p7) (pos := p12) nd o1 o2 (pe_callB (X := Z0 X a oe pn) (p := p8) (pos := p11) (call_isER (X := X) (a := a) (pn := pn) C' hzc hf) i1 i2 PyProof.Rows.boot_isinstance (pa_cons (var_at G hvE p9) (pa_cons TP pa_nil rfl) rfl) (by decide) (by decide) rfl rfl) rfl o3
  have T4 := pw_or (X := Z0 X a oe pn) (pos := p24) (pt_val (var_at (a := a) (oe := oe) (pn := pn) G hvO p13)) (pw_or (pos := p24) (pt_cmpR (pos := p18) (opr_cmp hu .ne) (pe_callB (X := Z0 X a oe pn) (p := p14) (pos := p16) (call_sumB (X := X) (a := a) (D := D) (pn := pn) hz hf) s1 s2 PyProof.Rows.boot_sum (pa_cons (var_at G hvT p15) pa_nil rfl) (by decide) (by decide) rfl rfl) (pe_int (i := 1) (j := k2) (pos := p17)) rfl)
    (pw_or1 (pos := p24) (pt_not (pos := p23) (pt_val (pe_callB (X := Z0 X a oe pn) (p := p19) (pos := p22) (call_isE (X := X) (a := a) (pn := pn) C' hzc hf) i1 i2 PyProof.Rows.boot_isinstance (pa_cons (var_at G hvE p20) (pa_cons (pe_bltn (X := Z0 X a oe pn) (pos := p21) (v := .ty "ValueError") v1 v2 (by decide +kernel) rfl (by decide) (by decide)) pa_nil rfl) rfl) (by decide) (by decide) rfl rfl)))))
  have S4 := ps_if (X := Z0 X a oe pn) (pos := p25) T4.pt (pss_never (sts := body4)) pss_nil
  have S5 := ps_ret (X := Z0 X a oe pn) (pos := p34) (pe_lst (pos := p33) (pa_cons (pe_ix (pos := p31) ix_seq (var_at (a := a) (oe := oe) (pn := pn) G hvN p26) (pe_bm (apos := p28) (cpos := p30) PySem.F.plainAttrs_list PySem.F.slot_list_index PySem.F.type_list_index mt_index (var_at G hvT p27) (pa_cons (pe_bl (b := true) (j := k3) (pos := p29)) pa_nil rfl) rfl rfl line rfl rfl) (plainIx fun _ _ _ _ z => nomatch z)) (pa_cons (pe_non (j := k4) (pos := p32)) pa_nil rfl) rfl))
  refine PSs.imp (pss_cons S1 (pss_cons S2 (pss_cons S3 (pss_cons S4 (pss_one S5))))) fun D0 σ H ⟨hE, hT, hN, hO, fin⟩ => ?_
  simp only [List.nodup_cons, List.mem_cons, List.not_mem_nil, or_false, not_or] at dis
  obtain ⟨⟨d1, d2, d3⟩, ⟨d4, d5⟩, d6, _⟩ := dis
  have big : (100000 : Nat) ≤ sizeLine := by decide
  refine ⟨hE, by rw [List.length_map]; omega, fun q1 h1 => ?_⟩
  refine ⟨by rw [List.length_map]; omega, fun q2 h2 => ?_⟩
  have e1 : ∀ {v : Option V}, (σ.set iT v)[iE]? = some (some (.ref a)) := fun {v} => by rw [get_set (Ne.symm d1)]; exact hE
  have e2 : ∀ {v w : Option V}, ((σ.set iT v).set iN w)[iE]? = some (some (.ref a)) := fun {v w} => by rw [get_set (Ne.symm d2)]; exact e1
  refine ⟨.ref a, e2, by rw [List.length_map]; omega, fun q3 h3 => ?_⟩
  refine ⟨q3, _, _, false, rfl, upd_same, paired_ref row, by rw [G.K]; exact kit_row fun x hx => (hrow x hx).2, ?_⟩
  have fO : (((σ.set iT (some (.ref q1))).set iN (some (.ref q2))).set iO (some (.bl false)))[iO]? = some (some (.bl false)) := get_self (by simp; exact hO)
  have fE : (((σ.set iT (some (.ref q1))).set iN (some (.ref q2))).set iO (some (.bl false)))[iE]? = some (some (.ref a)) := by rw [get_set (Ne.symm d3)]; exact e2
  have fT : (((σ.set iT (some (.ref q1))).set iN (some (.ref q2))).set iO (some (.bl false)))[iT]? = some (some (.ref q1)) := by rw [get_set (Ne.symm d5), get_set (Ne.symm d4)]; exact get_self hT
  have fN : (((σ.set iT (some (.ref q1))).set iN (some (.ref q2))).set iO (some (.bl false)))[iN]? = some (some (.ref q2)) := by rw [get_set (Ne.symm d6)]; exact get_self (by simp; exact hN)
  have ee : (kits.map fun p => V.bl p.2) = (kits.map (·.2)).map V.bl := by rw [List.map_map]; rfl
  have g1 : (upd (upd (upd H q1 (.lst (kits.map fun p => V.bl p.2))) q2 (.lst (names.map V.str))) q3 (.tup (row.map fun x => V.ref (He.ga K x)))) q1 = some (.lst ((kits.map (·.2)).map V.bl)) := by
    rw [← ee]
    have a1 : (upd H q1 (.lst (kits.map fun p => V.bl p.2))) q1 = some (.lst (kits.map fun p => V.bl p.2)) := upd_same
    have a2 := (upd_ne (o := .lst (names.map V.str)) (ne_of_none a1 h2)).trans a1
    exact (upd_ne (ne_of_none a2 h3)).trans a2
  have g2 : (upd (upd (upd H q1 (.lst (kits.map fun p => V.bl p.2))) q2 (.lst (names.map V.str))) q3 (.tup (row.map fun x => V.ref (He.ga K x)))) q2 = some (.lst (names.map V.str)) := by
    have a1 : (upd (upd H q1 (.lst (kits.map fun p => V.bl p.2))) q2 (.lst (names.map V.str))) q2 = some (.lst (names.map V.str)) := upd_same
    exact (upd_ne (ne_of_none a1 h3)).trans a1
  refine ⟨.bl false, fO, false, rfl, ?_⟩
  dsimp only
  rw [if_neg Bool.false_ne_true]
  refine ⟨.ref q1, fT, q1, kits.map (·.2), rfl, SqL.of g1, by rw [List.length_map]; omega, ?_⟩
  refine ⟨.int 1, .int 1, [], [], false, by rw [one]; exact den_int _, den_int _, cmp_ne1, false, rfl, ?_⟩
  dsimp only
  rw [if_neg Bool.false_ne_true]
  refine ⟨.ref a, fE, .ty "ValueError", .type "ValueError", true, rfl, fun u ru => ru, by rw [G.K]; exact hve, true, rfl, ?_⟩
  dsimp only
  rw [if_neg (show ¬ ((!true) = true) from Bool.false_ne_true)]
  have jl : j < names.length := (List.getElem?_eq_some_iff.mp lab).1
  refine ⟨.ref q2, fN, .ref q1, fT, .inl ⟨rfl, _, SqL.of g1⟩, q1, _, .bl true, j, .bl true, rfl, rfl, SqL.of g1, rfl, ?_, ?_, rfl, ?_, ?_⟩
  · rw [List.all_eq_true]
    intro z hz
    obtain ⟨b, _, rfl⟩ := List.mem_map.mp hz
    rfl
  · rw [List.getElem?_map, fst]; rfl
  · intro m z hm hz'
    rw [List.getElem?_map, bef m hm] at hz'
    cases hz'
    rfl
  · refine .inl ⟨q2, names.map V.str, j, .str nm, rfl, rfl, SqL.of g2, atI_nat (by rw [List.getElem?_map, lab]; rfl), ?_⟩
    refine ⟨by show 2 ≤ sizeLine; omega, fun q4 h4 => ?_⟩
    have := fin q1 q2 q3 q4 h1 (by rw [← ee]; exact h2) (by rw [← ee]; exact h3) (by rw [← ee]; exact h4)
    rw [← ee] at this
    exact this
end
end MP
set_option linter.all false
set_option maxRecDepth 100000
set_option maxHeartbeats 8000000
/-! MiniPy: the def that tells an answer or an error's name keeps its promise. -/
namespace MP
open PySem PySem.Spec PyProof.Rows L2
def pTold (callI : Nat) (names : List PySem.Str) (rec : Nat → List D → MP.CR) (ds : List D) : MP.CR := match ds with
  | [.str what, .lst _ args] => match rec callI [.str what, .lst false (shrs args)] with
    | .ok r [] => .ok (.lst true [.str "", r]) []
    | .exc c [] => if names.contains c then .ok (.lst true [.str c, .non]) [] else .stk
    | _ => .stk
  | _ => .stk
/-- the try's body -/
def toldX (callI : Nat) : X := .lst (.cons (.k (.str "")) (.cons (.call callI (.lent 0 (.lent 1 .nil)) []) .nil))
theorem toldX_val {cl : Nat → List D → MP.CR} {callI : Nat} {what : Str} {o : Bool} {args : List D} {m : Nat} : (evX cl (toldX callI)).val (some (.str what) :: some (.lst o args) :: List.replicate m none) = match cl callI [.str what, .lst false (shrs args)] with
    | .ok r [] => .ok (.lst true [.str "", r]) (if own r then some (.str what) :: some (.lst o args) :: List.replicate m none else some (.str what) :: some (.lst false (shrs args)) :: List.replicate m none)
    | .exc c [] => .exc c (some (.str what) :: some (.lst o args) :: List.replicate m none)
    | _ => .stk := by
  simp only [toldX, evX, evs, mkE, evA, fK, noL, pln, R.bind]
  cases e : cl callI [.str what, .lst false (shrs args)] with
  | stk => simp [getv, okA, ioA, goneA, lentA, fillA, shr, callE, e]
  | ok r os =>
    cases os with
    | nil => cases hr : own r <;> simp [getv, okA, ioA, goneA, lentA, fillA, shr, callE, e, hr, owns, putAll, wipeE, MP.shrAll, lenOk, sizeLine_eq]
    | cons _ _ => simp [getv, okA, ioA, goneA, lentA, fillA, shr, callE, e]
  | exc c os =>
    cases os with
    | nil => simp [getv, okA, ioA, goneA, lentA, fillA, shr, callE, e, owns, putAll, wipeE]
    | cons _ _ => simp [getv, okA, ioA, goneA, lentA, fillA, shr, callE, e]

theorem pTold_shape {callI : Nat} {names : List PySem.Str} {rec : Nat → List D → MP.CR} {ds : List D} (h : pTold callI names rec ds ≠ .stk) : ∃ what o args, ds = [.str what, .lst o args] := by
  unfold pTold at h
  split at h
  · exact ⟨_, _, _, rfl⟩
  · exact absurd rfl h
/-- what the suite's look at an error must be: its name is told -/
structure LookOk (c : Ck) (K : PySem.W.Frag) (mg : Str → Option Value) (bs : Str) (one row : List Str) (nms : List Str) (d : Str) : Prop where
  exc : ExcC K (He.ga K d)
  exm : PySem.W.exmOne K (.ref (He.ga K d)) (.ref (He.ga K bs)) = some true
  ones : ∀ x ∈ one, mg x = some (.ref (He.ga K x)) ∧ PySem.W.kitOne K (.ref (He.ga K d)) (.ref (He.ga K x)) = some (decide (x = d))
  rows : ∀ x ∈ row, mg x = some (.ref (He.ga K x)) ∧ PySem.W.kitOne K (.ref (He.ga K d)) (.ref (He.ga K x)) = some false
  ve : PySem.W.kitOne K (.ref (He.ga K d)) (.type "ValueError") = some true
  at_ : one[one.idxOf d]? = some d
  cnt : cntB (one.map fun x => decide (x = d)) = 1
  lab : nms[one.idxOf d]? = some d
section
variable {P : Program} {w : World} {K : PySem.W.Frag} {mg : Str → Option Value} {base : Heap} {g : Gk} {cl : Nat → List D → MP.CR} {n callI : Nat} {errs names one row : List Str} {bs : Str}
theorem told_fn {d : DefR} {fa : Addr} {fdat : FuncData} {en tn nn on : Str} {iE iT iN iO : Nat} {es cs rs : List Expr} {body4 : List Stmt} {E : Expr} (B : Glob g P w K mg base n cl) (Fd : Fdef K mg d fa fdat) (hS : scOk d.N d.ps (defScope d.st) = true) (hps : d.ps.length = 2) (hio : d.io = [])
    {c : Ck} (hc : c = ⟨d.N, defScope d.st, none⟩) (hE : okX g (toldX callI) c E = true)
    (hvE : okV c en iE = true) (hlE : c.sc.names.lookup en = some .local) (hvT : okV c tn iT = true) (hvN : okV c nn iN = true) (hvO : okV c on iO = true) (lT : okL c tn iT = true) (lN : okL c nn iN = true) (lO : okL c on iO = true) (dis : [iE, iT, iN, iO].Nodup)
    (hes : isRow g c en one es = true) (hcs : stRow names cs = true) (hrs : clRow c row rs = true) (gb : glo c bs = true) (mb : mg bs = some (.ref (He.ga K bs)))
    (fI : okFree g c "isinstance" = true) (fS : okFree g c "sum" = true) (fV : okFree g c "ValueError" = true) (few : one.length ≤ 100000 ∧ names.length ≤ 100000 ∧ row.length ≤ 100000)
    (look : ∀ x, errs.contains x = true → LookOk c K mg bs one row names x)
    {p1 p2 p3 p4 p5 p6 p7 p8 p9 p10 p11 p12 p13 p14 p15 p16 p17 p18 p19 p20 p21 p22 p23 p24 p25 p26 p27 p28 p29 p30 p31 p32 p33 p34 q1 q2 q3 q4 : Pos} {k1 k2 k3 k4 : Nat} (line : (p28.endLine == p30.line) = true)
    (hst : defBody d.st = [.Try [.Return (some E) q1] [.ExceptHandler (some (.Name bs q2)) (some en) [.Assign [.Name tn p1] (.List es p2) p3, .Assign [.Name nn p4] (.List cs p5) p6, .Assign [.Name on p7] (.Call (.Name "isinstance" p8) [.Name en p9, .Tuple rs k1 p10] [] p11) p12,
      .If (.BoolOp .Or [.Name on p13, .Compare (.Call (.Name "sum" p14) [.Name tn p15] [] p16) [.NotEq] [.Constant (.int 1) k2 p17] p18, .UnaryOp .Not (.Call (.Name "isinstance" p19) [.Name en p20, .Name "ValueError" p21] [] p22) p23] p24) body4 [] p25,
      .Return (some (.List [.Subscript (.Name nn p26) (.Call (.Attribute (.Name tn p27) "index" p28) [.Constant (.bool true) k3 p29] [] p30) p31, .Constant .none k4 p32] p33)) p34] q3] [] [] q4]) :
    FnG P w K mg base (n + 1) fa fdat d.ps (spI K d.io (pTold callI errs cl)) := by
  have S := scOk_snd hS
  subst hc
  rw [hio]
  refine FnG.of Fd.fn S (fun vs H Q E ⟨ds, gg, d0, _, h⟩ => ?_) fun cdv A outer s H vs Q Ex room gd ⟨ds, gg, d0, c0, h⟩ => ?_
  · obtain ⟨what, o, args, rfl⟩ := pTold_shape (fun z => by rw [z] at h; exact h)
    rw [d0.length, hps]
    rfl
  · obtain ⟨what, o, args, rfl⟩ := pTold_shape (fun z => by rw [z] at h; exact h)
    have G : Good P w K mg base n (cxOf (L2N.CX P w) P w K mg base d.N d.name (defScope d.st) fa cdv A outer s H Ex) ⟨d.N, defScope d.st, none⟩ :=
      ⟨rfl, rfl, rfl, rfl, rfl, rfl, gd, room, rfl, S.nd, rfl, fun _ _ => rfl⟩
    have hvl : vs.length = 2 := by rw [d0.length]; rfl
    have hNl : 2 ≤ d.N.length := by
      have := congrArg List.length S.pre
      rw [List.length_take, hps] at this
      omega
    rw [hst]
    -- the frame
    have so0 : SOk K (frame0 H gg [] vs) (L2.start d.N vs) H (startE ⟨2, d.N.length, [], .nil⟩ [.str what, .lst o args]) [] := start_ok (fd := ⟨2, d.N.length, [], .nil⟩) d0 c0 rfl fun i hi => nomatch hi
    have slen : (L2.start d.N vs).length = d.N.length := by
      unfold L2.start
      rw [List.length_append, List.length_map, List.length_replicate]
      omega
    have at_len : ∀ {x : Str} {i : Nat}, okL ⟨d.N, defScope d.st, none⟩ x i = true → i < (L2.start d.N vs).length := fun {x i} hl => by
      unfold okL at hl
      simp only [Bool.and_eq_true, beq_iff_eq] at hl
      rw [slen]
      exact (List.getElem?_eq_some_iff.mp hl.1).1
    -- the try
    have hln : (cxOf (L2N.CX P w) P w K mg base d.N d.name (defScope d.st) fa cdv A outer s H Ex).env.kindOf en = some .local := hlE
    have hi : d.N[iE]? = some en := by
      unfold okV at hvE
      simp only [Bool.and_eq_true, beq_iff_eq] at hvE
      exact hvE.1.1.1
    have T := L2N.ps_try_as (X := cxOf (L2N.CX P w) P w K mg base d.N d.name (defScope d.st) fa cdv A outer s H Ex) (pos := q4) (np := q2) (pos' := q3) (i := iE) (n := en) (x := bs) (c := .ref (He.ga K bs)) (body := [.Return (some E) q1]) (Wout := fun cls d _ H => Ex cls d H)
      (tb := fun W => tRet (tX K (frame0 H gg [] vs) W (evX cl (toldX callI)).val)) (ts := fun a cls dd D0 σ H => ∃ x, errs.contains x = true ∧ cls = .ref (He.ga K x) ∧ dd = none ∧ tSuite iE iT iN iO a (one.map fun y => decide (y = x)) names (row.map fun y => V.ref (He.ga K y)) x D0 σ H)
      rfl rfl S.nd hi hln ⟨(glo_snd G gb).1, (glo_snd G gb).2, .inl mb⟩ (L2N.takes_of rfl rfl rfl rfl)
      (fun W pn xe tk pass => pss_one (ps_ret (okX_snd (F := frame0 H gg [] vs) B (toldX callI) (Y := (cxOf (L2N.CX P w) P w K mg base d.N d.name (defScope d.st) fa cdv A outer s H Ex).tr pn xe) ⟨rfl, rfl, rfl, rfl, rfl, rfl, gd, room, rfl, S.nd, rfl, fun _ _ => rfl⟩ tk hE).val))
      (fun a oe cls dd pn hz hf => ⟨fun pins st σ H D0 I ⟨x, hx, ec, ed, ht⟩ => by
        subst ec
        subst ed
        have L := look x hx
        have K1 : (one.map fun y => (y, decide (y = x))).map (·.1) = one := by rw [List.map_map]; exact List.map_id _
        have K2 : (one.map fun y => (y, decide (y = x))).map (·.2) = one.map fun y => decide (y = x) := by rw [List.map_map]; rfl
        have J := suite_pss (a := a) (oe := oe) (pn := pn) (kits := one.map fun y => (y, decide (y = x))) (row := row) (names := names) (j := one.idxOf x) (nm := x) (body4 := body4) (k1 := k1) (k2 := k2) (k3 := k3) (k4 := k4) (p1 := p1) (p2 := p2) (p3 := p3) (p4 := p4) (p5 := p5) (p6 := p6) (p7 := p7) (p8 := p8) (p9 := p9) (p10 := p10) (p11 := p11) (p12 := p12) (p13 := p13) (p14 := p14) (p15 := p15) (p16 := p16) (p17 := p17) (p18 := p18) (p19 := p19) (p20 := p20) (p21 := p21) (p22 := p22) (p23 := p23) (p24 := p24) (p25 := p25) (p26 := p26) (p27 := p27) (p29 := p29) (p31 := p31) (p32 := p32) (p33 := p33) (p34 := p34)
          B G L.exc hz hf hvE hvT hvN hvO lT lN lO dis (by rw [K1]; exact hes) (fun p hp => by obtain ⟨y, hy, rfl⟩ := List.mem_map.mp hp; exact L.ones y hy) hcs hrs L.rows L.ve fI fS fV (by rw [K2]; exact L.cnt) (by rw [K2, List.getElem?_map, L.at_]; simp) (fun m hm => ?_) L.lab ⟨by rw [List.length_map]; exact few.1, few.2.1, few.2.2⟩ line
        · rw [K2] at J
          exact J.run pins st σ H D0 I ht
        · rw [K2, List.getElem?_map]
          have hl : m < one.length := Nat.lt_trans hm (List.getElem?_eq_some_iff.mp L.at_).1
          rw [List.getElem?_eq_getElem hl]
          have := List.not_of_lt_findIdx (p := (· == x)) hm
          simpa using this⟩)
    refine ⟨_, pss_one T, startE ⟨2, d.N.length, [], .nil⟩ [.str what, .lst o args], [], so0, ?_⟩
    have ev : startE ⟨2, d.N.length, [], .nil⟩ [.str what, .lst o args] = some (.str what) :: some (.lst o args) :: List.replicate (d.N.length - 2) none := rfl
    rw [ev, toldX_val]
    simp only [pTold] at h
    cases er : cl callI [.str what, .lst false (shrs args)] with
    | stk => rw [er] at h; exact h.elim
    | ok r os =>
      rw [er] at h
      cases os with
      | cons _ _ => exact h.elim
      | nil => exact fun v H' so => h.2 v H' (post_of (io := []) (vs := vs) (us := [v]) d0 so rfl)
    | exc cx os =>
      rw [er] at h
      cases os with
      | cons _ _ => exact h.elim
      | nil =>
        dsimp only at h
        cases hx : errs.contains cx with
        | false => rw [hx] at h; exact h.elim
        | true =>
          rw [hx, if_pos rfl] at h
          have L := look cx hx
          intro H' so
          refine ⟨true, L.exm, fun _ a na => ⟨cx, hx, rfl, rfl, ?_⟩, fun z => nomatch z⟩
          have hEl : iE < (L2.start d.N vs).length := by rw [slen]; exact (List.getElem?_eq_some_iff.mp hi).1
          refine ⟨get_self hEl, by rw [List.length_set]; exact at_len lT, by rw [List.length_set]; exact at_len lN, by rw [List.length_set]; exact at_len lO, fun r1 r2 r3 r4 e1 e2 e3 e4 => ?_⟩
          have so3 := ((so.extN (o := .lst ((one.map fun y => decide (y = cx)).map V.bl)) e1).extN (o := .lst (names.map V.str)) e2).extN (o := .tup (row.map fun y => V.ref (He.ga K y))) e3
          have so4 := SOk.newL (ds := [.str cx, .non]) (vs := [.str cx, .non]) (hs := []) ((so3.atom den_non).atom (den_str cx)) rfl e4
          exact h.2 (.ref r4) _ (post_of (io := []) (vs := vs) (us := [.ref r4]) d0 so4 rfl)
end
theorem look_of {c : Ck} {K : PySem.W.Frag} {mg : Str → Option Value} {e : ErrD} {one nms : List Str} (he : e.ok K = true) (h1 : e.one = one.map fun x => (x, decide (x = e.d))) (hm1 : ∀ x ∈ one, mg x = some (.ref (He.ga K x))) (hm2 : ∀ x ∈ e.row, mg x = some (.ref (He.ga K x))) (hv : e.ve = true)
    (at_ : one[one.idxOf e.d]? = some e.d) (cnt : cntB (one.map fun x => decide (x = e.d)) = 1) (lab : nms[one.idxOf e.d]? = some e.d) : LookOk c K mg e.base one e.row nms e.d := by
  unfold ErrD.ok at he
  simp only [Bool.and_eq_true, decide_eq_true_eq, List.all_eq_true] at he
  obtain ⟨k1, k2, k3, k4, k5⟩ := he
  refine ⟨excB_ok k1, k2, fun x hx => ⟨hm1 x hx, ?_⟩, fun x hx => ⟨hm2 x hx, ?_⟩, hv ▸ k5, at_, cnt, lab⟩
  · have := k3 (x, decide (x = e.d)) (by rw [h1]; exact List.mem_map.mpr ⟨x, hx, rfl⟩)
    unfold kitB at this
    exact of_decide_eq_true this
  · have := k4 x hx
    unfold kitB at this
    exact of_decide_eq_true this
end MP
set_option linter.all false
set_option maxRecDepth 100000
set_option maxHeartbeats 8000000
/-! MiniPy: the def that writes into every list of an answer. -/
namespace MP
open PySem PySem.Spec PyProof.Rows L2
section
variable {g : Gk} {P : Program} {w : World} {K : PySem.W.Frag} {mg : Str → Option Value} {base : Heap} {n : Nat} {cl : Nat → List D → MP.CR} {Y : Cx} {c : Ck}
/-- a name's slot and its place in the text -/
theorem okX_args1 {e : Expr} {t : TE} (h : PE Y e t) (hn : ∀ z p, e ≠ .Starred z p) : PA Y [e] (tCons t tNil) := pa_cons h pa_nil (star_plain hn)
/-- the first loop's body -/
theorem spoil_b1 (G : Good P w K mg base n Y c) {lf : Str} {iL : Nat} (hL : okV c lf iL = true) {p1 p2 p3 p4 : Pos} : PS Y (.If (.UnaryOp .Not (.Name lf p1) p2) [.Break p3] [] p4) (tIfS (tNot (fun σ H Q => tVar iL σ H fun x H' => ∃ k, TruV Y.K x H' k ∧ Q k H')) tBreak tNext) :=
  ps_if (pt_not (pt_truth (okV_snd G hL p1) fun _ => rfl)) (pss_one ps_break) pss_nil
theorem spoil_b2 (G : Good P w K mg base n Y c) {lf pt : Str} {iL iP : Nat} (hL : okV c lf iL = true) (lP : okL c pt iP = true) {p1 p2 p3 p4 p5 : Pos} (line : (p2.endLine == p3.line) = true) :
    PS Y (.Assign [.Name pt p4] (.Call (.Attribute (.Name lf p1) "pop" p2) [] [] p3) p5) (tAsg (tBM0 Y.K "list" rPop (tVar iL)) (gName iP)) := by
  obtain ⟨nd, t1, t2, t3⟩ := okL_loc G lP
  exact ps_set nd t1 t2 (pe_bm0 (cpos := p3) PySem.F.plainAttrs_list PySem.F.slot_list_pop PySem.F.type_list_pop mt_pop (okV_snd G hL p1) rfl line) rfl t3
theorem spoil_b3 (B : Glob g P w K mg base n cl) (G : Good P w K mg base n Y c) {lf pt : Str} {iL iP : Nat} (hL : okV c lf iL = true) (hP : okV c pt iP = true) (fI : okFree g c "isinstance" = true) (fL : okFree g c "list" = true) (fT : okFree g c "tuple" = true) {p1 p2 p3 p4 p5 p6 p7 p8 p9 p10 p11 p12 p13 p14 : Pos} {k : Nat} (line : (p9.endLine == p12.line) = true) :
    PS Y (.If (.Call (.Name "isinstance" p1) [.Name pt p2, .Tuple [.Name "list" p3, .Name "tuple" p4] k p5] [] p6) [.Expr (.Call (.Attribute (.Name lf p8) "extend" p9) [.Call (.Name "list" p10) [.Name pt p11] [] p13] [] p12) p7] [] p14)
      (tIfS (tB (tCB (rIsiT Y.K) (tCons (tVar iP) (tCons (tTup (tTys [.list, .tuple])) tNil)))) (tDrop (tBM Y.K "list" rExtend (tVar iL) (tCons (tCB (fun xs H Q => ∃ p ys, xs = [.ref p] ∧ (SqL Y.K H p ys ∨ SqT Y.K H p ys) ∧ ∀ l, H l = none → Q (.ref l) (upd H l (.lst ys))) (tCons (tVar iP) tNil)) tNil))) tNext) := by
  obtain ⟨i1, i2⟩ := free_snd B G fI
  obtain ⟨l1, l2⟩ := free_snd B G fL
  obtain ⟨t1, t2⟩ := free_snd B G fT
  have TP : PE Y (.Tuple [.Name "list" p3, .Name "tuple" p4] k p5) (tTup (tTys [.list, .tuple])) := pe_tup (pxt_cons (t := .list) (fun _ z => nomatch z) l1 l2 (pxt_cons (t := .tuple) (fun _ z => nomatch z) t1 t2 pxt_nil))
  have C1 := pe_callB (X := Y) (p := p1) (pos := p6) (call_isiT (X := Y)) i1 i2 PyProof.Rows.boot_isinstance (pa_cons (okV_snd G hP p2) (okX_args1 TP fun _ _ z => nomatch z) rfl) (by decide) (by decide) rfl rfl
  have L1 : PE Y (.Call (.Name "list" p10) [.Name pt p11] [] p13) _ := pe_callTy (X := Y) call_list_of l1 l2 PyProof.Rows.boot_list (okX_args1 (okV_snd G hP p11) fun _ _ z => nomatch z) (by decide) (by decide) rfl rfl
  exact ps_if (pt_val C1) (pss_one (ps_expr (pe_bm (cpos := p12) PySem.F.plainAttrs_list PySem.F.slot_list_extend PySem.F.type_list_extend mt_extend (okV_snd G hL p8) (okX_args1 L1 fun _ _ z => nomatch z) rfl rfl line rfl rfl) rfl)) pss_nil

theorem spoil_b4 (B : Glob g P w K mg base n cl) (G : Good P w K mg base n Y c) {ff pt : Str} {iF iP : Nat} (hF : okV c ff iF = true) (hP : okV c pt iP = true) (fI : okFree g c "isinstance" = true) (fL : okFree g c "list" = true) (fN : okFree g c "len" = true) {p1 p2 p3 p4 p5 p6 p7 p8 p9 p10 p11 p12 p13 p14 : Pos} {k : Nat} (line : (p6.endLine == p7.line) = true) :
    PS Y (.If (.Call (.Name "isinstance" p1) [.Name pt p2, .Name "list" p3] [] p4) [.Expr (.Call (.Attribute (.Name ff p5) "append" p6) [.Tuple [.Name pt p8, .Call (.Name "len" p9) [.Name pt p10] [] p11] k p12] [] p7) p13] [] p14)
      (tIfS (tB (tCB (rIsi Y.K) (tCons (tVar iP) (tCons (tC (.ty "list")) tNil)))) (tDrop (tBM Y.K "list" rAppend (tVar iF) (tCons (tTup (tCons (tVar iP) (tCons (tCB (fun xs H Q => ∃ x n, xs = [x] ∧ LenV Y.K x H n ∧ Q (.int n) H) (tCons (tVar iP) tNil)) tNil))) tNil))) tNext) := by
  obtain ⟨i1, i2⟩ := free_snd B G fI
  obtain ⟨l1, l2⟩ := free_snd B G fL
  obtain ⟨n1, n2⟩ := free_snd B G fN
  have C1 := pe_callB (X := Y) (p := p1) (pos := p4) (call_isi (X := Y)) i1 i2 PyProof.Rows.boot_isinstance (pa_cons (okV_snd G hP p2) (okX_args1 (pe_ty (t := .list) (p := p3) (fun _ z => nomatch z) l1 l2) fun _ _ z => nomatch z) rfl) (by decide) (by decide) rfl rfl
  have N1 := pe_callB (X := Y) (p := p9) (pos := p11) (call_len (X := Y)) n1 n2 PySem.boot_len (okX_args1 (okV_snd G hP p10) fun _ _ z => nomatch z) (by decide) (by decide) rfl rfl
  have T1 : PE Y (.Tuple [.Name pt p8, .Call (.Name "len" p9) [.Name pt p10] [] p11] k p12) _ := pe_tup (pa_cons (okV_snd G hP p8) (okX_args1 N1 fun _ _ z => nomatch z) rfl)
  exact ps_if (pt_val C1) (pss_one (ps_expr (pe_bm (cpos := p7) PySem.F.plainAttrs_list PySem.F.slot_list_append PySem.F.type_list_append mt_append (okV_snd G hF p5) (okX_args1 T1 fun _ _ z => nomatch z) rfl rfl line rfl rfl) rfl)) pss_nil
/-- the second loop's body -/
theorem spoil_b5 (G : Good P w K mg base n Y c) {pt : Str} {iP : Nat} (hP : okV c pt iP = true) {p1 p2 p3 p4 p5 : Pos} {k : Nat} (line : (p2.endLine == p4.line) = true) :
    PS Y (.Expr (.Call (.Attribute (.Name pt p1) "append" p2) [.Constant (.int 7) k p3] [] p4) p5) (tDrop (tBM Y.K "list" rAppend (tVar iP) (tCons (tC (.int 7)) tNil))) :=
  ps_expr (pe_bm (cpos := p4) PySem.F.plainAttrs_list PySem.F.slot_list_append PySem.F.type_list_append mt_append (okV_snd G hP p1) (okX_args1 (pe_int (i := 7) (j := k) (pos := p3)) fun _ _ z => nomatch z) rfl rfl line rfl rfl) rfl
/-- the comprehension's item -/
theorem spoil_e (B : Glob g P w K mg base n cl) (G : Good P w K mg base n Y c) {pt mt : Str} {iP iM : Nat} (hP : okV c pt iP = true) (hM : okV c mt iM = true) (fN : okFree g c "len" = true) {p1 p2 p3 p4 p5 p6 p7 : Pos} {k : Nat} :
    PE Y (.Compare (.Call (.Name "len" p1) [.Name pt p2] [] p3) [.Eq] [.BinOp (.Name mt p4) .Add (.Constant (.int 1) k p5) p6] p7) (tOp (rCm Y.K .eq) (tCB (fun xs H Q => ∃ x n, xs = [x] ∧ LenV Y.K x H n ∧ Q (.int n) H) (tCons (tVar iP) tNil)) (tOp rAdd (tVar iM) (tC (.int 1)))) := by
  obtain ⟨n1, n2⟩ := free_snd B G fN
  have hu : Y.A.units + 64 < cLine := by have := G.room.un; omega
  have N1 := pe_callB (X := Y) (p := p1) (pos := p3) (call_len (X := Y)) n1 n2 PySem.boot_len (okX_args1 (okV_snd G hP p2) fun _ _ z => nomatch z) (by decide) (by decide) rfl rfl
  exact pe_cmpR (pos := p7) (opr_cmp hu .eq) N1 (pe_op op_add (okV_snd G hM p4) (pe_int (i := 1) (j := k) (pos := p5))) rfl

abbrev rLenV (K : PySem.W.Frag) : List V → Hp → VK → Prop := fun xs H Q => ∃ x n, xs = [x] ∧ LenV K x H n ∧ Q (.int n) H
abbrev tB1 (K : PySem.W.Frag) (iL : Nat) : TS := tIfS (tNot (fun σ H Q => tVar iL σ H fun x H' => ∃ k, TruV K x H' k ∧ Q k H')) tBreak tNext
abbrev tB2 (K : PySem.W.Frag) (iL iP : Nat) : TS := tAsg (tBM0 K "list" rPop (tVar iL)) (gName iP)
abbrev tB3 (K : PySem.W.Frag) (iL iP : Nat) : TS := tIfS (tB (tCB (rIsiT K) (tCons (tVar iP) (tCons (tTup (tTys [.list, .tuple])) tNil)))) (tDrop (tBM K "list" rExtend (tVar iL) (tCons (tCB (fun xs H Q => ∃ p ys, xs = [.ref p] ∧ (SqL K H p ys ∨ SqT K H p ys) ∧ ∀ l, H l = none → Q (.ref l) (upd H l (.lst ys))) (tCons (tVar iP) tNil)) tNil))) tNext
abbrev tB4 (K : PySem.W.Frag) (iF iP : Nat) : TS := tIfS (tB (tCB (rIsi K) (tCons (tVar iP) (tCons (tC (.ty "list")) tNil)))) (tDrop (tBM K "list" rAppend (tVar iF) (tCons (tTup (tCons (tVar iP) (tCons (tCB (rLenV K) (tCons (tVar iP) tNil)) tNil))) tNil))) tNext
abbrev gPair (K : PySem.W.Frag) (iP iM : Nat) : TG := gTup K 2 (gCons (gName iP) (gCons (gName iM) gNil))
abbrev tB5 (K : PySem.W.Frag) (iP : Nat) : TS := tDrop (tBM K "list" rAppend (tVar iP) (tCons (tC (.int 7)) tNil))
abbrev tEl (K : PySem.W.Frag) (iP iM : Nat) : TE := tOp (rCm K .eq) (tCB (rLenV K) (tCons (tVar iP) tNil)) (tOp rAdd (tVar iM) (tC (.int 1)))
abbrev tSpoil (K : PySem.W.Frag) (iH iF iL iT iP iM : Nat) : TS := tSeq (tAsg (tLst tNil) (gName iF)) (tSeq (tAsg (tLst (tCons (tVar iH) tNil)) (gName iL)) (tSeq (tFor (iRng1 (tCons (tC (.int 50000)) tNil)) (gName iT) (tSeq (tB1 K iL) (tSeq (tB2 K iL iP) (tSeq (tB3 K iL iP) (tB4 K iF iP)))))
  (tSeq (tFor (iList K (tVar iF)) (gPair K iP iM) (tB5 K iP)) (tRet (tCB (rAll K) (tCons (tLc (iList K (tVar iF)) (gPair K iP iM) tYes (tEl K iP iM) [iP, iM]) tNil))))))
theorem spoil_pss (B : Glob g P w K mg base n cl) (G : Good P w K mg base n Y c) (dk : DefOk Y c) {th ff lf tu pt mt : Str} {iH iF iL iT iP iM : Nat} (hH : okV c th iH = true) (hF : okV c ff iF = true) (hL : okV c lf iL = true) (hP : okV c pt iP = true) (lF : okL c ff iF = true) (lL : okL c lf iL = true) (lT : okL c tu iT = true) (lP : okL c pt iP = true) (lM : okL c mt iM = true)
    {scope : Scope} (hb : okBlk c scope [(pt, iP), (mt, iM)] = true) (bP : okV (blkC c scope) pt iP = true) (bM : okV (blkC c scope) mt iM = true) (blP : okL (blkC c scope) pt iP = true) (blM : okL (blkC c scope) mt iM = true) (bN : okFree g (blkC c scope) "len" = true)
    (fI : okFree g c "isinstance" = true) (fL : okFree g c "list" = true) (fT : okFree g c "tuple" = true) (fN : okFree g c "len" = true) (fR : okFree g c "range" = true) (fA : okFree g c "all" = true)
    {p1 p2 p3 p4 p5 p6 p7 p8 p9 p10 p11 p12 p13 p14 p15 p16 p17 p18 p19 p20 p21 p22 p23 p24 p25 p26 p27 p28 p29 p30 p31 p32 p33 p34 p35 p36 p37 p38 p39 p40 p41 p42 p43 p44 p45 p46 p47 p48 p49 p50 p51 p52 p53 p54 p55 p56 p57 p58 p59 p60 p61 p62 p63 p64 p65 p66 p67 p68 p69 p70 p71 p72 p73 p74 : Pos} {k1 k2 k3 k4 k5 k6 k7 k8 : Nat}
    (n1 : (p17.endLine == p18.line) = true) (n2 : (p28.endLine == p31.line) = true) (n3 : (p38.endLine == p39.line) = true) (n4 : (p51.endLine == p53.line) = true) :
    PSs Y [.Assign [.Name ff p1] (.List [] p2) p3, .Assign [.Name lf p4] (.List [.Name th p5] p6) p7,
      .For (.Name tu p8) (.Call (.Name "range" p9) [.Constant (.int 50000) k1 p10] [] p11) [.If (.UnaryOp .Not (.Name lf p12) p13) [.Break p14] [] p15, .Assign [.Name pt p19] (.Call (.Attribute (.Name lf p16) "pop" p17) [] [] p18) p20,
        .If (.Call (.Name "isinstance" p21) [.Name pt p22, .Tuple [.Name "list" p23, .Name "tuple" p24] k2 p25] [] p26) [.Expr (.Call (.Attribute (.Name lf p27) "extend" p28) [.Call (.Name "list" p29) [.Name pt p30] [] p32] [] p31) p33] [] p34,
        .If (.Call (.Name "isinstance" p35) [.Name pt p36, .Name "list" p37] [] p40) [.Expr (.Call (.Attribute (.Name ff p41) "append" p38) [.Tuple [.Name pt p42, .Call (.Name "len" p43) [.Name pt p44] [] p45] k3 p46] [] p39) p47] [] p48] [] p49,
      .For (.Tuple [.Name pt p50, .Name mt p54] k4 p55) (.Name ff p56) [.Expr (.Call (.Attribute (.Name pt p52) "append" p51) [.Constant (.int 7) k5 p57] [] p53) p58] [] p59,
      .Return (some (.Call (.Name "all" p60) [.ListComp (.Compare (.Call (.Name "len" p61) [.Name pt p62] [] p63) [.Eq] [.BinOp (.Name mt p64) .Add (.Constant (.int 1) k6 p65) p66] p67) [⟨.Tuple [.Name pt p68, .Name mt p69] k7 p70, .Name ff p71, [], 0⟩] scope p72] [] p73)) p74] (tSpoil Y.K iH iF iL iT iP iM) := by
  obtain ⟨r1, r2⟩ := free_snd B G fR
  obtain ⟨a1, a2⟩ := free_snd B G fA
  obtain ⟨nd, f1, f2, f3⟩ := okL_loc G lF
  obtain ⟨_, l1, l2, l3⟩ := okL_loc G lL
  have pair : PG Y (.Tuple [.Name pt p50, .Name mt p54] k4 p55) (gPair Y.K iP iM) := pg_tup G.calm (pgs_cons (okL_snd G lP p50) (pgs_cons (okL_snd G lM p54) pgs_nil rfl) rfl) rfl rfl
  have S1 := ps_set (pos' := p1) (pos := p3) nd f1 f2 (pe_lst (pos := p2) (pa_nil (X := Y))) rfl f3
  have S2 := ps_set (pos' := p4) (pos := p7) nd l1 l2 (pe_lst (pos := p6) (okX_args1 (okV_snd G hH p5) fun _ _ z => nomatch z)) rfl l3
  have S3 := ps_for (pos := p49) dk.pass G.calm (pi_range1 (X := Y) (p := p9) (pos := p11) r1 r2 (okX_args1 (pe_int (i := 50000) (j := k1) (pos := p10)) fun _ _ z => nomatch z) rfl) (okL_snd G lT p8)
    (pss_cons (spoil_b1 G hL (p1 := p12) (p2 := p13) (p3 := p14) (p4 := p15)) (pss_cons (spoil_b2 G hL lP (p1 := p16) (p4 := p19) (p5 := p20) n1) (pss_cons (spoil_b3 B G hL hP fI fL fT (p1 := p21) (p2 := p22) (p3 := p23) (p4 := p24) (p5 := p25) (p6 := p26) (p7 := p33) (p8 := p27) (p10 := p29) (p11 := p30) (p13 := p32) (p14 := p34) (k := k2) n2) (pss_one (spoil_b4 B G hF hP fI fL fN (p1 := p35) (p2 := p36) (p3 := p37) (p4 := p40) (p5 := p41) (p8 := p42) (p9 := p43) (p10 := p44) (p11 := p45) (p12 := p46) (p13 := p47) (p14 := p48) (k := k3) n3))))) (fun _ => rfl)
  have S4 := ps_for (pos := p59) dk.pass G.calm (pi_list (okV_snd G hF p56)) pair (pss_one (spoil_b5 G hP (p1 := p52) (p3 := p57) (p5 := p58) (k := k5) n4)) (fun _ => rfl)
  have bk := okBlk_snd G hb
  have L5 := pe_lc (X := Y) (pos := p72) (te := tEl Y.K iP iM) (g := gPair Y.K iP iM) (tt := tYes) (elt := .Compare (.Call (.Name "len" p61) [.Name pt p62] [] p63) [.Eq] [.BinOp (.Name mt p64) .Add (.Constant (.int 1) k6 p65) p66] p67) G.calm nd (pi_list (tg := .Tuple [.Name pt p68, .Name mt p69] k7 p70) (okV_snd G hF p71)) bk
    (fun s H C cs fp => pg_tup (k := k7) (pos := p70) (G.inBlk scope s H C cs fp).calm (pgs_cons (okL_snd (G.inBlk scope s H C cs fp) blP p68) (pgs_cons (okL_snd (G.inBlk scope s H C cs fp) blM p69) pgs_nil rfl) rfl) rfl rfl)
    (fun s H C cs fp => pts_nil) (fun s H C cs fp => spoil_e B (G.inBlk scope s H C cs fp) bP bM bN) (fun _ => rfl)
  have S5 := ps_ret (pos := p74) (pe_callB (X := Y) (p := p60) (pos := p73) (cr_all G.calm) a1 a2 (by decide +kernel) (okX_args1 L5 fun _ _ z => nomatch z) (by decide) (by decide) rfl rfl)
  exact pss_cons S1 (pss_cons S2 (pss_cons S3 (pss_cons S4 (pss_one S5))))
end
end MP
set_option linter.all false
set_option maxRecDepth 100000
set_option maxHeartbeats 8000000
/-! MiniPy: what the def that writes does to the heap. -/
namespace MP
open PySem PySem.Spec PyProof.Rows L2
mutual
def tot : D → Nat
  | .lst _ xs => 1 + tots xs
  | .tup xs => 1 + tots xs
  | _ => 1
def tots : List D → Nat
  | [] => 0
  | x :: xs => tot x + tots xs
end
theorem tots_append : ∀ a b : List D, tots (a ++ b) = tots a + tots b
  | [], b => by simp [tots]
  | x :: a, b => by simp only [List.cons_append, tots, tots_append a b]; omega
theorem tot_pos : ∀ d : D, 1 ≤ tot d
  | .lst _ _ => by simp only [tot]; omega
  | .tup _ => by simp only [tot]; omega
  | .non => Nat.le_refl _ | .bl _ => Nat.le_refl _ | .int _ => Nat.le_refl _ | .str _ => Nat.le_refl _ | .exc _ => Nat.le_refl _ | .scr _ => Nat.le_refl _
theorem tots_len : ∀ ds : List D, ds.length ≤ tots ds
  | [] => Nat.le_refl _
  | d :: ds => by
    have h1 := tot_pos d
    have h2 := tots_len ds
    simp only [tots, List.length_cons]
    omega
abbrev Q3 := Addr × List V × Addr
/-- the first loop's state -/
structure SpJ (K : PySem.W.Frag) (H0 : Hp) (g0 : G) (M : Nat) (l f : Addr) (lds : List D) (lv : List V) (qs : List Q3) (H : Hp) : Prop where
  base : ∀ b o, H0 b = some o → H b = some o
  hl : H l = some (.lst lv)
  hf : H f = some (.lst (qs.map fun q => V.ref q.2.2))
  nl : H0 l = none
  nf : H0 f = none
  ne : l ≠ f
  den : ∃ gl, DenL K H0 lds lv gl ∧ (∀ p ∈ gl, p ∈ g0 ∧ p.2 = true) ∧ (qs.map (·.1) ++ gl.map (·.1)).Nodup
  tup : ∀ q ∈ qs, H q.2.2 = some (.tup [.ref q.1, .int (q.2.1.length : Int)]) ∧ H0 q.2.2 = none
  old : ∀ q ∈ qs, H0 q.1 = some (.lst q.2.1) ∧ (q.1, true) ∈ g0
  pl : plns lds = true
  sz : tots lds + qs.length ≤ M
  few : ∀ q ∈ qs, q.2.1.length ≤ M
section
variable {K : PySem.W.Frag} {H0 H : Hp} {g0 : G} {M : Nat} {l f : Addr} {lds : List D} {lv : List V} {qs : List Q3}
/-- a new object beside it -/
theorem SpJ.new {p : Addr} {o : HO} (J : SpJ K H0 g0 M l f lds lv qs H) (h : H p = none) : SpJ K H0 g0 M l f lds lv qs (upd H p o) := by
  have k : ∀ {b : Addr} {u : HO}, H b = some u → (upd H p o) b = some u := fun e => (upd_ne (ne_of_none e h)).trans e
  exact ⟨fun b u e => k (J.base b u e), k J.hl, k J.hf, J.nl, J.nf, J.ne, J.den, fun q hq => ⟨k (J.tup q hq).1, (J.tup q hq).2⟩, J.old, J.pl, J.sz, J.few⟩
theorem plns_append : ∀ a b : List D, plns (a ++ b) = (plns a && plns b)
  | [], b => by simp [plns]
  | x :: a, b => by simp only [List.cons_append, plns, plns_append a b, Bool.and_assoc]
/-- left's list rewritten -/
theorem SpJ.left {lds' : List D} {lv' : List V} {gl' : G} (J : SpJ K H0 g0 M l f lds lv qs H) (d : DenL K H0 lds' lv' gl') (h1 : ∀ p ∈ gl', p ∈ g0 ∧ p.2 = true) (h2 : (qs.map (·.1) ++ gl'.map (·.1)).Nodup) (pl : plns lds' = true) (sz : tots lds' + qs.length ≤ M) :
    SpJ K H0 g0 M l f lds' lv' qs (upd H l (.lst lv')) := by
  refine ⟨fun b u e => ?_, upd_same, ?_, J.nl, J.nf, J.ne, ⟨gl', d, h1, h2⟩, fun q hq => ⟨?_, (J.tup q hq).2⟩, J.old, pl, sz, J.few⟩
  · rw [upd_ne (fun z => by rw [z, J.nl] at e; cases e)]; exact J.base b u e
  · rw [upd_ne (Ne.symm J.ne)]; exact J.hf
  · rw [upd_ne (fun z => by have := (J.tup q hq).1; rw [z, J.hl] at this; cases this)]; exact (J.tup q hq).1

/-- found grows -/
theorem SpJ.grow {p T : Addr} {xs : List V} (J : SpJ K H0 g0 M l f lds lv qs H) (hT : H T = some (.tup [.ref p, .int (xs.length : Int)])) (hT0 : H0 T = none) (old : H0 p = some (.lst xs) ∧ (p, true) ∈ g0) (fr : ∃ gl, DenL K H0 lds lv gl ∧ (∀ q ∈ gl, q ∈ g0 ∧ q.2 = true) ∧ ((qs.map (·.1) ++ [p]) ++ gl.map (·.1)).Nodup) (sz : tots lds + (qs.length + 1) ≤ M) (few : xs.length ≤ M) :
    SpJ K H0 g0 M l f lds lv (qs ++ [(p, xs, T)]) (upd H f (.lst (qs.map (fun q => V.ref q.2.2) ++ [.ref T]))) := by
  refine ⟨fun b u e => ?_, ?_, ?_, J.nl, J.nf, J.ne, ?_, fun q hq => ?_, fun q hq => ?_, J.pl, by simpa using sz, fun q hq => ?_⟩
  · rw [upd_ne (fun z => by rw [z, J.nf] at e; cases e)]; exact J.base b u e
  · rw [upd_ne J.ne]; exact J.hl
  · rw [upd_same, List.map_append]; rfl
  · obtain ⟨gl, a, b, c⟩ := fr
    exact ⟨gl, a, b, by rw [List.map_append]; exact c⟩
  · have keep : ∀ {b : Addr} {x y : V}, H b = some (.tup [x, y]) → (upd H f (.lst (qs.map (fun q => V.ref q.2.2) ++ [.ref T]))) b = some (.tup [x, y]) := fun {b x y} e => by
      rw [upd_ne (fun z => by rw [z, J.hf] at e; cases e)]; exact e
    rcases List.mem_append.mp hq with hq | hq
    · exact ⟨keep (J.tup q hq).1, (J.tup q hq).2⟩
    · rw [List.mem_singleton.mp hq]
      exact ⟨keep hT, hT0⟩
  · rcases List.mem_append.mp hq with hq | hq
    · exact J.old q hq
    · rw [List.mem_singleton.mp hq]
      exact old
  · rcases List.mem_append.mp hq with hq | hq
    · exact J.few q hq
    · rw [List.mem_singleton.mp hq]
      exact few
/-- the frame's slots -/
structure SpS (l f : Addr) (σ : L2.St) : Prop where
  len : σ.length = 6
  f : σ[1]? = some (some (.ref f))
  l : σ[2]? = some (some (.ref l))
theorem SpS.set {σ : L2.St} (h : SpS l f σ) {i : Nat} {v : Option V} (h1 : i ≠ 1) (h2 : i ≠ 2) : SpS l f (σ.set i v) := ⟨by rw [List.length_set]; exact h.len, by rw [get_set h1]; exact h.f, by rw [get_set h2]; exact h.l⟩

theorem SpJ.at_ {d : D} {v : V} {gg : G} (J : SpJ K H0 g0 M l f lds lv qs H) (h : Den K H0 d v gg) : Den K H d v gg := h.ext (S := fun _ => False) ⟨fun b o e _ => J.base b o e, fun _ z => z.elim⟩ fun _ _ z => z
theorem SpJ.atL {ds : List D} {vs : List V} {gg : G} (J : SpJ K H0 g0 M l f lds lv qs H) (h : DenL K H0 ds vs gg) : DenL K H ds vs gg := h.ext (S := fun _ => False) ⟨fun b o e _ => J.base b o e, fun _ z => z.elim⟩ fun _ _ z => z
/-- the look at the part's type -/
theorem isi2_read {d : D} {v : V} {gg : G} {σ : L2.St} {Q : Bool → Hp → Prop} (hd : Den K H d v gg) (he : isExc d = false) (h4 : σ[4]? = some (some v)) (q : ∀ p o, H p = none → Q (isiD [.list, .tuple] d) (upd H p o)) : tB (tCB (rIsiT K) (tCons (tVar 4) (tCons (tTup (tTys [.list, .tuple])) tNil))) σ H Q := by
  have big : (2 : Nat) ≤ sizeLine := by decide
  refine ⟨v, h4, big, fun p hp => ⟨v, p, _, .type (tyN d), _, isiD [.list, .tuple] d, rfl, upd_same, paired_cls [.list, .tuple], ty_den he (hd.ext (Ext.new hp) fun _ _ z => z), kit_any he (fun t ht c z => ?_), _, rfl, q p _ hp⟩⟩
  subst z
  simp at ht
theorem isi1_read {d : D} {v : V} {gg : G} {σ : L2.St} {Q : Bool → Hp → Prop} (hd : Den K H d v gg) (he : isExc d = false) (h4 : σ[4]? = some (some v)) (q : Q (tyD .list d) H) : tB (tCB (rIsi K) (tCons (tVar 4) (tCons (tC (.ty "list")) tNil))) σ H Q :=
  ⟨v, h4, v, .ty "list", .type (tyN d), .type "list", tyD .list d, rfl, .ty _, ty_den he hd, kit_d (t := .list) he (fun c z => nomatch z), _, rfl, q⟩
theorem turn_read {σ : L2.St} {D0 : Ends} (hM : M ≤ 1000000) (J : SpJ K H0 g0 M l f lds lv qs H) (hσ : SpS l f σ) (hbk : D0.bk σ H) (hnx : ∀ σ' lds' lv' qs' H', SpS l f σ' → SpJ K H0 g0 M l f lds' lv' qs' H' → D0.nx σ' H') :
    tSeq (tB1 K 2) (tSeq (tB2 K 2 4) (tSeq (tB3 K 2 4) (tB4 K 1 4))) D0 σ H := by
  have big : (1000000 : Nat) < sizeLine := by decide
  refine ⟨.ref l, hσ.l, !lv.isEmpty, .inl ⟨lv, SqL.of J.hl, rfl⟩, ?_⟩
  obtain ⟨gl, hd, hg, nd⟩ := J.den
  have ll := hd.length
  rcases List.eq_nil_or_concat lv with e | ⟨b, v, e⟩
  · subst e
    exact hbk
  · rw [List.concat_eq_append] at e
    subst e
    rcases List.eq_nil_or_concat lds with e2 | ⟨a, d, e2⟩
    · subst e2; simp at ll
    · rw [List.concat_eq_append] at e2
      subst e2
      rw [if_neg (by simp)]
      obtain ⟨x1, x2, g1, g2, ex, eg, h1, h2⟩ := DenL.split hd
      have lx : x1.length = b.length := by
        have := h1.length
        simp at ll
        omega
      obtain ⟨rfl, rfl⟩ := List.append_inj ex lx.symm
      obtain ⟨y, ys, k1, k2, ey, ek, hv, hn⟩ := h2
      cases ey
      obtain ⟨_, rfl⟩ := hn
      rw [List.append_nil] at ek
      subst ek
      subst eg
      have hv : Den K H0 d v g2 := hv
      have pl2 : plns a = true ∧ pln d = true := by
        have := J.pl
        rw [plns_append] at this
        simpa [plns] using this
      have tt : tots (a ++ [d]) = tots a + tot d := by rw [tots_append]; simp [tots]
      have sz := J.sz
      rw [tt] at sz
      have la := tots_len a
      have lb : b.length = a.length := h1.length
      -- the part taken out
      have J1 := J.left (lds' := a) (lv' := b) (gl' := g1) h1 (fun p hp => hg p (List.mem_append_left _ hp)) (nd.sublist ((List.Sublist.refl _).append ((List.sublist_append_left _ _).map _))) pl2.1 (by omega)
      refine ⟨.ref l, hσ.l, .inl ⟨rfl, _, SqL.of J.hl⟩, l, b ++ [v], v, rfl, rfl, J.hl, by simp, ?_⟩
      rw [List.dropLast_concat]
      have s1 : SpS l f (σ.set 4 (some v)) := hσ.set (by decide) (by decide)
      have at4 : (σ.set 4 (some v))[4]? = some (some v) := get_self (by rw [hσ.len]; decide)
      have he : isExc d = false := by
        cases d <;> first | rfl | exact (show False from hv).elim
      refine isi2_read (J1.at_ hv) he at4 fun p o hp => ?_
      have J2 := J1.new (o := o) hp
      -- items go into left
      have ext : ∀ {q : Addr} {ys : List V} {ds : List D} {gd : G} (hs : SqL K (upd (upd H l (.lst b)) p o) q ys ∨ SqT K (upd (upd H l (.lst b)) p o) q ys), v = .ref q → DenL K H0 ds ys gd → (∀ z ∈ gd, z ∈ g0 ∧ z.2 = true) → (qs.map (·.1) ++ (g1 ++ gd).map (·.1)).Nodup → plns ds = true → tots a + tots ds + qs.length ≤ M →
          (∀ H', SpJ K H0 g0 M l f (a ++ ds) (b ++ ys) qs H' → (tB4 K 1 4) D0 (σ.set 4 (some v)) H') → tDrop (tBM K "list" rExtend (tVar 2) (tCons (tCB (fun xs H Q => ∃ p ys, xs = [.ref p] ∧ (SqL K H p ys ∨ SqT K H p ys) ∧ ∀ l, H l = none → Q (.ref l) (upd H l (.lst ys))) (tCons (tVar 4) tNil)) tNil)) { D0 with nx := (tB4 K 1 4) D0 } (σ.set 4 (some v)) (upd (upd H l (.lst b)) p o) := fun {q ys ds gd} hs ev hds hgd nd' pl' sz' k => by
        subst ev
        refine ⟨.ref l, s1.l, .inl ⟨rfl, _, SqL.of J2.hl⟩, .ref q, at4, q, ys, rfl, hs, fun r hr => ?_⟩
        have J3 := J2.new (o := .lst ys) hr
        refine ⟨l, r, b, ys, rfl, rfl, J3.hl, upd_same, ?_, k _ (J3.left (h1.append hds) (fun z hz => (List.mem_append.mp hz).elim (fun h => hg z (List.mem_append_left _ h)) (hgd z)) nd' (by rw [plns_append, pl2.1, pl']; rfl) (by rw [tots_append]; exact sz'))⟩
        have := tots_len ds
        have := hds.length
        omega
      -- a part that is no list
      have rest : ∀ {lds' : List D} {lv' : List V} {H' : Hp}, tyD .list d = false → SpJ K H0 g0 M l f lds' lv' qs H' → (tB4 K 1 4) D0 (σ.set 4 (some v)) H' := fun {lds' lv' H'} hf J' => by
        refine isi1_read (J'.at_ hv) he at4 ?_
        rw [hf, if_neg Bool.false_ne_true]
        exact hnx _ _ _ _ _ s1 J'
      cases d with
      | lst ow ds =>
        obtain ⟨q, ys, gd, ev, hq, eg, hds⟩ := hv
        subst eg
        have tl : tot (.lst ow ds) = 1 + tots ds := rfl
        have perm : (qs.map (·.1) ++ (g1 ++ (q, ow) :: gd).map (·.1)).Perm ((qs.map (·.1) ++ [q]) ++ (g1 ++ gd).map (·.1)) := by
          rw [List.append_assoc]
          refine List.Perm.append_left _ ?_
          rw [List.map_append, List.map_append, List.map_cons]
          exact List.perm_middle
        have nd2 : ((qs.map (·.1) ++ [q]) ++ (g1 ++ gd).map (·.1)).Nodup := perm.nodup_iff.mp nd
        have hgd : ∀ z ∈ gd, z ∈ g0 ∧ z.2 = true := fun z hz => hg z (List.mem_append_right _ (List.mem_cons_of_mem _ hz))
        have ow' : (q, ow) ∈ g0 ∧ ow = true := hg (q, ow) (List.mem_append_right _ List.mem_cons_self)
        rw [show isiD [.list, .tuple] (.lst ow ds) = true from rfl, if_pos rfl]
        refine ext (.inl (SqL.of (J2.base _ _ hq))) ev hds hgd (nd2.sublist (List.Sublist.append (List.sublist_append_left _ _) (.refl _))) (by have := pl2.2; simpa [pln] using this) (by omega) fun H' J' => ?_
        subst ev
        refine isi1_read (J'.at_ (d := .lst ow ds) ⟨q, ys, gd, rfl, hq, rfl, hds⟩) he at4 ?_
        rw [show tyD .list (.lst ow ds) = true from rfl, if_pos rfl]
        refine ⟨.ref f, s1.f, .inl ⟨rfl, _, SqL.of J'.hf⟩, .ref q, at4, .ref q, at4, .ref q, ys.length, rfl, .inl ⟨ys, SqL.of (J'.base _ _ hq), rfl⟩, by show 2 ≤ sizeLine; omega, fun T hT => ?_⟩
        have J4 := J'.new (o := .tup [.ref q, .int (ys.length : Int)]) hT
        refine ⟨f, _, .ref T, rfl, rfl, J4.hf, ?_, ?_⟩
        · rw [List.length_map]
          omega
        · refine hnx _ _ _ _ _ s1 (J4.grow (p := q) (T := T) (xs := ys) upd_same ?_ ⟨hq, by rw [← ow'.2]; exact ow'.1⟩ ⟨g1 ++ gd, h1.append hds, fun z hz => (List.mem_append.mp hz).elim (fun h => hg z (List.mem_append_left _ h)) (hgd z), nd2⟩ (by rw [tots_append]; omega) (by have h7 := tots_len ds; have h8 := hds.length; omega))
          cases e : H0 T with
          | none => rfl
          | some u => rw [J'.base _ _ e] at hT; cases hT
      | tup ds =>
        obtain ⟨q, ys, ev, hq, hds⟩ := hv
        have tl : tot (.tup ds) = 1 + tots ds := rfl
        rw [show isiD [.list, .tuple] (.tup ds) = true from rfl, if_pos rfl]
        have sq : SqT K (upd (upd H l (.lst b)) p o) q ys := (Ext.sqt (S := fun _ => False) ⟨fun b o e _ => J2.base b o e, fun _ z => z.elim⟩ hq)
        exact ext (.inr sq) ev hds (fun z hz => hg z (List.mem_append_right _ hz)) nd (by have := pl2.2; simpa [pln] using this) (by omega) fun H' J' => rest rfl J'
      | exc c => exact (show False from hv).elim
      | scr ns => have := pl2.2; simp [pln] at this
      | non => exact rest rfl J2
      | bl _ => exact rest rfl J2
      | int _ => exact rest rfl J2
      | str _ => exact rest rfl J2

theorem loop1_read {σ : L2.St} {D0 : Ends} (hM : M ≤ 1000000) (J : SpJ K H0 g0 M l f lds lv qs H) (hσ : SpS l f σ) (hnx : ∀ σ' lds' lv' qs' H', SpS l f σ' → SpJ K H0 g0 M l f lds' lv' qs' H' → D0.nx σ' H') :
    tFor (iRng1 (tCons (tC (.int 50000)) tNil)) (gName 3) (tSeq (tB1 K 2) (tSeq (tB2 K 2 4) (tSeq (tB3 K 2 4) (tB4 K 1 4)))) D0 σ H := by
  refine ⟨50000, rfl, by decide, by decide, ?_⟩
  refine ⟨fun i m σ H => m = 50000 - i ∧ ∃ lds lv qs, SpS l f σ ∧ SpJ K H0 g0 M l f lds lv qs H, ⟨_, rfl, lds, lv, qs, hσ, J⟩, fun i m σ H => ?_⟩
  rintro ⟨rfl, lds, lv, qs, hσ, J⟩
  rcases Nat.lt_or_ge i 50000 with lt | ge
  · refine .inr ⟨lt, fun σ H => ∃ lds lv qs, SpS l f σ ∧ SpJ K H0 g0 M l f lds lv qs H, fun σ' H' h => ⟨_, by omega, rfl, h⟩, fun x H' ⟨e1, _⟩ => ?_⟩
    subst e1
    exact turn_read hM J (hσ.set (by decide) (by decide)) (hnx _ _ _ _ _ (hσ.set (by decide) (by decide)) J) fun σ' lds' lv' qs' H' a b => ⟨lds', lv', qs', a, b⟩
  · exact .inl ⟨ge, hnx _ _ _ _ _ hσ J⟩
end
end MP
set_option linter.all false
set_option maxRecDepth 100000
set_option maxHeartbeats 8000000
/-! MiniPy: the writing def, behind its first loop. -/
namespace MP
open PySem PySem.Spec PyProof.Rows L2
section
variable {K : PySem.W.Frag} {H0 H : Hp} {g0 : G} {M : Nat} {l f : Addr} {qs : List Q3}
/-- k of the lists found are written -/
structure SpK (K : PySem.W.Frag) (H0 : Hp) (g0 : G) (M : Nat) (f : Addr) (qs : List Q3) (k : Nat) (H : Hp) : Prop where
  base : ∀ b o, H0 b = some o → b ∉ qs.map (·.1) → H b = some o
  hf : H f = some (.lst (qs.map fun q => V.ref q.2.2))
  nf : H0 f = none
  tup : ∀ q ∈ qs, H q.2.2 = some (.tup [.ref q.1, .int (q.2.1.length : Int)]) ∧ H0 q.2.2 = none
  old : ∀ q ∈ qs, H0 q.1 = some (.lst q.2.1) ∧ (q.1, true) ∈ g0
  nd : (qs.map (·.1)).Nodup
  cell : ∀ j q, qs[j]? = some q → H q.1 = some (.lst (if j < k then q.2.1 ++ [.int 7] else q.2.1))
  few : ∀ q ∈ qs, q.2.1.length ≤ M
theorem SpJ.end_ {lds : List D} {lv : List V} (J : SpJ K H0 g0 M l f lds lv qs H) : SpK K H0 g0 M f qs 0 H := by
  obtain ⟨gl, _, _, nd⟩ := J.den
  exact ⟨fun b o e _ => J.base b o e, J.hf, J.nf, J.tup, J.old, (List.nodup_append.mp nd).1, fun j q e => by rw [if_neg (Nat.not_lt_zero _)]; exact J.base _ _ (J.old q (List.mem_of_getElem? e)).1, J.few⟩
theorem SpK.write {k : Nat} {q : Q3} (J : SpK K H0 g0 M f qs k H) (e : qs[k]? = some q) : SpK K H0 g0 M f qs (k + 1) (upd H q.1 (.lst (q.2.1 ++ [.int 7]))) := by
  have hq := List.mem_of_getElem? e
  have ho := (J.old q hq).1
  refine ⟨fun b o eb nb => ?_, ?_, J.nf, fun r hr => ⟨?_, (J.tup r hr).2⟩, J.old, J.nd, fun j r er => ?_, J.few⟩
  · rw [upd_ne (fun z => nb (by rw [z]; exact List.mem_map.mpr ⟨q, hq, rfl⟩))]; exact J.base b o eb nb
  · rw [upd_ne (fun z => by have := J.nf; rw [z, ho] at this; cases this)]; exact J.hf
  · rw [upd_ne (fun z => by have := (J.tup r hr).2; rw [z, ho] at this; cases this)]; exact (J.tup r hr).1
  · by_cases hjk : j = k
    · subst hjk
      rw [e] at er
      cases er
      rw [upd_same, if_pos (Nat.lt_succ_self _)]
    · have ne : r.1 ≠ q.1 := fun z => by
        obtain ⟨h1, e1⟩ := List.getElem?_eq_some_iff.mp er
        obtain ⟨h2, e2⟩ := List.getElem?_eq_some_iff.mp e
        refine hjk ((List.getElem_inj (h₀ := by simpa using h1) (h₁ := by simpa using h2) J.nd).mp ?_)
        simp [e1, e2, z]
      rw [upd_ne ne, J.cell j r er]
      by_cases hj : j < k
      · rw [if_pos hj, if_pos (Nat.lt_succ_of_lt hj)]
      · rw [if_neg hj, if_neg (by omega)]
theorem loop2_read {σ : L2.St} {D0 : Ends} (hM : M ≤ 1000000) (J : SpK K H0 g0 M f qs 0 H) (hl : σ.length = 6) (h1 : σ[1]? = some (some (.ref f))) (hnx : ∀ σ' H', σ'.length = 6 → σ'[1]? = some (some (.ref f)) → SpK K H0 g0 M f qs qs.length H' → D0.nx σ' H') :
    tFor (iList K (tVar 1)) (gPair K 4 5) (tB5 K 4) D0 σ H := by
  have big : (1000000 : Nat) < sizeLine := by decide
  refine ⟨.ref f, h1, f, rfl, ⟨_, SqL.of J.hf⟩, fun i m σ H => m = qs.length - i ∧ i ≤ qs.length ∧ σ.length = 6 ∧ σ[1]? = some (some (.ref f)) ∧ SpK K H0 g0 M f qs i H, ⟨_, rfl, Nat.zero_le _, hl, h1, J⟩, fun i m σ H => ?_⟩
  rintro ⟨rfl, hi, hl, h1, J⟩
  rcases Nat.lt_or_ge i qs.length with lt | ge
  · have e := List.getElem?_eq_getElem lt
    refine .inr ⟨⟨_, .ref (qs[i]).2.2, SqL.of J.hf, by rw [List.getElem?_map, e]; rfl⟩, fun σ H => σ.length = 6 ∧ σ[1]? = some (some (.ref f)) ∧ SpK K H0 g0 M f qs (i + 1) H, fun σ' H' h => ⟨_, by omega, rfl, by omega, h⟩, fun x H' ⟨eh, y⟩ => ?_⟩
    subst eh
    have ex := y _ (SqL.of J.hf)
    rw [List.getElem?_map, e] at ex
    have ex : V.ref (qs[i]).2.2 = x := Option.some.inj ex
    subst ex
    have hq := List.mem_of_getElem? e
    refine ⟨_, _, rfl, SqT.of (J.tup _ hq).1, rfl, _, _, rfl, _, _, rfl, rfl, ?_⟩
    have c := J.cell i _ e
    rw [if_neg (Nat.lt_irrefl _)] at c
    refine ⟨.ref (qs[i]).1, ?_, .inl ⟨rfl, _, SqL.of c⟩, _, _, .int 7, rfl, rfl, c, by have := J.few _ hq; omega, by simp [hl], ?_, J.write e⟩
    · rw [get_set (by decide)]
      exact get_self (by rw [hl]; decide)
    · rw [get_set (by decide), get_set (by decide)]
      exact h1
  · have : i = qs.length := by omega
    subst this
    exact .inl ⟨⟨_, SqL.of J.hf, by simp⟩, hnx _ _ hl h1 J⟩

theorem cmp_same (a : Int) : cmpD .eq (.int a) (.int a) = some true := by simp [cmpD, shaped, pln, pd, SeqAt.shaped, eqD, PyData.eqv, PyData.canLay0, PyData.depth]
theorem comp_read {σ : L2.St} {D0 : Ends} (hM : qs.length ≤ 1000000) (J : SpK K H0 g0 M f qs qs.length H) (hl : σ.length = 6) (h1 : σ[1]? = some (some (.ref f))) (hrt : ∀ p o, H p = none → D0.rt (.bl true) (upd H p o)) :
    tRet (tCB (rAll K) (tCons (tLc (iList K (tVar 1)) (gPair K 4 5) tYes (tEl K 4 5) [4, 5]) tNil)) D0 σ H := by
  have big : (1000000 : Nat) < sizeLine := by decide
  refine ⟨.ref f, h1, f, rfl, ⟨_, SqL.of J.hf⟩, fun p hp => ?_⟩
  have k : ∀ {b : Addr} {u o : HO}, H b = some u → (upd H p o) b = some u := fun e => (upd_ne (ne_of_none e hp)).trans e
  refine ⟨fun i m H' => m = qs.length - i ∧ i ≤ qs.length ∧ H' = upd H p (.lst (List.replicate i (.bl true))), ⟨_, rfl, Nat.zero_le _, rfl⟩, fun i m H' => ?_⟩
  rintro ⟨rfl, hi, rfl⟩
  rcases Nat.lt_or_ge i qs.length with lt | ge
  · have e := List.getElem?_eq_getElem lt
    have hq := List.mem_of_getElem? e
    refine .inr ⟨⟨_, .ref (qs[i]).2.2, SqL.of (k J.hf), by rw [List.getElem?_map, e]; rfl⟩, fun H' => H' = upd H p (.lst (List.replicate (i + 1) (.bl true))), fun H' h => ⟨_, by omega, rfl, by omega, h⟩, fun x H' ⟨eh, y⟩ => ?_⟩
    subst eh
    have ex := y _ (SqL.of (k J.hf))
    rw [List.getElem?_map, e] at ex
    have ex : V.ref (qs[i]).2.2 = x := Option.some.inj ex
    subst ex
    have wl : (L2.wipe σ [4, 5]).length = 6 := by rw [wipe_length]; exact hl
    refine ⟨_, _, rfl, SqT.of (k (J.tup _ hq).1), rfl, _, _, rfl, _, _, rfl, rfl, ?_, ?_⟩
    · rw [wipe_set_mem (by simp), wipe_set_mem (by simp), wipe_wipe _ _ fun _ h => h]
    · have c := J.cell i _ e
      rw [if_pos lt] at c
      have g4 : (((L2.wipe σ [4, 5]).set 4 (some (V.ref (qs[i]).1))).set 5 (some (V.int ((qs[i]).2.1.length : Int))))[4]? = some (some (.ref (qs[i]).1)) := by
        rw [get_set (by decide)]
        exact get_self (by rw [wl]; decide)
      have g5 : (((L2.wipe σ [4, 5]).set 4 (some (V.ref (qs[i]).1))).set 5 (some (V.int ((qs[i]).2.1.length : Int))))[5]? = some (some (.int ((qs[i]).2.1.length : Int))) := get_self (by rw [List.length_set, wl]; decide)
      unfold tYes
      dsimp only
      rw [if_pos rfl]
      refine ⟨.ref (qs[i]).1, g4, .ref (qs[i]).1, _, rfl, .inl ⟨_, SqL.of (k c), rfl⟩, .int ((qs[i]).2.1.length : Int), g5, _, _, rfl, rfl, .int (((qs[i]).2.1.length : Int) + 1), .int (((qs[i]).2.1.length : Int) + 1), [], [], true, ?_, den_int _, cmp_same _, _, upd_same, by rw [List.length_replicate]; omega, ?_⟩
      · have : (((qs[i]).2.1 ++ [V.int 7]).length : Int) = ((qs[i]).2.1.length : Int) + 1 := by simp
        rw [this]
        exact den_int _
      · rw [upd_upd, List.replicate_succ']
  · have : i = qs.length := by omega
    subst this
    refine .inl ⟨⟨_, SqL.of (k J.hf), by simp⟩, p, List.replicate qs.length true, rfl, ?_, ?_⟩
    · rw [List.map_replicate]
      exact SqL.of upd_same
    · rw [show (List.replicate qs.length true).all id = true by simp]
      exact hrt p _ hp

def pSpoil (_ : Nat → List D → MP.CR) (ds : List D) : MP.CR := match ds with
  | [d] => if own d && (pln d && decide (tot d ≤ 1000000)) then .ok (.bl true) [] else .stk
  | _ => .stk
theorem nodup_true {gg : G} (c : Cl gg) (t : ∀ p ∈ gg, p.2 = true) : (gg.map (·.1)).Nodup := by
  unfold List.Nodup
  rw [List.pairwise_map]
  refine List.Pairwise.imp_of_mem (fun {p q} hp _ h e => ?_) c
  have := (h e).1
  rw [t p hp] at this
  cases this
theorem spoil_read {d : D} {v : V} {gg : G} {N : List Str} {D0 : Ends} (hN : N.length = 6) (hd : Den K H d v gg) (c : Cl gg) (ho : own d = true) (hp : pln d = true) (ht : tot d ≤ 1000000) (hrt : ∀ H', Ext (fun a => (a, true) ∈ gg) H H' → D0.rt (.bl true) H') :
    tSpoil K 0 1 2 3 4 5 D0 (L2.start N [v]) H := by
  have big : (1000000 : Nat) < sizeLine := by decide
  have own_ : ∀ p ∈ gg, p.2 = true := shr_own hd ho
  have sl : (L2.start N [v]).length = 6 := by
    unfold L2.start
    rw [List.length_append, List.length_map, List.length_replicate]
    simp
    omega
  have s0 : (L2.start N [v])[0]? = some (some v) := rfl
  refine ⟨Nat.zero_le _, fun f hf => ⟨v, by rw [get_set (by decide)]; exact s0, by show 1 ≤ sizeLine; omega, fun l hl => ?_⟩⟩
  have ne : l ≠ f := fun z => by rw [z, upd_same] at hl; cases hl
  have J : SpJ K H gg 1000000 l f [d] [v] [] (upd (upd H f (.lst [])) l (.lst [v])) := by
    have nl : H l = none := by rw [upd_ne ne] at hl; exact hl
    refine ⟨fun b o e => ?_, upd_same, ?_, nl, hf, ne, ⟨gg, DenL.one hd, fun p hp => ⟨hp, own_ p hp⟩, by simpa using nodup_true c own_⟩, (fun _ h => nomatch h), (fun _ h => nomatch h), by simp [plns, hp], by simp only [tots, List.length_nil]; omega, (fun _ h => nomatch h)⟩
    · rw [upd_ne (fun z => by rw [z, nl] at e; cases e), upd_ne (fun z => by rw [z, hf] at e; cases e)]
      exact e
    · rw [upd_ne (Ne.symm ne)]
      exact upd_same
  have S0 : SpS l f (((L2.start N [v]).set 1 (some (.ref f))).set 2 (some (.ref l))) := ⟨by simp [sl], by rw [get_set (by decide)]; exact get_self (by rw [sl]; decide), get_self (by rw [List.length_set, sl]; decide)⟩
  refine loop1_read (Nat.le_refl _) J S0 fun σ' lds' lv' qs' H' S' J' => loop2_read (Nat.le_refl _) J'.end_ S'.len S'.f fun σ2 H2 l2 h2 J2 => comp_read (by have := J'.sz; omega) J2 l2 h2 fun p o hp => hrt _ ⟨fun b u e n => ?_, fun b hb => Den.dom hd (b, true) hb⟩
  have nb : b ∉ qs'.map (·.1) := fun z => by
    obtain ⟨q, hq, rfl⟩ := List.mem_map.mp z
    exact n (J2.old q hq).2
  have := J2.base b u e nb
  rw [upd_ne (ne_of_none this hp)]
  exact this

variable {g : Gk} {P : Program} {w : World} {mg : Str → Option Value} {base : Heap} {n : Nat} {cl : Nat → List D → MP.CR}
theorem spoil_fn {d : DefR} {fa : Addr} {fdat : FuncData} (B : Glob g P w K mg base n cl) (Fd : Fdef K mg d fa fdat) (hS : scOk d.N d.ps (defScope d.st) = true) (hps : d.ps.length = 1) (hN : d.N.length = 6) (hio : d.io = [])
    {c : Ck} (hc : c = ⟨d.N, defScope d.st, none⟩) {th ff lf tu pt mt : Str} (hH : okV c th 0 = true) (hF : okV c ff 1 = true) (hL : okV c lf 2 = true) (hP : okV c pt 4 = true) (lF : okL c ff 1 = true) (lL : okL c lf 2 = true) (lT : okL c tu 3 = true) (lP : okL c pt 4 = true) (lM : okL c mt 5 = true)
    {scope : Scope} (hb : okBlk c scope [(pt, 4), (mt, 5)] = true) (bP : okV (blkC c scope) pt 4 = true) (bM : okV (blkC c scope) mt 5 = true) (blP : okL (blkC c scope) pt 4 = true) (blM : okL (blkC c scope) mt 5 = true) (bN : okFree g (blkC c scope) "len" = true)
    (fI : okFree g c "isinstance" = true) (fL : okFree g c "list" = true) (fT : okFree g c "tuple" = true) (fN : okFree g c "len" = true) (fR : okFree g c "range" = true) (fA : okFree g c "all" = true)
    {p1 p2 p3 p4 p5 p6 p7 p8 p9 p10 p11 p12 p13 p14 p15 p16 p17 p18 p19 p20 p21 p22 p23 p24 p25 p26 p27 p28 p29 p30 p31 p32 p33 p34 p35 p36 p37 p38 p39 p40 p41 p42 p43 p44 p45 p46 p47 p48 p49 p50 p51 p52 p53 p54 p55 p56 p57 p58 p59 p60 p61 p62 p63 p64 p65 p66 p67 p68 p69 p70 p71 p72 p73 p74 : Pos} {k1 k2 k3 k4 k5 k6 k7 k8 : Nat}
    (n1 : (p17.endLine == p18.line) = true) (n2 : (p28.endLine == p31.line) = true) (n3 : (p38.endLine == p39.line) = true) (n4 : (p51.endLine == p53.line) = true)
    (hst : defBody d.st = [.Assign [.Name ff p1] (.List [] p2) p3, .Assign [.Name lf p4] (.List [.Name th p5] p6) p7,
      .For (.Name tu p8) (.Call (.Name "range" p9) [.Constant (.int 50000) k1 p10] [] p11) [.If (.UnaryOp .Not (.Name lf p12) p13) [.Break p14] [] p15, .Assign [.Name pt p19] (.Call (.Attribute (.Name lf p16) "pop" p17) [] [] p18) p20,
        .If (.Call (.Name "isinstance" p21) [.Name pt p22, .Tuple [.Name "list" p23, .Name "tuple" p24] k2 p25] [] p26) [.Expr (.Call (.Attribute (.Name lf p27) "extend" p28) [.Call (.Name "list" p29) [.Name pt p30] [] p32] [] p31) p33] [] p34,
        .If (.Call (.Name "isinstance" p35) [.Name pt p36, .Name "list" p37] [] p40) [.Expr (.Call (.Attribute (.Name ff p41) "append" p38) [.Tuple [.Name pt p42, .Call (.Name "len" p43) [.Name pt p44] [] p45] k3 p46] [] p39) p47] [] p48] [] p49,
      .For (.Tuple [.Name pt p50, .Name mt p54] k4 p55) (.Name ff p56) [.Expr (.Call (.Attribute (.Name pt p52) "append" p51) [.Constant (.int 7) k5 p57] [] p53) p58] [] p59,
      .Return (some (.Call (.Name "all" p60) [.ListComp (.Compare (.Call (.Name "len" p61) [.Name pt p62] [] p63) [.Eq] [.BinOp (.Name mt p64) .Add (.Constant (.int 1) k6 p65) p66] p67) [⟨.Tuple [.Name pt p68, .Name mt p69] k7 p70, .Name ff p71, [], 0⟩] scope p72] [] p73)) p74]) : FnG P w K mg base (n + 1) fa fdat d.ps (spI K d.io (pSpoil cl)) := by
  have S := scOk_snd hS
  subst hc
  rw [hio]
  have shape : ∀ {ds : List D}, pSpoil cl ds ≠ .stk → ∃ x, ds = [x] ∧ own x = true ∧ pln x = true ∧ tot x ≤ 1000000 := fun {ds} h => by
    unfold pSpoil at h
    split at h
    · rename_i x
      split at h
      · rename_i hc
        simp only [Bool.and_eq_true, decide_eq_true_eq] at hc
        exact ⟨x, rfl, hc.1, hc.2.1, hc.2.2⟩
      · exact absurd rfl h
    · exact absurd rfl h
  refine FnG.of Fd.fn S (fun vs H Q E ⟨ds, gg, d0, _, h⟩ => ?_) fun cdv A outer s H vs Q Ex room gd ⟨ds, gg, d0, c0, h⟩ => ?_
  · obtain ⟨x, rfl, _⟩ := shape (fun z => by rw [z] at h; exact h)
    rw [d0.length, hps]
    rfl
  · obtain ⟨x, rfl, ho, hp, ht⟩ := shape (fun z => by rw [z] at h; exact h)
    obtain ⟨v, ys, q1, q2, ev, eg, dv, dn⟩ := d0
    obtain ⟨rfl, rfl⟩ := dn
    rw [List.append_nil] at eg
    subst eg
    subst ev
    have G : Good P w K mg base n (cxOf (L2N.CX P w) P w K mg base d.N d.name (defScope d.st) fa cdv A outer s H Ex) ⟨d.N, defScope d.st, none⟩ :=
      ⟨rfl, rfl, rfl, rfl, rfl, rfl, gd, room, rfl, S.nd, rfl, fun _ _ => rfl⟩
    have e : pSpoil cl [x] = .ok (.bl true) [] := by
      unfold pSpoil
      simp [ho, hp, ht]
    rw [e] at h
    rw [hst]
    refine ⟨_, spoil_pss B G ⟨PassesOwn.leaving⟩ hH hF hL hP lF lL lT lP lM hb bP bM blP blM bN fI fL fT fN fR fA n1 n2 n3 n4 (k8 := 0), spoil_read (K := K) hN dv c0 ho hp ht fun H' ex => h.2 (.bl true) H' ⟨ex, [], DenL.one (den_bl true), List.Pairwise.nil, fun p hp => nomatch hp⟩⟩
end
end MP
set_option linter.all false
set_option maxRecDepth 100000
set_option maxHeartbeats 400000
namespace MP
open PySem PySem.Spec PyProof.Rows L2
/-! data that can be compared and shown -/
mutual
def fine : D → Bool
  | .int i => decide (i.natAbs.log2 < 1920)
  | .str x => PyData.strOk x && lenOk x.length
  | .lst _ xs => fines xs && lenOk xs.length
  | .tup xs => fines xs && lenOk xs.length
  | .exc _ => false
  | .scr _ => false
  | _ => true
def fines : List D → Bool
  | [] => true
  | x :: xs => fine x && fines xs
end
mutual
def dep : D → Nat
  | .lst _ xs => deps xs + 1
  | .tup xs => deps xs + 1
  | _ => 0
def deps : List D → Nat
  | [] => 0
  | x :: xs => max (dep x) (deps xs)
end
mutual
def wt : D → Nat
  | .non => 4
  | .bl _ => 5
  | .int _ => 1921
  | .str x => 10 * x.length + 2
  | .lst _ xs => 2 + wts xs
  | .tup xs => 4 + wts xs
  | _ => 0
def wts : List D → Nat
  | [] => 0
  | x :: xs => wt x + 2 + wts xs
end
mutual
def fresh : D → D
  | .lst _ xs => .lst true (freshs xs)
  | .tup xs => .tup (freshs xs)
  | d => d
def freshs : List D → List D
  | [] => []
  | x :: xs => fresh x :: freshs xs
end
theorem freshs_map : ∀ xs, freshs xs = xs.map fresh
  | [] => rfl
  | x :: xs => by simp only [freshs, List.map_cons, freshs_map xs]
theorem shrs_map : ∀ xs, shrs xs = xs.map shr
  | [] => rfl
  | x :: xs => by simp only [shrs, List.map_cons, shrs_map xs]
theorem pds_map : ∀ xs, pds xs = xs.map pd
  | [] => rfl
  | x :: xs => by simp only [pds, List.map_cons, pds_map xs]
mutual
@[simp] theorem shr2 : ∀ d, shr (shr d) = shr d
  | .lst _ xs => by simp only [shr, shrs2 xs]
  | .tup xs => by simp only [shr, shrs2 xs]
  | .non | .bl _ | .int _ | .str _ | .exc _ | .scr _ => by simp only [shr]
@[simp] theorem shrs2 : ∀ d, shrs (shrs d) = shrs d
  | [] => rfl
  | x :: xs => by simp only [shrs, shr2 x, shrs2 xs]
end
mutual
@[simp] theorem shr_fresh : ∀ d, shr (fresh d) = shr d
  | .lst _ xs => by simp only [shr, fresh, shrs_freshs xs]
  | .tup xs => by simp only [shr, fresh, shrs_freshs xs]
  | .non | .bl _ | .int _ | .str _ | .exc _ | .scr _ => by simp only [shr, fresh]
@[simp] theorem shrs_freshs : ∀ d, shrs (freshs d) = shrs d
  | [] => rfl
  | x :: xs => by simp only [shrs, freshs, shr_fresh x, shrs_freshs xs]
end
mutual
@[simp] theorem fresh_shr : ∀ d, fresh (shr d) = fresh d
  | .lst _ xs => by simp only [shr, fresh, freshs_shrs xs]
  | .tup xs => by simp only [shr, fresh, freshs_shrs xs]
  | .non | .bl _ | .int _ | .str _ | .exc _ | .scr _ => by simp only [shr, fresh]
@[simp] theorem freshs_shrs : ∀ d, freshs (shrs d) = freshs d
  | [] => rfl
  | x :: xs => by simp only [shrs, freshs, fresh_shr x, freshs_shrs xs]
end
mutual
@[simp] theorem fresh_fresh : ∀ d, fresh (fresh d) = fresh d
  | .lst _ xs => by simp only [fresh, freshs_freshs xs]
  | .tup xs => by simp only [fresh, freshs_freshs xs]
  | .non | .bl _ | .int _ | .str _ | .exc _ | .scr _ => by simp only [fresh]
@[simp] theorem freshs_freshs : ∀ d, freshs (freshs d) = freshs d
  | [] => rfl
  | x :: xs => by simp only [freshs, fresh_fresh x, freshs_freshs xs]
end
mutual
@[simp] theorem own_fresh : ∀ d, own (fresh d) = true
  | .lst _ xs => by simp only [own, fresh, owns_freshs xs, Bool.and_self]
  | .tup xs => by simp only [own, fresh, owns_freshs xs]
  | .non | .bl _ | .int _ | .str _ | .exc _ | .scr _ => by simp only [own, fresh]
@[simp] theorem owns_freshs : ∀ d, owns (freshs d) = true
  | [] => rfl
  | x :: xs => by simp only [owns, freshs, own_fresh x, owns_freshs xs, Bool.and_self]
end
mutual
theorem fine_fresh : ∀ d, fine (fresh d) = fine d
  | .lst _ xs => by simp only [fine, fresh, fines_freshs xs]; rw [freshs_map, List.length_map]
  | .tup xs => by simp only [fine, fresh, fines_freshs xs]; rw [freshs_map, List.length_map]
  | .non | .bl _ | .int _ | .str _ | .exc _ | .scr _ => by simp only [fresh]
theorem fines_freshs : ∀ d, fines (freshs d) = fines d
  | [] => rfl
  | x :: xs => by simp only [fines, freshs, fine_fresh x, fines_freshs xs]
end
mutual
theorem fine_shr : ∀ d, fine (shr d) = fine d
  | .lst _ xs => by simp only [fine, shr, fines_shrs xs]; rw [shrs_map, List.length_map]
  | .tup xs => by simp only [fine, shr, fines_shrs xs]; rw [shrs_map, List.length_map]
  | .non | .bl _ | .int _ | .str _ | .exc _ | .scr _ => by simp only [shr]
theorem fines_shrs : ∀ d, fines (shrs d) = fines d
  | [] => rfl
  | x :: xs => by simp only [fines, shrs, fine_shr x, fines_shrs xs]
end
mutual
@[simp] theorem pd_fresh : ∀ d, pd (fresh d) = pd d
  | .lst _ xs => by simp only [pd, fresh, pds_freshs xs]
  | .tup xs => by simp only [pd, fresh, pds_freshs xs]
  | .non | .bl _ | .int _ | .str _ | .exc _ | .scr _ => by simp only [fresh]
@[simp] theorem pds_freshs : ∀ d, pds (freshs d) = pds d
  | [] => rfl
  | x :: xs => by simp only [pds, freshs, pd_fresh x, pds_freshs xs]
end
mutual
@[simp] theorem pd_shr : ∀ d, pd (shr d) = pd d
  | .lst _ xs => by simp only [pd, shr, pds_shrs xs]
  | .tup xs => by simp only [pd, shr, pds_shrs xs]
  | .non | .bl _ | .int _ | .str _ | .exc _ | .scr _ => by simp only [shr]
@[simp] theorem pds_shrs : ∀ d, pds (shrs d) = pds d
  | [] => rfl
  | x :: xs => by simp only [pds, shrs, pd_shr x, pds_shrs xs]
end
mutual
theorem dep_shr : ∀ d, dep (shr d) = dep d
  | .lst _ xs => by simp only [dep, shr, deps_shrs xs]
  | .tup xs => by simp only [dep, shr, deps_shrs xs]
  | .non | .bl _ | .int _ | .str _ | .exc _ | .scr _ => by simp only [shr]
theorem deps_shrs : ∀ d, deps (shrs d) = deps d
  | [] => rfl
  | x :: xs => by simp only [deps, shrs, dep_shr x, deps_shrs xs]
end
mutual
theorem pln_fine : ∀ d, fine d = true → pln d = true
  | .lst _ xs, h => by simp only [fine, Bool.and_eq_true] at h; simp only [pln, plns_fines xs h.1]
  | .tup xs, h => by simp only [fine, Bool.and_eq_true] at h; simp only [pln, plns_fines xs h.1]
  | .non, _ | .bl _, _ | .int _, _ | .str _, _ => by simp only [pln]
  | .exc _, h | .scr _, h => by simp [fine] at h
theorem plns_fines : ∀ d, fines d = true → plns d = true
  | [], _ => rfl
  | x :: xs, h => by simp only [fines, Bool.and_eq_true] at h; simp only [plns, pln_fine x h.1, plns_fines xs h.2, Bool.and_self]
end
mutual
theorem depth_pd : ∀ d, fine d = true → (pd d).depth = dep d
  | .lst _ xs, h => by simp only [fine, Bool.and_eq_true] at h; simp only [pd, PyData.depth, dep, depth_pds xs h.1]
  | .tup xs, h => by simp only [fine, Bool.and_eq_true] at h; simp only [pd, PyData.depth, dep, depth_pds xs h.1]
  | .non, _ | .bl _, _ | .int _, _ | .str _, _ => by simp only [pd, PyData.depth, dep]
  | .exc _, h | .scr _, h => by simp [fine] at h
theorem depth_pds : ∀ d, fines d = true → PyData.depthAll (pds d) = deps d
  | [], _ => rfl
  | x :: xs, h => by simp only [fines, Bool.and_eq_true] at h; simp only [pds, PyData.depthAll, deps, depth_pd x h.1, depth_pds xs h.2]
end
mutual
theorem lay_pd : ∀ d, fine d = true → (pd d).canLay0 = true
  | .lst _ xs, h => by simp only [fine, Bool.and_eq_true] at h; simp only [pd, PyData.canLay0, lay_pds xs h.1]
  | .tup xs, h => by simp only [fine, Bool.and_eq_true] at h; simp only [pd, PyData.canLay0, lay_pds xs h.1]
  | .str x, h => by simp only [fine, Bool.and_eq_true] at h; simp only [pd, PyData.canLay0, h.1]
  | .non, _ | .bl _, _ | .int _, _ => by simp only [pd, PyData.canLay0]
  | .exc _, h | .scr _, h => by simp [fine] at h
theorem lay_pds : ∀ d, fines d = true → PyData.canLayAll0 (pds d) = true
  | [], _ => rfl
  | x :: xs, h => by simp only [fines, Bool.and_eq_true] at h; simp only [pds, PyData.canLayAll0, lay_pd x h.1, lay_pds xs h.2, Bool.and_self]
end
mutual
theorem show_pd : ∀ d, fine d = true → (pd d).showable = true
  | .lst _ xs, h => by simp only [fine, Bool.and_eq_true] at h; simp only [pd, PyData.showable, show_pds xs h.1]
  | .tup xs, h => by simp only [fine, Bool.and_eq_true] at h; simp only [pd, PyData.showable, show_pds xs h.1]
  | .int i, h => by simpa only [pd, PyData.showable, fine] using h
  | .non, _ | .bl _, _ | .str _, _ => by simp only [pd, PyData.showable]
  | .exc _, h | .scr _, h => by simp [fine] at h
theorem show_pds : ∀ d, fines d = true → PyData.showableAll (pds d) = true
  | [], _ => rfl
  | x :: xs, h => by simp only [fines, Bool.and_eq_true] at h; simp only [pds, PyData.showableAll, show_pd x h.1, show_pds xs h.2, Bool.and_self]
end
mutual
theorem eqv_refl : ∀ d, fine d = true → PyData.eqv (pd d) (pd d) = true
  | .lst _ xs, h => by simp only [fine, Bool.and_eq_true] at h; simp only [pd, PyData.eqv, eqvs_refl xs h.1]
  | .tup xs, h => by simp only [fine, Bool.and_eq_true] at h; simp only [pd, PyData.eqv, eqvs_refl xs h.1]
  | .non, _ | .bl _, _ | .str _, _ | .int _, _ => by simp [pd, PyData.eqv]
  | .exc _, h | .scr _, h => by simp [fine] at h
theorem eqvs_refl : ∀ d, fines d = true → PyData.eqvAll (pds d) (pds d) = true
  | [], _ => rfl
  | x :: xs, h => by simp only [fines, Bool.and_eq_true] at h; simp only [pds, PyData.eqvAll, eqv_refl x h.1, eqvs_refl xs h.2, Bool.and_self]
end
theorem textFrom_le : ∀ (ts : List Str) (k : Nat) (acc : Str), (textFrom k acc ts).length ≤ acc.length + piled ts
  | [], k, acc => by show acc.length ≤ _; omega
  | t :: r, k, acc => by
    have h := textFrom_le r (k + 1) (acc ++ (if k > 0 then ", " else "" : String) ++ t)
    have e : (acc ++ (if k > 0 then ", " else "" : String) ++ t).length ≤ acc.length + 2 + t.length := by
      rw [strLen_append, strLen_append]
      have : ((if k > 0 then ", " else "" : String) : Str).length ≤ 2 := by split <;> decide
      omega
    rw [piled_cons]
    show (textFrom (k + 1) _ r).length ≤ _
    omega
theorem listText_le (ts : List Str) : (listText ts).length ≤ 2 + piled ts := by
  unfold listText
  rw [strLen_append]
  have h := textFrom_le ts 0 "["
  have e1 : ((("[" : String) : Str)).length = 1 := rfl
  have e2 : ((("]" : String) : Str)).length = 1 := rfl
  omega
theorem tupleText_le (ts : List Str) : (tupleText ts).length ≤ 4 + piled ts := by
  unfold tupleText
  rw [strLen_append, strLen_append]
  have e1 : ((("(" : String) : Str)).length = 1 := rfl
  have e3 : (((if ts.length == 1 then ",)" else ")" : String) : Str)).length ≤ 2 := by split <;> decide
  by_cases h : ts = []
  · subst h
    have : (Str.join ", " []).length = 0 := rfl
    omega
  · have := join_length_add ts h
    omega
mutual
theorem shown_le : ∀ d, fine d = true → (pd d).shown.length ≤ wt d
  | .lst _ xs, h => by
    simp only [fine, Bool.and_eq_true] at h
    have := showns_le xs h.1
    have h2 := listText_le (PyData.shownAll (pds xs))
    simp only [pd, PyData.shown, wt]
    omega
  | .tup xs, h => by
    simp only [fine, Bool.and_eq_true] at h
    have := showns_le xs h.1
    have h2 := tupleText_le (PyData.shownAll (pds xs))
    simp only [pd, PyData.shown, wt]
    omega
  | .str x, h => by
    simp only [fine, Bool.and_eq_true] at h
    simp only [pd, PyData.shown, wt]
    refine StrLaws.reprText_len x fun c hc => ?_
    have h1 := h.1
    unfold PyData.strOk at h1
    rw [← Array.all_toList, List.all_eq_true] at h1
    have := of_decide_eq_true (h1 c hc)
    have e : (16 : Nat) ^ 8 = 4294967296 := by decide
    omega
  | .int i, h => by
    simp only [fine, decide_eq_true_eq] at h
    simp only [pd, PyData.shown, wt]
    rw [PySem.ofString_length]
    exact int_text_length_le (by decide) h
  | .bl b, _ => by cases b <;> simp only [pd, PyData.shown, wt] <;> decide
  | .non, _ => by simp only [pd, PyData.shown, wt]; decide
  | .exc _, h | .scr _, h => by simp [fine] at h
theorem showns_le : ∀ d, fines d = true → piled (PyData.shownAll (pds d)) ≤ wts d
  | [], _ => by simp [pds, PyData.shownAll, wts, piled]
  | x :: xs, h => by
    simp only [fines, Bool.and_eq_true] at h
    have h1 := shown_le x h.1
    have h2 := showns_le xs h.2
    simp only [pds, PyData.shownAll, wts, piled_cons]
    omega
end
/-- data that the law compares, shows, copies, spoils -/
def nice (d : D) : Bool := fine d && decide (dep d ≤ 8) && decide (wt d ≤ 1000000)
theorem nice_shaped {d : D} (h : nice d = true) : shaped d = true := by
  simp only [nice, Bool.and_eq_true, decide_eq_true_eq] at h
  simp only [shaped, SeqAt.shaped, pln_fine d h.1.1, lay_pd d h.1.1, depth_pd d h.1.1, Bool.true_and, Bool.and_eq_true, decide_eq_true_eq]
  exact Nat.le_trans h.1.2 (by decide)
theorem nice_repr {d : D} (h : nice d = true) : bi1 .repr d = some (.str (pd d).shown) := by
  simp only [nice, Bool.and_eq_true, decide_eq_true_eq] at h
  have hs := shown_le d h.1.1
  have hl : lenOk (pd d).shown.length = true := by
    unfold lenOk
    rw [decide_eq_true_eq, sizeLine_eq]
    omega
  have hd : (pd d).depth ≤ 64 := by rw [depth_pd d h.1.1]; omega
  simp only [bi1, pln_fine d h.1.1, show_pd d h.1.1, lay_pd d h.1.1, hd, hl, decide_true, Bool.and_self, if_true]
theorem shaped_congr {a b : D} (ha : nice a = true) (hb : pln b = true) (h : pd a = pd b) : shaped b = true := by
  have := nice_shaped ha
  simp only [shaped, Bool.and_eq_true] at this ⊢
  exact ⟨hb, h ▸ this.2⟩
theorem repr_congr {a b : D} (ha : nice a = true) (hb : pln b = true) (h : pd a = pd b) : bi1 .repr b = some (.str (pd a).shown) := by
  have h1 := nice_repr ha
  simp only [bi1] at h1 ⊢
  rw [← h]
  split at h1
  · rename_i hc
    simp only [Bool.and_eq_true] at hc
    rw [if_pos]
    simp only [Bool.and_eq_true]
    exact ⟨⟨⟨⟨hb, hc.1.1.1.2⟩, hc.1.1.2⟩, hc.1.2⟩, hc.2⟩
  · cases h1
theorem eq_congr {a b : D} (ha : nice a = true) (h : pd a = pd b) : eqD a b = true := by
  simp only [eqD]
  rw [← h]
  simp only [nice, Bool.and_eq_true] at ha
  exact eqv_refl a ha.1.1
/-! loops -/
def stepP (I : Env → Prop) (Q : RS → Prop) : RS → Prop
  | .nx s2 => I s2
  | .cnt s2 => I s2
  | .brk s2 => Q (.nx s2)
  | r => Q r
theorem forL_rule {tg : Tg} {body : Env → RS} (I : List D → Env → Prop) (Q : RS → Prop) (nil : ∀ s, I [] s → Q (.nx s))
    (step : ∀ d ds s, I (d :: ds) s → ∃ s1 r, tgE tg d s = some s1 ∧ body s1 = r ∧ stepP (I ds) Q r) : ∀ (ds : List D) (s : Env), I ds s → Q (forL tg body ds s)
  | [], s, h => by simpa only [forL] using nil s h
  | d :: ds, s, h => by
    obtain ⟨s1, r, e, hb, st⟩ := step d ds s h
    simp only [forL, e, hb]
    cases r <;> simp only [stepP] at st ⊢
    · exact forL_rule I Q nil step ds _ st
    · exact st
    · exact st
    · exact forL_rule I Q nil step ds _ st
    · exact st
    · exact st
theorem whlL_rule {test : Env → R Bool} {body : Env → RS} (I : Env → Prop) (μ : Env → Nat) (Q : RS → Prop)
    (step : ∀ s, I s → (∃ s1, test s = .ok false s1 ∧ Q (.nx s1)) ∨ (∃ s1 r, test s = .ok true s1 ∧ body s1 = r ∧ stepP (fun s2 => I s2 ∧ μ s2 < μ s) Q r)) : ∀ (n : Nat) (s : Env), I s → μ s < n → Q (whlL test body n s)
  | 0, s, _, hn => absurd hn (Nat.not_lt_zero _)
  | n + 1, s, h, hn => by
    simp only [whlL]
    rcases step s h with ⟨s1, ht, q⟩ | ⟨s1, r, ht, hb, st⟩
    · rw [ht]; exact q
    · rw [ht]
      simp only [R.bindS, if_true, hb]
      cases r <;> simp only [stepP] at st ⊢
      · exact whlL_rule I μ Q step n _ st.1 (by omega)
      · exact st
      · exact st
      · exact whlL_rule I μ Q step n _ st.1 (by omega)
      · exact st
      · exact st
/-- a comprehension whose turns leave the slots as they were -/
theorem lcL_map {turn : D → Env → R (Option D)} {ws : List Nat} {s : Env} (g : D → D) : ∀ (ds acc : List D), (∀ d ∈ ds, ∃ s1, turn d s = .ok (some (g d)) s1 ∧ wipeE s1 ws = s) → lenOk (acc.length + ds.length) = true → lcL turn ws ds acc s = .ok (.lst true (acc ++ ds.map g)) s
  | [], acc, _, _ => by simp [lcL]
  | d :: ds, acc, h, hl => by
    obtain ⟨s1, e, hw⟩ := h d (.head _)
    have hl' : lenOk (acc.length + 1) = true := by
      simp only [lenOk, decide_eq_true_eq, List.length_cons] at hl ⊢
      omega
    simp only [lcL, e, hl', if_true, hw]
    rw [lcL_map g ds (acc ++ [g d]) (fun x hx => h x (.tail _ hx)) (by simp only [List.length_append, List.length_cons, List.length_nil, Nat.zero_add] at hl ⊢; rwa [Nat.add_assoc, Nat.add_comm 1])]
    simp
/-- a comprehension by an invariant -/
theorem lcL_rule {turn : D → Env → R (Option D)} {ws : List Nat} (I : List D → List D → Env → Prop) (Q : R D → Prop)
    (nil : ∀ acc s, I [] acc s → Q (.ok (.lst true acc) s))
    (step : ∀ d ds acc s, I (d :: ds) acc s → match turn d s with
      | .ok (some y) s1 => lenOk (acc.length + 1) = true ∧ I ds (acc ++ [y]) (wipeE s1 ws)
      | .ok none s1 => I ds acc (wipeE s1 ws)
      | _ => False) : ∀ (ds acc : List D) (s : Env), I ds acc s → Q (lcL turn ws ds acc s)
  | [], acc, s, h => by simpa only [lcL] using nil acc s h
  | d :: ds, acc, s, h => by
    have st := step d ds acc s h
    simp only [lcL]
    cases ht : turn d s with
    | ok o s1 =>
      rw [ht] at st
      cases o with
      | none => exact lcL_rule I Q nil step ds acc _ st
      | some y =>
        simp only at st ⊢
        rw [if_pos st.1]
        exact lcL_rule I Q nil step ds _ _ st.2
    | exc c s1 => rw [ht] at st; exact st.elim
    | stk => rw [ht] at st; exact st.elim
/-! evaluation -/
@[simp] theorem R.bind_ok {α β : Type} {a : α} {s : Env} {f : α → Env → R β} : (R.ok a s).bind f = f a s := Eq.trans rfl rfl
@[simp] theorem R.bindS_ok {α : Type} {a : α} {s : Env} {f : α → Env → RS} : (R.ok a s).bindS f = f a s := Eq.trans rfl rfl
@[simp] theorem R.bind_exc {α β : Type} {c : Str} {s : Env} {f : α → Env → R β} : (R.exc c s).bind f = .exc c s := Eq.trans rfl rfl
@[simp] theorem R.bindS_exc {α : Type} {c : Str} {s : Env} {f : α → Env → RS} : (R.exc c s).bindS f = .exc c s := Eq.trans rfl rfl
@[simp] theorem R.of_some {α : Type} {a : α} {s : Env} : R.of (some a) s = .ok a s := Eq.trans rfl rfl
@[simp] theorem R.of_none {α : Type} {s : Env} : R.of (none : Option α) s = .stk := Eq.trans rfl rfl
@[simp] theorem RS.bind_nx {s : Env} {f : Env → RS} : (RS.nx s).bind f = f s := Eq.trans rfl rfl
@[simp] theorem RS.bind_ret {d : D} {s : Env} {f : Env → RS} : (RS.ret d s).bind f = .ret d s := Eq.trans rfl rfl
@[simp] theorem RS.bind_exc {d : Str} {s : Env} {f : Env → RS} : (RS.exc d s).bind f = .exc d s := Eq.trans rfl rfl
@[simp] theorem RS.bind_brk {s : Env} {f : Env → RS} : (RS.brk s).bind f = .brk s := Eq.trans rfl rfl
@[simp] theorem RS.bind_cnt {s : Env} {f : Env → RS} : (RS.cnt s).bind f = .cnt s := Eq.trans rfl rfl
@[simp] theorem getv_0 {o : Option D} {s : Env} : getv (o :: s) 0 = o := Eq.trans rfl rfl
@[simp] theorem getv_S {o : Option D} {s : Env} {i : Nat} : getv (o :: s) (i + 1) = getv s i := Eq.trans rfl rfl
@[simp] theorem set_0 {o p : Option D} {s : Env} : (o :: s).set 0 p = p :: s := Eq.trans rfl rfl
@[simp] theorem set_S {o p : Option D} {s : Env} {i : Nat} : (o :: s).set (i + 1) p = o :: s.set i p := Eq.trans rfl rfl
@[simp] theorem val_v {cl : Nat → List D → CR} {o1 : Option D} {s : Env} {i : Nat} {mv : Bool} : (evX cl (.v i mv)).val (o1 :: s) = fV i mv (o1 :: s) := Eq.trans rfl rfl
@[simp] theorem tst_v {cl : Nat → List D → CR} {o1 : Option D} {s : Env} {i : Nat} {mv : Bool} : (evX cl (.v i mv)).tst (o1 :: s) = tstD (.v i mv) (evX cl (.v i mv)).val (o1 :: s) := Eq.trans rfl rfl
@[simp] theorem val_k {cl : Nat → List D → CR} {o1 : Option D} {s : Env} {d : D} : (evX cl (.k d)).val (o1 :: s) = fK d (o1 :: s) := Eq.trans rfl rfl
@[simp] theorem tst_k {cl : Nat → List D → CR} {o1 : Option D} {s : Env} {d : D} : (evX cl (.k d)).tst (o1 :: s) = tstD (.k d) (evX cl (.k d)).val (o1 :: s) := Eq.trans rfl rfl
@[simp] theorem val_bin {cl : Nat → List D → CR} {o1 : Option D} {s : Env} {o : Op} {a b : X} : (evX cl (.bin o a b)).val (o1 :: s) = ((evX cl a).val (o1 :: s)).bind fun x s1 => ((evX cl b).val s1).bind fun y s2 => R.of (bop o x y) s2 := Eq.trans rfl rfl
@[simp] theorem tst_bin {cl : Nat → List D → CR} {o1 : Option D} {s : Env} {o : Op} {a b : X} : (evX cl (.bin o a b)).tst (o1 :: s) = tstD (.bin o a b) (evX cl (.bin o a b)).val (o1 :: s) := Eq.trans rfl rfl
@[simp] theorem val_neg {cl : Nat → List D → CR} {o1 : Option D} {s : Env} {a : X} : (evX cl (.neg a)).val (o1 :: s) = fNeg (evX cl a).val (o1 :: s) := Eq.trans rfl rfl
@[simp] theorem tst_neg {cl : Nat → List D → CR} {o1 : Option D} {s : Env} {a : X} : (evX cl (.neg a)).tst (o1 :: s) = tstD (.neg a) (evX cl (.neg a)).val (o1 :: s) := Eq.trans rfl rfl
@[simp] theorem val_cmp {cl : Nat → List D → CR} {o1 : Option D} {s : Env} {o : Cm} {a b : X} : (evX cl (.cmp o a b)).val (o1 :: s) = ((evC o a b (evX cl a).val (evX cl b).val (o1 :: s)).bind fun c s1 => .ok (.bl c) s1) := Eq.trans rfl rfl
@[simp] theorem tst_cmp {cl : Nat → List D → CR} {o1 : Option D} {s : Env} {o : Cm} {a b : X} : (evX cl (.cmp o a b)).tst (o1 :: s) = evC o a b (evX cl a).val (evX cl b).val (o1 :: s) := Eq.trans rfl rfl
@[simp] theorem val_chn {cl : Nat → List D → CR} {o1 : Option D} {s : Env} {o p : Cm} {a b c : X} : (evX cl (.chn o p a b c)).val (o1 :: s) = fChn o p (evX cl a).val (evX cl b).val (evX cl c).val (o1 :: s) := Eq.trans rfl rfl
@[simp] theorem tst_chn {cl : Nat → List D → CR} {o1 : Option D} {s : Env} {o p : Cm} {a b c : X} : (evX cl (.chn o p a b c)).tst (o1 :: s) = toB (fChn o p (evX cl a).val (evX cl b).val (evX cl c).val (o1 :: s)) := Eq.trans rfl rfl
@[simp] theorem val_bnot {cl : Nat → List D → CR} {o1 : Option D} {s : Env} {a : X} : (evX cl (.bnot a)).val (o1 :: s) = fNot (evX cl a).val (o1 :: s) := Eq.trans rfl rfl
@[simp] theorem tst_bnot {cl : Nat → List D → CR} {o1 : Option D} {s : Env} {a : X} : (evX cl (.bnot a)).tst (o1 :: s) = ((evX cl a).tst (o1 :: s)).bind fun c s1 => .ok (!c) s1 := Eq.trans rfl rfl
@[simp] theorem val_band {cl : Nat → List D → CR} {o1 : Option D} {s : Env} {a b : X} : (evX cl (.band a b)).val (o1 :: s) = fAnd (evX cl a).val (evX cl b).val (o1 :: s) := Eq.trans rfl rfl
@[simp] theorem tst_band {cl : Nat → List D → CR} {o1 : Option D} {s : Env} {a b : X} : (evX cl (.band a b)).tst (o1 :: s) = ((evX cl a).tst (o1 :: s)).bind fun c s1 => if c then (evX cl b).tst s1 else .ok false s1 := Eq.trans rfl rfl
@[simp] theorem val_bor {cl : Nat → List D → CR} {o1 : Option D} {s : Env} {a b : X} : (evX cl (.bor a b)).val (o1 :: s) = fOr (evX cl a).val (evX cl b).val (o1 :: s) := Eq.trans rfl rfl
@[simp] theorem tst_bor {cl : Nat → List D → CR} {o1 : Option D} {s : Env} {a b : X} : (evX cl (.bor a b)).tst (o1 :: s) = ((evX cl a).tst (o1 :: s)).bind fun c s1 => if c then .ok true s1 else (evX cl b).tst s1 := Eq.trans rfl rfl
@[simp] theorem val_ife {cl : Nat → List D → CR} {o1 : Option D} {s : Env} {t a b : X} : (evX cl (.ife t a b)).val (o1 :: s) = fIfe (evX cl t).tst (evX cl a).val (evX cl b).val (o1 :: s) := Eq.trans rfl rfl
@[simp] theorem tst_ife {cl : Nat → List D → CR} {o1 : Option D} {s : Env} {t a b : X} : (evX cl (.ife t a b)).tst (o1 :: s) = ((evX cl t).tst (o1 :: s)).bind fun c s1 => if c then (evX cl a).tst s1 else (evX cl b).tst s1 := Eq.trans rfl rfl
@[simp] theorem val_lst {cl : Nat → List D → CR} {o1 : Option D} {s : Env} {xs : Xs} : (evX cl (.lst xs)).val (o1 :: s) = (evs cl xs (o1 :: s)).bind fun ds s1 => if lenOk ds.length then .ok (.lst true ds) s1 else .stk := Eq.trans rfl rfl
@[simp] theorem tst_lst {cl : Nat → List D → CR} {o1 : Option D} {s : Env} {xs : Xs} : (evX cl (.lst xs)).tst (o1 :: s) = tstD (.lst xs) (evX cl (.lst xs)).val (o1 :: s) := Eq.trans rfl rfl
@[simp] theorem val_tup {cl : Nat → List D → CR} {o1 : Option D} {s : Env} {xs : Xs} : (evX cl (.tup xs)).val (o1 :: s) = (evs cl xs (o1 :: s)).bind fun ds s1 => if lenOk ds.length then .ok (.tup ds) s1 else .stk := Eq.trans rfl rfl
@[simp] theorem tst_tup {cl : Nat → List D → CR} {o1 : Option D} {s : Env} {xs : Xs} : (evX cl (.tup xs)).tst (o1 :: s) = tstD (.tup xs) (evX cl (.tup xs)).val (o1 :: s) := Eq.trans rfl rfl
@[simp] theorem val_ix {cl : Nat → List D → CR} {o1 : Option D} {s : Env} {a b : X} : (evX cl (.ix a b)).val (o1 :: s) = fIx a b (evX cl a).val (evX cl b).val (o1 :: s) := Eq.trans rfl rfl
@[simp] theorem tst_ix {cl : Nat → List D → CR} {o1 : Option D} {s : Env} {a b : X} : (evX cl (.ix a b)).tst (o1 :: s) = tstD (.ix a b) (evX cl (.ix a b)).val (o1 :: s) := Eq.trans rfl rfl
@[simp] theorem val_sl {cl : Nat → List D → CR} {o1 : Option D} {s : Env} {a : X} {lo hi : Xo} : (evX cl (.sl a lo hi)).val (o1 :: s) = (evR a (evX cl a).val (o1 :: s)).bind fun x s1 => match evo lo s1, evo hi s1 with
    | some l, some h => R.of (slD x l h) s1
    | _, _ => .stk := Eq.trans rfl rfl
@[simp] theorem tst_sl {cl : Nat → List D → CR} {o1 : Option D} {s : Env} {a : X} {lo hi : Xo} : (evX cl (.sl a lo hi)).tst (o1 :: s) = tstD (.sl a lo hi) (evX cl (.sl a lo hi)).val (o1 :: s) := Eq.trans rfl rfl
@[simp] theorem val_call {cl : Nat → List D → CR} {o1 : Option D} {s : Env} {f : Nat} {as : As} {dv : List D} : (evX cl (.call f as dv)).val (o1 :: s) = (evA cl as (o1 :: s)).bind fun vs s1 => match okA as, fillA as vs s1 with
    | true, some ds => callE as s1 (cl f (ds ++ dv))
    | _, _ => .stk := Eq.trans rfl rfl
@[simp] theorem tst_call {cl : Nat → List D → CR} {o1 : Option D} {s : Env} {f : Nat} {as : As} {dv : List D} : (evX cl (.call f as dv)).tst (o1 :: s) = tstD (.call f as dv) (evX cl (.call f as dv)).val (o1 :: s) := Eq.trans rfl rfl
@[simp] theorem val_calli {cl : Nat → List D → CR} {o1 : Option D} {s : Env} {f i j : Nat} {dv : List D} : (evX cl (.calli f i j dv)).val (o1 :: s) = callI i j (o1 :: s) fun d => cl f (d :: dv) := Eq.trans rfl rfl
@[simp] theorem tst_calli {cl : Nat → List D → CR} {o1 : Option D} {s : Env} {f i j : Nat} {dv : List D} : (evX cl (.calli f i j dv)).tst (o1 :: s) = tstD (.calli f i j dv) (evX cl (.calli f i j dv)).val (o1 :: s) := Eq.trans rfl rfl
@[simp] theorem val_bi_1 {cl : Nat → List D → CR} {o1 : Option D} {s : Env} {b : Bi} {a : X} : (evX cl (.bi b (.cons a .nil))).val (o1 :: s) = fBi1 b a (evX cl a).val (o1 :: s) := Eq.trans rfl rfl
@[simp] theorem tst_bi_1 {cl : Nat → List D → CR} {o1 : Option D} {s : Env} {b : Bi} {a : X} : (evX cl (.bi b (.cons a .nil))).tst (o1 :: s) = tstD (.bi b (.cons a .nil)) (evX cl (.bi b (.cons a .nil))).val (o1 :: s) := Eq.trans rfl rfl
@[simp] theorem val_bi_2 {cl : Nat → List D → CR} {o1 : Option D} {s : Env} {b : Bi} {a c : X} : (evX cl (.bi b (.cons a (.cons c .nil)))).val (o1 :: s) = fBi2 b (evX cl a).val (evX cl c).val (o1 :: s) := Eq.trans rfl rfl
@[simp] theorem tst_bi_2 {cl : Nat → List D → CR} {o1 : Option D} {s : Env} {b : Bi} {a c : X} : (evX cl (.bi b (.cons a (.cons c .nil)))).tst (o1 :: s) = tstD (.bi b (.cons a (.cons c .nil))) (evX cl (.bi b (.cons a (.cons c .nil)))).val (o1 :: s) := Eq.trans rfl rfl
@[simp] theorem val_isi {cl : Nat → List D → CR} {o1 : Option D} {s : Env} {a : X} {c : List Ty} : (evX cl (.isi a c)).val (o1 :: s) = fIsi a c (evX cl a).val (o1 :: s) := Eq.trans rfl rfl
@[simp] theorem tst_isi {cl : Nat → List D → CR} {o1 : Option D} {s : Env} {a : X} {c : List Ty} : (evX cl (.isi a c)).tst (o1 :: s) = tstD (.isi a c) (evX cl (.isi a c)).val (o1 :: s) := Eq.trans rfl rfl
@[simp] theorem val_pop {cl : Nat → List D → CR} {o1 : Option D} {s : Env} {i : Nat} : (evX cl (.pop i)).val (o1 :: s) = fPop i (o1 :: s) := Eq.trans rfl rfl
@[simp] theorem tst_pop {cl : Nat → List D → CR} {o1 : Option D} {s : Env} {i : Nat} : (evX cl (.pop i)).tst (o1 :: s) = tstD (.pop i) (evX cl (.pop i)).val (o1 :: s) := Eq.trans rfl rfl
@[simp] theorem val_join {cl : Nat → List D → CR} {o1 : Option D} {s : Env} {x : Str} {a : X} : (evX cl (.join x a)).val (o1 :: s) = (evP a (evX cl a).val (o1 :: s)).bind fun d s1 => fJoin x d s1 := Eq.trans rfl rfl
@[simp] theorem tst_join {cl : Nat → List D → CR} {o1 : Option D} {s : Env} {x : Str} {a : X} : (evX cl (.join x a)).tst (o1 :: s) = tstD (.join x a) (evX cl (.join x a)).val (o1 :: s) := Eq.trans rfl rfl
@[simp] theorem val_lc0 {cl : Nat → List D → CR} {o1 : Option D} {s : Env} {e : X} {tg : Tg} {it : It} {ws : List Nat} : (evX cl (.lc e tg it .none ws)).val (o1 :: s) = (evI cl it (o1 :: s)).bind fun ds s1 => giveR it (o1 :: s) (lcL (turnL tg (fun s => .ok true s) (evX cl e).val) ws ds [] (wipeE s1 ws)) := Eq.trans rfl rfl
@[simp] theorem tst_lc0 {cl : Nat → List D → CR} {o1 : Option D} {s : Env} {e : X} {tg : Tg} {it : It} {ws : List Nat} : (evX cl (.lc e tg it .none ws)).tst (o1 :: s) = tstD (.lc e tg it .none ws) (evX cl (.lc e tg it .none ws)).val (o1 :: s) := Eq.trans rfl rfl
@[simp] theorem val_lc1 {cl : Nat → List D → CR} {o1 : Option D} {s : Env} {e t : X} {tg : Tg} {it : It} {ws : List Nat} : (evX cl (.lc e tg it (.some t) ws)).val (o1 :: s) = (evI cl it (o1 :: s)).bind fun ds s1 => giveR it (o1 :: s) (lcL (turnL tg (evX cl t).tst (evX cl e).val) ws ds [] (wipeE s1 ws)) := Eq.trans rfl rfl
@[simp] theorem tst_lc1 {cl : Nat → List D → CR} {o1 : Option D} {s : Env} {e t : X} {tg : Tg} {it : It} {ws : List Nat} : (evX cl (.lc e tg it (.some t) ws)).tst (o1 :: s) = tstD (.lc e tg it (.some t) ws) (evX cl (.lc e tg it (.some t) ws)).val (o1 :: s) := Eq.trans rfl rfl
@[simp] theorem evs_nil {cl : Nat → List D → CR} {o1 : Option D} {s : Env} : evs cl .nil (o1 :: s) = .ok [] (o1 :: s) := Eq.trans rfl rfl
@[simp] theorem evs_cons {cl : Nat → List D → CR} {o1 : Option D} {s : Env} {x : X} {xs : Xs} : evs cl (.cons x xs) (o1 :: s) = ((evX cl x).val (o1 :: s)).bind fun d s1 => (evs cl xs s1).bind fun ds s2 => .ok (d :: ds) s2 := Eq.trans rfl rfl
@[simp] theorem evA_nil {cl : Nat → List D → CR} {o1 : Option D} {s : Env} : evA cl .nil (o1 :: s) = .ok [] (o1 :: s) := Eq.trans rfl rfl
@[simp] theorem evA_lent {cl : Nat → List D → CR} {o1 : Option D} {s : Env} {i : Nat} {as : As} : evA cl (.lent i as) (o1 :: s) = match getv (o1 :: s) i with
  | some _ => evA cl as (o1 :: s)
  | none => .stk := Eq.trans rfl rfl
@[simp] theorem evA_gone {cl : Nat → List D → CR} {o1 : Option D} {s : Env} {i : Nat} {as : As} : evA cl (.gone i as) (o1 :: s) = match getv (o1 :: s) i with
  | some _ => evA cl as (o1 :: s)
  | none => .stk := Eq.trans rfl rfl
@[simp] theorem evA_io {cl : Nat → List D → CR} {o1 : Option D} {s : Env} {i : Nat} {as : As} : evA cl (.io i as) (o1 :: s) = match getv (o1 :: s) i with
  | some _ => evA cl as (o1 :: s)
  | none => .stk := Eq.trans rfl rfl
@[simp] theorem evA_val {cl : Nat → List D → CR} {o1 : Option D} {s : Env} {x : X} {as : As} : evA cl (.val x as) (o1 :: s) = ((evX cl x).val (o1 :: s)).bind fun d s1 => (evA cl as s1).bind fun ds s2 => .ok (d :: ds) s2 := Eq.trans rfl rfl
@[simp] theorem evA_own {cl : Nat → List D → CR} {o1 : Option D} {s : Env} {x : X} {as : As} : evA cl (.own x as) (o1 :: s) = ((evX cl x).val (o1 :: s)).bind fun d s1 => (evA cl as s1).bind fun ds s2 => .ok (d :: ds) s2 := Eq.trans rfl rfl
@[simp] theorem evI_seq {cl : Nat → List D → CR} {o1 : Option D} {s : Env} {x : X} : evI cl (.seq x) (o1 :: s) = ((evX cl x).val (o1 :: s)).bind fun d s1 => R.of ((itemsD d).map shrs) s1 := Eq.trans rfl rfl
@[simp] theorem evI_lent {cl : Nat → List D → CR} {o1 : Option D} {s : Env} {i : Nat} : evI cl (.lent i) (o1 :: s) = match (getv (o1 :: s) i).bind itemsD with
  | some xs => if noLs xs then .ok xs ((o1 :: s).set i none) else .stk
  | none => .stk := Eq.trans rfl rfl
@[simp] theorem evI_rng {cl : Nat → List D → CR} {o1 : Option D} {s : Env} {as : Xs} : evI cl (.rng as) (o1 :: s) = (evs cl as (o1 :: s)).bind fun ds s1 => R.of (rngL ds) s1 := Eq.trans rfl rfl
@[simp] theorem evS_set {cl : Nat → List D → CR} {o1 : Option D} {s : Env} {io : List Nat} {i : Nat} {e : X} : evS cl (.set i e) io (o1 :: s) = ((evX cl e).val (o1 :: s)).bindS fun d s1 => setS io i d s1 := Eq.trans rfl rfl
@[simp] theorem evS_sett {cl : Nat → List D → CR} {o1 : Option D} {s : Env} {io : List Nat} {is : List Nat} {e : X} : evS cl (.sett is e) io (o1 :: s) = ((evX cl e).val (o1 :: s)).bindS fun d s1 => if noIo io (.tp is) then (match tgE (.tp is) d s1 with
    | some s2 => .nx s2
    | none => .stk) else .stk := Eq.trans rfl rfl
@[simp] theorem evS_seti {cl : Nat → List D → CR} {o1 : Option D} {s : Env} {io : List Nat} {i : Nat} {ix e : X} : evS cl (.seti i ix e) io (o1 :: s) = ((evX cl e).val (o1 :: s)).bindS fun d s1 => match getv s1 i with
    | none => .stk
    | some _ => ((evX cl ix).val s1).bindS fun k s2 => match getv s2 i, k with
      | some (.lst true xs), .int n => match ixN xs.length n with
        | some j => .nx (s2.set i (some (.lst true (xs.set j d))))
        | none => .stk
      | _, _ => .stk := Eq.trans rfl rfl
@[simp] theorem evS_aug {cl : Nat → List D → CR} {o1 : Option D} {s : Env} {io : List Nat} {i : Nat} {o : Op} {e : X} : evS cl (.aug i o e) io (o1 :: s) = match getv (o1 :: s) i with
    | some (.int x) => ((evX cl e).val (o1 :: s)).bindS fun d s1 => match o, d with
      | .add, .int y => setS io i (.int (x + y)) s1
      | .sub, .int y => setS io i (.int (x - y)) s1
      | _, _ => .stk
    | _ => .stk := Eq.trans rfl rfl
@[simp] theorem evS_app {cl : Nat → List D → CR} {o1 : Option D} {s : Env} {io : List Nat} {i : Nat} {e : X} : evS cl (.app i e) io (o1 :: s) = match getv (o1 :: s) i with
    | some (.lst _ _) => ((evX cl e).val (o1 :: s)).bindS fun d s1 => match getv s1 i with
      | some (.lst true xs) => if lenOk (xs.length + 1) then .nx (s1.set i (some (.lst true (xs ++ [d])))) else .stk
      | _ => .stk
    | _ => .stk := Eq.trans rfl rfl
@[simp] theorem evS_ext {cl : Nat → List D → CR} {o1 : Option D} {s : Env} {io : List Nat} {i : Nat} {e : X} : evS cl (.ext i e) io (o1 :: s) = match getv (o1 :: s) i with
    | some (.lst _ _) => ((evX cl e).val (o1 :: s)).bindS fun d s1 => match getv s1 i, d with
      | some (.lst true xs), .lst _ ys => if lenOk (xs.length + ys.length) then .nx (s1.set i (some (.lst true (xs ++ ys)))) else .stk
      | _, _ => .stk
    | _ => .stk := Eq.trans rfl rfl
@[simp] theorem evS_ex {cl : Nat → List D → CR} {o1 : Option D} {s : Env} {io : List Nat} {e : X} : evS cl (.ex e) io (o1 :: s) = ((evX cl e).val (o1 :: s)).bindS fun _ s1 => .nx s1 := Eq.trans rfl rfl
@[simp] theorem evS_iff {cl : Nat → List D → CR} {o1 : Option D} {s : Env} {io : List Nat} {t : X} {a b : Ss} : evS cl (.iff t a b) io (o1 :: s) = ((evX cl t).tst (o1 :: s)).bindS fun c s1 => if c then evSs cl a io s1 else evSs cl b io s1 := Eq.trans rfl rfl
@[simp] theorem evS_for_seq {cl : Nat → List D → CR} {o1 : Option D} {s : Env} {io : List Nat} {tg : Tg} {x : X} {b : Ss} : evS cl (.for tg (.seq x) b) io (o1 :: s) = (evI cl (.seq x) (o1 :: s)).bindS fun ds s1 => if noIo io tg then forL tg (evSs cl b io) ds s1 else .stk := Eq.trans rfl rfl
@[simp] theorem evS_for_rng {cl : Nat → List D → CR} {o1 : Option D} {s : Env} {io : List Nat} {tg : Tg} {x : Xs} {b : Ss} : evS cl (.for tg (.rng x) b) io (o1 :: s) = (evI cl (.rng x) (o1 :: s)).bindS fun ds s1 => if noIo io tg then forL tg (evSs cl b io) ds s1 else .stk := Eq.trans rfl rfl
@[simp] theorem evS_for_lent {cl : Nat → List D → CR} {o1 : Option D} {s : Env} {io : List Nat} {tg : Tg} {i : Nat} {b : Ss} : evS cl (.for tg (.lent i) b) io (o1 :: s) = (evI cl (.lent i) (o1 :: s)).bindS fun ds s1 => if noIo (i :: io) tg then giveBack i (getv (o1 :: s) i) (forL tg (evSs cl b (i :: io)) ds s1) else .stk := Eq.trans rfl rfl
@[simp] theorem evS_whl {cl : Nat → List D → CR} {o1 : Option D} {s : Env} {io : List Nat} {t : X} {b : Ss} : evS cl (.whl t b) io (o1 :: s) = whlL (evX cl t).tst (evSs cl b io) WN (o1 :: s) := Eq.trans rfl rfl
@[simp] theorem evS_ret {cl : Nat → List D → CR} {o1 : Option D} {s : Env} {io : List Nat} {e : X} : evS cl (.ret e) io (o1 :: s) = ((evX cl e).val (o1 :: s)).bindS fun d s1 => .ret d s1 := Eq.trans rfl rfl
@[simp] theorem evS_retn {cl : Nat → List D → CR} {o1 : Option D} {s : Env} {io : List Nat} : evS cl (.retn) io (o1 :: s) = .ret .non (o1 :: s) := Eq.trans rfl rfl
@[simp] theorem evS_brk {cl : Nat → List D → CR} {o1 : Option D} {s : Env} {io : List Nat} : evS cl (.brk) io (o1 :: s) = .brk (o1 :: s) := Eq.trans rfl rfl
@[simp] theorem evS_cnt {cl : Nat → List D → CR} {o1 : Option D} {s : Env} {io : List Nat} : evS cl (.cnt) io (o1 :: s) = .cnt (o1 :: s) := Eq.trans rfl rfl
@[simp] theorem evS_pas {cl : Nat → List D → CR} {o1 : Option D} {s : Env} {io : List Nat} : evS cl (.pas) io (o1 :: s) = .nx (o1 :: s) := Eq.trans rfl rfl
@[simp] theorem evS_rse {cl : Nat → List D → CR} {o1 : Option D} {s : Env} {io : List Nat} {c : Str} : evS cl (.rse c) io (o1 :: s) = .exc c (o1 :: s) := Eq.trans rfl rfl
@[simp] theorem evSs_nil {cl : Nat → List D → CR} {o1 : Option D} {s : Env} {io : List Nat} : evSs cl .nil io (o1 :: s) = .nx (o1 :: s) := Eq.trans rfl rfl
@[simp] theorem evSs_cons {cl : Nat → List D → CR} {o1 : Option D} {s : Env} {io : List Nat} {x : S} {xs : Ss} : evSs cl (.cons x xs) io (o1 :: s) = (evS cl x io (o1 :: s)).bind fun s1 => evSs cl xs io s1 := Eq.trans rfl rfl
@[simp] theorem ixD_lst {o : Bool} {xs : List D} {i : Int} : ixD (.lst o xs) (.int i) = atI xs i := Eq.trans rfl rfl
@[simp] theorem ixD_tup {xs : List D} {i : Int} : ixD (.tup xs) (.int i) = atI xs i := Eq.trans rfl rfl
@[simp] theorem bop_add {a b : Int} : bop .add (.int a) (.int b) = some (.int (a + b)) := Eq.trans rfl rfl
@[simp] theorem bop_addS {a b : Str} : bop .add (.str a) (.str b) = if lenOk (a.length + b.length) then some (.str (a ++ b)) else none := Eq.trans rfl rfl
@[simp] theorem bop_addL {o p : Bool} {xs ys : List D} : bop .add (.lst o xs) (.lst p ys) = if lenOk (xs.length + ys.length) then some (.lst true (xs ++ ys)) else none := Eq.trans rfl rfl
@[simp] theorem bop_sub {a b : Int} : bop .sub (.int a) (.int b) = some (.int (a - b)) := Eq.trans rfl rfl
@[simp] theorem bop_mul {a b : Int} : bop .mul (.int a) (.int b) = if mulOk a b then some (.int (a * b)) else none := Eq.trans rfl rfl
@[simp] theorem bop_fdiv {a b : Int} : bop .fdiv (.int a) (.int b) = if divOk b then some (.int (a / b)) else none := Eq.trans rfl rfl
@[simp] theorem bop_mod {a b : Int} : bop .mod (.int a) (.int b) = if decide (0 < b) then some (.int (a % b)) else none := Eq.trans rfl rfl
@[simp] theorem bop_pow {a b : Int} : bop .pow (.int a) (.int b) = if powOk a b then some (.int (a ^ b.toNat)) else none := Eq.trans rfl rfl
@[simp] theorem bopI_ints {o : Op} {a b : Int} : bopI o (.int a) (.int b) = bop o (.int a) (.int b) := Eq.trans rfl rfl
@[simp] theorem cmpD_lt {a b : Int} : cmpD .lt (.int a) (.int b) = some (decide (a < b)) := Eq.trans rfl rfl
@[simp] theorem cmpD_le {a b : Int} : cmpD .le (.int a) (.int b) = some (decide (a ≤ b)) := Eq.trans rfl rfl
@[simp] theorem cmpD_gt {a b : Int} : cmpD .gt (.int a) (.int b) = some (decide (b < a)) := Eq.trans rfl rfl
@[simp] theorem cmpD_ge {a b : Int} : cmpD .ge (.int a) (.int b) = some (decide (b ≤ a)) := Eq.trans rfl rfl
@[simp] theorem cmpD_eqI {a b : Int} : cmpD .eq (.int a) (.int b) = some (decide (a = b)) := by
  show (if shaped (.int a) && shaped (.int b) then some (eqD (.int a) (.int b)) else none) = _
  rw [show shaped (.int a) = true from rfl, show shaped (.int b) = true from rfl]
  simp [eqD, pd, PyData.eqv]
  by_cases h : a = b <;> simp [h]
@[simp] theorem cmpD_neI {a b : Int} : cmpD .ne (.int a) (.int b) = some (!decide (a = b)) := by
  show (if shaped (.int a) && shaped (.int b) then some (!eqD (.int a) (.int b)) else none) = _
  rw [show shaped (.int a) = true from rfl, show shaped (.int b) = true from rfl]
  simp [eqD, pd, PyData.eqv]
  by_cases h : a = b <;> simp [h]
@[simp] theorem cmpD_isn {a b : D} : cmpD .isn a b = if isNon b then some (isNon a) else none := Eq.trans rfl rfl
@[simp] theorem cmpD_notn {a b : D} : cmpD .notn a b = if isNon b then some (!isNon a) else none := Eq.trans rfl rfl
@[simp] theorem truD_non  : truD .non = some false := Eq.trans rfl rfl
@[simp] theorem truD_bl {b : Bool} : truD (.bl b) = some b := Eq.trans rfl rfl
@[simp] theorem truD_int {i : Int} : truD (.int i) = some (i != 0) := Eq.trans rfl rfl
@[simp] theorem truD_lst {o : Bool} {xs : List D} : truD (.lst o xs) = some (!xs.isEmpty) := Eq.trans rfl rfl
@[simp] theorem truD_tup {xs : List D} : truD (.tup xs) = some (!xs.isEmpty) := Eq.trans rfl rfl
@[simp] theorem lenD_lst {o : Bool} {xs : List D} : lenD (.lst o xs) = some (.int xs.length) := Eq.trans rfl rfl
@[simp] theorem lenD_tup {xs : List D} : lenD (.tup xs) = some (.int xs.length) := Eq.trans rfl rfl
@[simp] theorem lenD_str {x : Str} : lenD (.str x) = if lenOk x.length then some (.int x.length) else none := Eq.trans rfl rfl
@[simp] theorem bi1_len {d : D} : bi1 .len d = lenD d := Eq.trans rfl rfl
@[simp] theorem bi1_int {i : Int} : bi1 .int (.int i) = some (.int i) := Eq.trans rfl rfl
@[simp] theorem bi1_bl {b : Bool} : bi1 .int (.bl b) = some (.int (if b then 1 else 0)) := Eq.trans rfl rfl
@[simp] theorem bi1_abs {i : Int} : bi1 .abs (.int i) = some (.int (if i < 0 then -i else i)) := Eq.trans rfl rfl
@[simp] theorem bi1_sum {o : Bool} {xs : List D} : bi1 .sum (.lst o xs) = (tints xs).map fun ns => .int ns.sum := Eq.trans rfl rfl
@[simp] theorem bi1_all {o : Bool} {xs : List D} : bi1 .all (.lst o xs) = (ttru xs).map fun bs => .bl (bs.all id) := Eq.trans rfl rfl
@[simp] theorem bi1_any {o : Bool} {xs : List D} : bi1 .any (.lst o xs) = (ttru xs).map fun bs => .bl (bs.any id) := Eq.trans rfl rfl
@[simp] theorem bi1L_ll {o : Bool} {xs : List D} : bi1L .list (.lst o xs) = some (.lst true xs) := Eq.trans rfl rfl
@[simp] theorem bi1L_lt {xs : List D} : bi1L .list (.tup xs) = some (.lst true xs) := Eq.trans rfl rfl
@[simp] theorem bi1L_ls {xs : List Int} : bi1L .list (.scr xs) = some (.lst true (xs.map .int)) := Eq.trans rfl rfl
@[simp] theorem bi1L_tl {o : Bool} {xs : List D} : bi1L .tuple (.lst o xs) = some (.tup xs) := Eq.trans rfl rfl
@[simp] theorem bi1L_tt {xs : List D} : bi1L .tuple (.tup xs) = some (.tup xs) := Eq.trans rfl rfl
@[simp] theorem bi2_max {i j : Int} : bi2 .max2 (.int i) (.int j) = some (.int (if j > i then j else i)) := Eq.trans rfl rfl
@[simp] theorem bi2_min {i j : Int} : bi2 .min2 (.int i) (.int j) = some (.int (if j < i then j else i)) := Eq.trans rfl rfl
@[simp] theorem itemsD_lst {o : Bool} {xs : List D} : itemsD (.lst o xs) = some xs := Eq.trans rfl rfl
@[simp] theorem itemsD_tup {xs : List D} : itemsD (.tup xs) = some xs := Eq.trans rfl rfl
@[simp] theorem itemsD_scr {xs : List Int} : itemsD (.scr xs) = some (xs.map .int) := Eq.trans rfl rfl
@[simp] theorem tgE_nm {i : Nat} {d : D} {s : Env} : tgE (.nm i) d s = some (s.set i (some d)) := Eq.trans rfl rfl
@[simp] theorem tyD_int_non  : tyD .int .non = false := Eq.trans rfl rfl
@[simp] theorem tyD_int_bl {b : Bool} : tyD .int (.bl b) = true := Eq.trans rfl rfl
@[simp] theorem tyD_int_int {i : Int} : tyD .int (.int i) = true := Eq.trans rfl rfl
@[simp] theorem tyD_int_str {x : Str} : tyD .int (.str x) = false := Eq.trans rfl rfl
@[simp] theorem tyD_int_lst {o : Bool} {xs : List D} : tyD .int (.lst o xs) = false := Eq.trans rfl rfl
@[simp] theorem tyD_int_tup {xs : List D} : tyD .int (.tup xs) = false := Eq.trans rfl rfl
@[simp] theorem tyD_bool_non  : tyD .bool .non = false := Eq.trans rfl rfl
@[simp] theorem tyD_bool_bl {b : Bool} : tyD .bool (.bl b) = true := Eq.trans rfl rfl
@[simp] theorem tyD_bool_int {i : Int} : tyD .bool (.int i) = false := Eq.trans rfl rfl
@[simp] theorem tyD_bool_str {x : Str} : tyD .bool (.str x) = false := Eq.trans rfl rfl
@[simp] theorem tyD_bool_lst {o : Bool} {xs : List D} : tyD .bool (.lst o xs) = false := Eq.trans rfl rfl
@[simp] theorem tyD_bool_tup {xs : List D} : tyD .bool (.tup xs) = false := Eq.trans rfl rfl
@[simp] theorem tyD_str_non  : tyD .str .non = false := Eq.trans rfl rfl
@[simp] theorem tyD_str_bl {b : Bool} : tyD .str (.bl b) = false := Eq.trans rfl rfl
@[simp] theorem tyD_str_int {i : Int} : tyD .str (.int i) = false := Eq.trans rfl rfl
@[simp] theorem tyD_str_str {x : Str} : tyD .str (.str x) = true := Eq.trans rfl rfl
@[simp] theorem tyD_str_lst {o : Bool} {xs : List D} : tyD .str (.lst o xs) = false := Eq.trans rfl rfl
@[simp] theorem tyD_str_tup {xs : List D} : tyD .str (.tup xs) = false := Eq.trans rfl rfl
@[simp] theorem tyD_list_non  : tyD .list .non = false := Eq.trans rfl rfl
@[simp] theorem tyD_list_bl {b : Bool} : tyD .list (.bl b) = false := Eq.trans rfl rfl
@[simp] theorem tyD_list_int {i : Int} : tyD .list (.int i) = false := Eq.trans rfl rfl
@[simp] theorem tyD_list_str {x : Str} : tyD .list (.str x) = false := Eq.trans rfl rfl
@[simp] theorem tyD_list_lst {o : Bool} {xs : List D} : tyD .list (.lst o xs) = true := Eq.trans rfl rfl
@[simp] theorem tyD_list_tup {xs : List D} : tyD .list (.tup xs) = false := Eq.trans rfl rfl
@[simp] theorem tyD_tuple_non  : tyD .tuple .non = false := Eq.trans rfl rfl
@[simp] theorem tyD_tuple_bl {b : Bool} : tyD .tuple (.bl b) = false := Eq.trans rfl rfl
@[simp] theorem tyD_tuple_int {i : Int} : tyD .tuple (.int i) = false := Eq.trans rfl rfl
@[simp] theorem tyD_tuple_str {x : Str} : tyD .tuple (.str x) = false := Eq.trans rfl rfl
@[simp] theorem tyD_tuple_lst {o : Bool} {xs : List D} : tyD .tuple (.lst o xs) = false := Eq.trans rfl rfl
@[simp] theorem tyD_tuple_tup {xs : List D} : tyD .tuple (.tup xs) = true := Eq.trans rfl rfl
@[simp] theorem isExc_non  : isExc .non = false := Eq.trans rfl rfl
@[simp] theorem isExc_bl {b : Bool} : isExc (.bl b) = false := Eq.trans rfl rfl
@[simp] theorem isExc_int {i : Int} : isExc (.int i) = false := Eq.trans rfl rfl
@[simp] theorem isExc_str {x : Str} : isExc (.str x) = false := Eq.trans rfl rfl
@[simp] theorem isExc_lst {o : Bool} {xs : List D} : isExc (.lst o xs) = false := Eq.trans rfl rfl
@[simp] theorem isExc_tup {xs : List D} : isExc (.tup xs) = false := Eq.trans rfl rfl
@[simp] theorem fV_eq {i : Nat} {mv : Bool} {s : Env} : fV i mv s = (match getv s i with
  | none => .stk
  | some d => if mv then .ok d (s.set i none) else if noL d then .ok d s else .ok (shr d) (s.set i (some (shr d)))) := Eq.trans rfl rfl
@[simp] theorem fK_eq {d : D} {s : Env} : fK d s = (if noL d && pln d then .ok d s else .stk) := Eq.trans rfl rfl
@[simp] theorem fIx_eq {a b : X} {f g : Env → R D} {s : Env} : fIx a b f g s = (match isPk a && isPk b, pk (.ix a b) s with
  | true, some d => if noL d then .ok d s else (f s).bind fun x s1 => (g s1).bind fun y s2 => R.of (ixD x y) s2
  | _, _ => (f s).bind fun x s1 => (g s1).bind fun y s2 => R.of (ixD x y) s2) := Eq.trans rfl rfl
@[simp] theorem evP_eq {x : X} {f : Env → R D} {s : Env} : evP x f s = (match isPk x with
  | true => R.of (pk x s) s
  | false => f s) := Eq.trans rfl rfl
@[simp] theorem evC_eq {o : Cm} {a b : X} {f g : Env → R D} {s : Env} : evC o a b f g s = (match isPk a && isPk b with
  | true => match pk a s, pk b s with
    | some x, some y => R.of (cmpD o x y) s
    | _, _ => .stk
  | false => (f s).bind fun x s1 => (g s1).bind fun y s2 => R.of (cmpD o x y) s2) := Eq.trans rfl rfl
@[simp] theorem evR_eq {x : X} {f : Env → R D} {s : Env} : evR x f s = (match x with
  | .v i mv => match mv with
    | true => f s
    | false => match (getv s i).bind itemsD with
      | some xs => if noLs xs then R.of (getv s i) s else f s
      | none => .stk
  | _ => f s) := Eq.trans rfl rfl
@[simp] theorem fChn_eq {o p : Cm} {f g h : Env → R D} {s : Env} : fChn o p f g h s = ((f s).bind fun x s1 => (g s1).bind fun y s2 => match cmpD o x y with
  | some true => (h s2).bind fun z s3 => match cmpD p y z with
    | some r => .ok (.bl r) s3
    | none => .stk
  | some false => .ok (.bl false) s2
  | none => .stk) := Eq.trans rfl rfl
@[simp] theorem fNot_eq {f : Env → R D} {s : Env} : fNot f s = ((f s).bind fun x s1 => match x with
  | .bl b => .ok (.bl (!b)) s1
  | _ => .stk) := Eq.trans rfl rfl
@[simp] theorem fAnd_eq {f g : Env → R D} {s : Env} : fAnd f g s = ((f s).bind fun x s1 => match x with
  | .bl true => g s1
  | .bl false => .ok (.bl false) s1
  | _ => .stk) := Eq.trans rfl rfl
@[simp] theorem fOr_eq {f g : Env → R D} {s : Env} : fOr f g s = ((f s).bind fun x s1 => match x with
  | .bl true => .ok (.bl true) s1
  | .bl false => g s1
  | _ => .stk) := Eq.trans rfl rfl
@[simp] theorem fNeg_eq {f : Env → R D} {s : Env} : fNeg f s = ((f s).bind fun x s1 => match x with
  | .int i => .ok (.int (-i)) s1
  | _ => .stk) := Eq.trans rfl rfl
@[simp] theorem fBi1_eq {b : Bi} {a : X} {f : Env → R D} {s : Env} : fBi1 b a f s = (match b with
  | .list => (evR a f s).bind fun x s1 => R.of (bi1L b x) s1
  | .tuple => (evR a f s).bind fun x s1 => R.of (bi1L b x) s1
  | _ => (evP a f s).bind fun x s1 => R.of (bi1 b x) s1) := Eq.trans rfl rfl
@[simp] theorem fBi2_eq {b : Bi} {f g : Env → R D} {s : Env} : fBi2 b f g s = ((f s).bind fun x s1 => (g s1).bind fun y s2 => R.of (bi2 b x y) s2) := Eq.trans rfl rfl
@[simp] theorem fIsi_eq {a : X} {c : List Ty} {f : Env → R D} {s : Env} : fIsi a c f s = ((evP a f s).bind fun x s1 => if isExc x then .stk else .ok (.bl (isiD c x)) s1) := Eq.trans rfl rfl
@[simp] theorem fIfe_eq {t : Env → R Bool} {f g : Env → R D} {s : Env} : fIfe t f g s = ((t s).bind fun c s1 => if c then f s1 else g s1) := Eq.trans rfl rfl
@[simp] theorem tstD_eq {x : X} {f : Env → R D} {s : Env} : tstD x f s = ((evP x f s).bind fun d s1 => R.of (truD d) s1) := Eq.trans rfl rfl
@[simp] theorem toB_eq {r : R D} : toB r = (r.bind fun x s => match x with
  | .bl b => .ok b s
  | _ => .stk) := Eq.trans rfl rfl
@[simp] theorem setS_eq {io : List Nat} {i : Nat} {d : D} {s : Env} : setS io i d s = (if io.contains i then .stk else .nx (s.set i (some d))) := Eq.trans rfl rfl
@[simp] theorem startE_eq {fd : FD} {ds : List D} : startE fd ds = (ds.map some ++ List.replicate (fd.ns - ds.length) none) := Eq.trans rfl rfl
@[simp] theorem outC_ret {io : List Nat} {d : D} {s : Env} : outC io (.ret d s) = (match ioOut io s with
  | some os => .ok d os
  | none => .stk) := Eq.trans rfl rfl
@[simp] theorem outC_nx {io : List Nat} {s : Env} : outC io (.nx s) = (match ioOut io s with
  | some os => .ok .non os
  | none => .stk) := Eq.trans rfl rfl
@[simp] theorem outC_exc {io : List Nat} {c : Str} {s : Env} : outC io (.exc c s) = (match ioOut io s with
  | some os => .exc c os
  | none => .stk) := Eq.trans rfl rfl
@[simp] theorem callE_ok {as : As} {s : Env} {r : D} {os : List D} : callE as s (.ok r os) = (if os.length == (ioA as).length then
      .ok r (putAll (ioA as) os (wipeE (if own r && owns os then s else shrAll (lentA as) s) (ioA as ++ goneA as))) else .stk) := Eq.trans rfl rfl
@[simp] theorem callE_exc {as : As} {s : Env} {c : Str} {os : List D} : callE as s (.exc c os) = (if os.length == (ioA as).length then .exc c (putAll (ioA as) os (wipeE (if owns os then s else shrAll (lentA as) s) (ioA as ++ goneA as))) else .stk) := Eq.trans rfl rfl
@[simp] theorem bi1_max {o : Bool} {xs : List D} : bi1 .max1 (.lst o xs) = ((tints xs).bind maxI).map .int := Eq.trans rfl rfl
@[simp] theorem bi1_min {o : Bool} {xs : List D} : bi1 .min1 (.lst o xs) = ((tints xs).bind minI).map .int := Eq.trans rfl rfl
@[simp] theorem val_lrg {cl : Nat → List D → CR} {o1 : Option D} {s : Env} {as : Xs} : (evX cl (.lrg as)).val (o1 :: s) = (evs cl as (o1 :: s)).bind fun ds s1 => R.of (lrgD ds) s1 := Eq.trans rfl rfl
@[simp] theorem evI_zip {cl : Nat → List D → CR} {o1 : Option D} {s : Env} {a b : X} : evI cl (.zip a b) (o1 :: s) = ((evX cl a).val (o1 :: s)).bind fun x s1 => ((evX cl b).val s1).bind fun y s2 => match itemsS x, itemsS y with
    | some xs, some ys => .ok (List.zipWith (fun p q => .tup [shr p, shr q]) xs ys) s2
    | _, _ => .stk := Eq.trans rfl rfl
@[simp] theorem evS_for_zip {cl : Nat → List D → CR} {o1 : Option D} {s : Env} {io : List Nat} {tg : Tg} {a c : X} {b : Ss} : evS cl (.for tg (.zip a c) b) io (o1 :: s) = (evI cl (.zip a c) (o1 :: s)).bindS fun ds s1 => if noIo io tg then forL tg (evSs cl b io) ds s1 else .stk := Eq.trans rfl rfl
@[simp] theorem itemsS_lst {o : Bool} {xs : List D} : itemsS (.lst o xs) = some xs := Eq.trans rfl rfl
@[simp] theorem itemsS_tup {xs : List D} : itemsS (.tup xs) = some xs := Eq.trans rfl rfl
/-- a shared value read -/
theorem set_getv : ∀ {s : Env} {i : Nat} {d : D}, getv s i = some d → s.set i (some d) = s
  | [], i, d, h => by cases i <;> cases h
  | o :: s, 0, d, h => by cases h; rfl
  | o :: s, i + 1, d, h => by rw [set_S, set_getv (s := s) h]
theorem fV_shr {i : Nat} {s : Env} {d : D} (h : getv s i = some (shr d)) : fV i false s = .ok (shr d) s := by
  simp only [fV, h, Bool.false_eq_true, if_false, shr2]
  rw [set_getv h]
  split <;> rfl
@[simp] theorem atI_lit0 {α : Type} {x0 : α} {xs : List α} : atI (x0 :: xs) 0 = some x0 := by
  unfold atI ixN
  rw [if_pos (by decide), if_pos (by simp only [List.length_cons]; omega)]
  rfl
@[simp] theorem atI_lit1 {α : Type} {x0 x1 : α} {xs : List α} : atI (x0 :: x1 :: xs) 1 = some x1 := by
  unfold atI ixN
  rw [if_pos (by decide), if_pos (by simp only [List.length_cons]; omega)]
  rfl
@[simp] theorem atI_lit2 {α : Type} {x0 x1 x2 : α} {xs : List α} : atI (x0 :: x1 :: x2 :: xs) 2 = some x2 := by
  unfold atI ixN
  rw [if_pos (by decide), if_pos (by simp only [List.length_cons]; omega)]
  rfl
@[simp] theorem atI_lit3 {α : Type} {x0 x1 x2 x3 : α} {xs : List α} : atI (x0 :: x1 :: x2 :: x3 :: xs) 3 = some x3 := by
  unfold atI ixN
  rw [if_pos (by decide), if_pos (by simp only [List.length_cons]; omega)]
  rfl
@[simp] theorem atI_lit4 {α : Type} {x0 x1 x2 x3 x4 : α} {xs : List α} : atI (x0 :: x1 :: x2 :: x3 :: x4 :: xs) 4 = some x4 := by
  unfold atI ixN
  rw [if_pos (by decide), if_pos (by simp only [List.length_cons]; omega)]
  rfl
@[simp] theorem atI_lit5 {α : Type} {x0 x1 x2 x3 x4 x5 : α} {xs : List α} : atI (x0 :: x1 :: x2 :: x3 :: x4 :: x5 :: xs) 5 = some x5 := by
  unfold atI ixN
  rw [if_pos (by decide), if_pos (by simp only [List.length_cons]; omega)]
  rfl
theorem atI_lit6 {α : Type} {x0 x1 x2 x3 x4 x5 x6 : α} {xs : List α} : atI (x0 :: x1 :: x2 :: x3 :: x4 :: x5 :: x6 :: xs) 6 = some x6 := by
  unfold atI ixN
  rw [if_pos (by decide), if_pos (by simp only [List.length_cons]; omega)]
  rfl
theorem atI_lit7 {α : Type} {x0 x1 x2 x3 x4 x5 x6 x7 : α} {xs : List α} : atI (x0 :: x1 :: x2 :: x3 :: x4 :: x5 :: x6 :: x7 :: xs) 7 = some x7 := by
  unfold atI ixN
  rw [if_pos (by decide), if_pos (by simp only [List.length_cons]; omega)]
  rfl
theorem atI_lit8 {α : Type} {x0 x1 x2 x3 x4 x5 x6 x7 x8 : α} {xs : List α} : atI (x0 :: x1 :: x2 :: x3 :: x4 :: x5 :: x6 :: x7 :: x8 :: xs) 8 = some x8 := by
  unfold atI ixN
  rw [if_pos (by decide), if_pos (by simp only [List.length_cons]; omega)]
  rfl
theorem lenOk_eq {n : Nat} : lenOk n = decide (n ≤ 16777216) := by unfold lenOk; rw [sizeLine_eq]
theorem cutD_one {α : Type} {a b : α} : cutD [a, b] none (some 1) = [a] := rfl
@[simp] theorem forL_cons {tg : Tg} {body : Env → RS} {d : D} {ds : List D} {s : Env} : forL tg body (d :: ds) s = match tgE tg d s with
    | none => .stk
    | some s1 => match body s1 with
      | .nx s2 => forL tg body ds s2
      | .cnt s2 => forL tg body ds s2
      | .brk s2 => .nx s2
      | r => r := Eq.trans rfl rfl
@[simp] theorem forL_nil {tg : Tg} {body : Env → RS} {s : Env} : forL tg body [] s = .nx s := Eq.trans rfl rfl
/-- a loop over a range, by the place -/
theorem forL_rng {tg : Tg} {body : Env → RS} {lo c : Int} {n : Nat} (I : Nat → Env → Prop) (Q : RS → Prop) (nil : ∀ s, I n s → Q (.nx s))
    (step : ∀ j s, j < n → I j s → ∃ s1 r, tgE tg (.int (lo + (j : Int) * c)) s = some s1 ∧ body s1 = r ∧ stepP (I (j + 1)) Q r) (s : Env) (h : I 0 s) : Q (forL tg body (rngD lo c n) s) := by
  refine forL_rule (fun ds s => ∃ j, j ≤ n ∧ ds = ((List.range n).drop j).map (fun (k : Nat) => D.int (lo + (k : Int) * c)) ∧ I j s) Q ?_ ?_ _ _ ⟨0, Nat.zero_le _, rfl, h⟩
  · rintro s ⟨j, hj, e, hi⟩
    have : j = n := by
      have := congrArg List.length e
      simp only [List.length_nil, List.length_map, List.length_drop, List.length_range] at this
      omega
    exact nil s (this ▸ hi)
  · rintro d ds s ⟨j, hj, e, hi⟩
    have hlt : j < n := by
      have := congrArg List.length e
      simp only [List.length_cons, List.length_map, List.length_drop, List.length_range] at this
      omega
    have e2 : (List.range n).drop j = j :: (List.range n).drop (j + 1) := by
      rw [List.drop_eq_getElem_cons (by rw [List.length_range]; exact hlt), List.getElem_range]
    rw [e2, List.map_cons] at e
    obtain ⟨rfl, rfl⟩ := List.cons.inj e
    obtain ⟨s1, r, h1, h2, h3⟩ := step j s hlt hi
    refine ⟨s1, r, h1, h2, ?_⟩
    cases r <;> simp only [stepP] at h3 ⊢
    · exact ⟨j + 1, hlt, rfl, h3⟩
    · exact h3
    · exact h3
    · exact ⟨j + 1, hlt, rfl, h3⟩
    · exact h3
    · exact h3
end MP
set_option linter.all false
set_option maxRecDepth 100000
set_option maxHeartbeats 1000000
namespace MP
open PySem PySem.Spec PyProof.Rows L2
def startF : FD := ⟨1, 1, [], (.cons (.ret (.lst (.cons (.bi .list (.cons (.v 0 false) .nil)) (.cons (.k (.int 0)) (.cons (.k (.int 0)) (.cons (.k (.int 0)) (.cons (.k (.int 7)) (.cons (.k (.int 0)) .nil)))))))) .nil)⟩
def mixedF : FD := ⟨2, 5, [], (.cons (.set 2 (.k (.int 2305843009213693951))) (.cons (.set 3 (.bin .mod (.bi .int (.cons (.bin .add (.bin .add (.bin .mul (.v 0 false) (.k (.int 6364136223846793005))) (.bin .mul (.v 1 false) (.k (.int 1442695040888963407)))) (.k (.int 1013904223))) .nil)) (.v 2 false))) (.cons (.set 4 (.bin .mod (.bi .int (.cons (.bin .add (.bin .add (.bin .mul (.bin .fdiv (.v 3 false) (.k (.int 1048576))) (.k (.int 2862933555777941757))) (.bin .mul (.v 3 false) (.v 3 false))) (.bin .mul (.v 1 false) (.k (.int 3037000493)))) .nil)) (.k (.int 1000000000000000003)))) (.cons (.ret (.bin .fdiv (.v 4 false) (.k (.int 1000)))) .nil))))⟩
def wide_b1 (iMixed : Nat) : Ss := (.cons (.iff (.cmp .ge (.v 4 false) (.bin .mul (.v 2 false) (.k (.int 1000)))) (.cons (.brk) .nil) .nil) (.cons (.set 3 (.bin .add (.bin .mul (.v 3 false) (.bin .pow (.k (.int 10)) (.k (.int 15)))) (.call iMixed (.lent 0 (.val (.bin .add (.v 1 false) (.bin .mul (.k (.int 1000003)) (.bin .add (.v 5 false) (.k (.int 1))))) .nil)) []))) (.cons (.set 4 (.bin .mul (.v 4 false) (.bin .pow (.k (.int 10)) (.k (.int 15))))) .nil)))
def wideF (iMixed : Nat) : FD := ⟨3, 6, [], (.cons (.set 3 (.call iMixed (.lent 0 (.lent 1 .nil)) [])) (.cons (.set 4 (.bin .pow (.k (.int 10)) (.k (.int 15)))) (.cons (.for (.nm 5) (.rng (.cons (.k (.int 40)) .nil)) (wide_b1 iMixed)) (.cons (.ret (.bin .mod (.bi .int (.cons (.v 3 false) .nil)) (.v 2 false))) .nil))))⟩
def moveF (iMixed : Nat) : FD := ⟨1, 2, [0], (.cons (.set 1 (.bi .int (.cons (.ix (.ix (.v 0 false) (.k (.int 0))) (.ix (.v 0 false) (.k (.int 1)))) .nil))) (.cons (.seti 0 (.k (.int 4)) (.call iMixed (.val (.bin .add (.ix (.v 0 false) (.k (.int 4))) (.bin .mod (.bi .int (.cons (.v 1 false) .nil)) (.k (.int 2305843009213693951)))) (.val (.bin .add (.ix (.v 0 false) (.k (.int 1))) (.k (.int 7))) .nil)) [])) (.cons (.seti 0 (.k (.int 1)) (.bin .add (.ix (.v 0 false) (.k (.int 1))) (.k (.int 1)))) (.cons (.iff (.bor (.cmp .ge (.v 1 false) (.bin .pow (.k (.int 10)) (.k (.int 18)))) (.cmp .le (.v 1 false) (.neg (.bin .pow (.k (.int 10)) (.k (.int 18)))))) (.cons (.seti 0 (.k (.int 2)) (.bin .mod (.bi .int (.cons (.bi .abs (.cons (.v 1 false) .nil)) .nil)) (.bin .pow (.bin .pow (.k (.int 10)) (.k (.int 60))) (.k (.int 12))))) .nil) (.cons (.seti 0 (.k (.int 3)) (.k (.int 2))) .nil)) .nil))))⟩
def take_b1 (iMove : Nat) : Ss := (.cons (.iff (.bor (.cmp .gt (.ix (.v 0 false) (.k (.int 2))) (.k (.int 0))) (.bor (.cmp .gt (.ix (.v 0 false) (.k (.int 3))) (.k (.int 0))) (.cmp .ge (.ix (.v 0 false) (.k (.int 1))) (.bi .len (.cons (.ix (.v 0 false) (.k (.int 0))) .nil))))) (.cons (.brk) .nil) .nil) (.cons (.ex (.call iMove (.io 0 .nil) [])) .nil))
def takeF (iMove iWide : Nat) : FD := ⟨2, 4, [0], (.cons (.iff (.cmp .lt (.v 1 false) (.k (.int 2))) (.cons (.ret (.k (.int 0))) .nil) .nil) (.cons (.seti 0 (.k (.int 5)) (.bin .add (.ix (.v 0 false) (.k (.int 5))) (.k (.int 1)))) (.cons (.for (.nm 2) (.rng (.cons (.bi .len (.cons (.ix (.v 0 false) (.k (.int 0))) .nil)) .nil)) (take_b1 iMove)) (.cons (.iff (.cmp .gt (.ix (.v 0 false) (.k (.int 2))) (.k (.int 0))) (.cons (.set 3 (.bin .mod (.bi .int (.cons (.ix (.v 0 false) (.k (.int 2))) .nil)) (.v 1 false))) (.cons (.seti 0 (.k (.int 2)) (.bin .fdiv (.ix (.v 0 false) (.k (.int 2))) (.v 1 false))) (.cons (.ret (.v 3 true)) .nil))) .nil) (.cons (.seti 0 (.k (.int 3)) (.bi .max2 (.cons (.k (.int 0)) (.cons (.bin .sub (.ix (.v 0 false) (.k (.int 3))) (.k (.int 1))) .nil)))) (.cons (.ret (.call iWide (.val (.ix (.v 0 false) (.k (.int 4))) (.val (.ix (.v 0 false) (.k (.int 5))) (.lent 1 .nil))) [])) .nil))))))⟩
def fromF (iTake : Nat) : FD := ⟨3, 3, [0], (.cons (.ret (.bin .add (.v 1 false) (.call iTake (.io 0 (.val (.bin .add (.bin .sub (.v 2 false) (.v 1 false)) (.k (.int 1))) .nil)) []))) .nil)⟩
def pickF (iTake : Nat) : FD := ⟨2, 2, [0], (.cons (.ret (.ix (.v 1 false) (.call iTake (.io 0 (.val (.bi .len (.cons (.v 1 false) .nil)) .nil)) []))) .nil)⟩
def rareF (iTake : Nat) : FD := ⟨2, 2, [0], (.cons (.ret (.cmp .eq (.call iTake (.io 0 (.lent 1 .nil)) []) (.k (.int 0)))) .nil)⟩
def copy_x1 (iCopy : Nat) : X := (.call iCopy (.lent 2 (.val (.bin .sub (.v 1 false) (.k (.int 1))) .nil)) [])
def copy_x2 (iCopy : Nat) : X := (.call iCopy (.lent 2 (.val (.bin .sub (.v 1 false) (.k (.int 1))) .nil)) [])
def copyF (iCopy : Nat) : FD := ⟨2, 3, [], (.cons (.iff (.cmp .lt (.v 1 false) (.k (.int 1))) (.cons (.ret (.v 0 true)) .nil) .nil) (.cons (.iff (.isi (.v 0 false) [.list]) (.cons (.ret (.lc (copy_x1 iCopy) (.nm 2) (.seq (.v 0 false)) .none [2])) .nil) .nil) (.cons (.iff (.isi (.v 0 false) [.tuple]) (.cons (.ret (.bi .tuple (.cons (.lc (copy_x2 iCopy) (.nm 2) (.seq (.v 0 false)) .none [2]) .nil))) .nil) .nil) (.cons (.ret (.v 0 true)) .nil))))⟩
def equalF : FD := ⟨2, 2, [], (.cons (.ret (.band (.cmp .eq (.v 0 false) (.v 1 false)) (.cmp .eq (.bi .repr (.cons (.v 0 false) .nil)) (.bi .repr (.cons (.v 1 false) .nil))))) .nil)⟩
def asked_b1 (iCopy iTold iEqual iSpoil : Nat) : Ss := (.cons (.set 4 (.call iCopy (.lent 1 .nil) [.int 8])) (.cons (.set 5 (.call iTold (.lent 0 (.lent 4 .nil)) [])) (.cons (.iff (.bor (.cmp .ne (.ix (.v 5 false) (.k (.int 0))) (.k (.str ""))) (.bnot (.call iEqual (.lent 4 (.lent 1 .nil)) []))) (.cons (.ret (.lst .nil)) .nil) .nil) (.cons (.app 2 (.calli iCopy 5 1 [.int 8])) (.cons (.iff (.bnot (.call iSpoil (.own (.lst (.cons (.ix (.v 5 true) (.k (.int 1))) (.cons (.v 4 true) .nil))) .nil) [])) (.cons (.ret (.lst .nil)) .nil) .nil) .nil)))))
def askedF (iCopy iTold iEqual iSpoil : Nat) : FD := ⟨2, 6, [], (.cons (.set 2 (.lst .nil)) (.cons (.for (.nm 3) (.rng (.cons (.k (.int 2)) .nil)) (asked_b1 iCopy iTold iEqual iSpoil)) (.cons (.ret (.ife (.call iEqual (.val (.ix (.v 2 false) (.k (.int 1))) (.val (.ix (.v 2 false) (.k (.int 0))) .nil)) []) (.sl (.v 2 false) .none (.some (.k (.int 1)))) (.lst .nil))) .nil)))⟩
def answersF (iAsked iEqual : Nat) : FD := ⟨3, 4, [], (.cons (.set 3 (.call iAsked (.lent 0 (.lent 1 .nil)) [])) (.cons (.ret (.band (.cmp .eq (.bi .len (.cons (.v 3 false) .nil)) (.k (.int 1))) (.call iEqual (.val (.ix (.v 3 false) (.k (.int 0))) (.lent 2 .nil)) []))) .nil))⟩
def refusesF (iCopy iTold iEqual : Nat) : FD := ⟨3, 4, [], (.cons (.set 3 (.call iCopy (.lent 1 .nil) [.int 8])) (.cons (.ret (.band (.cmp .eq (.ix (.call iTold (.lent 0 (.lent 3 .nil)) []) (.k (.int 0))) (.v 2 false)) (.call iEqual (.lent 3 (.lent 1 .nil)) []))) .nil))⟩

/-- a def of the table, none that is told by hand -/
structure Fn (tb : Nat → Option FD) (pr : Nat → Option ((Nat → List D → CR) → List D → CR)) (f : Nat) (fd : FD) : Prop where
  tb : tb f = some fd
  pr : pr f = none
theorem Fn.run {tb : Nat → Option FD} {pr : Nat → Option ((Nat → List D → CR) → List D → CR)} {f : Nat} {fd : FD} (F : Fn tb pr f fd) {n : Nat} {ds : List D} (hl : ds.length = fd.np) : runD tb pr (n + 1) f ds = outC fd.io (evSs (runD tb pr n) fd.body fd.io (startE fd ds)) := by
  show (match pr f with
    | some g => g (runD tb pr n) ds
    | none => match tb f with
      | some fd => if ds.length == fd.np then outC fd.io (evSs (runD tb pr n) fd.body fd.io (startE fd ds)) else .stk
      | none => .stk) = _
  rw [F.pr, F.tb]
  simp only [hl, beq_self_eq_true, if_true]

theorem log2_lt {i : Int} {a : Nat} (h : i.natAbs < 2 ^ a) : i.natAbs.log2 ≤ a := by
  by_cases h0 : i.natAbs = 0
  · rw [h0]; exact Nat.zero_le _
  · exact Nat.le_of_lt ((Nat.log2_lt h0).mpr h)
theorem mulOk_of {i j : Int} (a b : Nat) (hi : i.natAbs < 2 ^ a) (hj : j.natAbs < 2 ^ b) (h : a + b < 1000000 := by decide) : mulOk i j = true := by
  have := log2_lt hi
  have := log2_lt hj
  simp only [mulOk, decide_eq_true_eq]
  omega
theorem divOk_of {j : Int} (a : Nat) (h0 : 0 < j) (hj : j.natAbs < 2 ^ a) (h : a < 9000 := by decide) : divOk j = true := by
  have := log2_lt hj
  simp only [divOk, Bool.and_eq_true, decide_eq_true_eq]
  omega
theorem natAbs_mul_lt {i j : Int} {a b c : Nat} (hi : i.natAbs < 2 ^ a) (hj : j.natAbs < 2 ^ b) (h : a + b ≤ c := by decide) : (i * j).natAbs < 2 ^ c := by
  rw [Int.natAbs_mul]
  have : i.natAbs * j.natAbs < 2 ^ a * 2 ^ b := Nat.mul_lt_mul'' hi hj
  rw [← Nat.pow_add] at this
  exact Nat.lt_of_lt_of_le this (Nat.pow_le_pow_right (by decide) h)
theorem natAbs_add_lt {i j : Int} {a c : Nat} (hi : i.natAbs < 2 ^ a) (hj : j.natAbs < 2 ^ a) (h : a + 1 ≤ c := by decide) : (i + j).natAbs < 2 ^ c := by
  have h1 := Int.natAbs_add_le i j
  have : 2 ^ (a + 1) ≤ 2 ^ c := Nat.pow_le_pow_right (by decide) h
  rw [Nat.pow_succ] at this
  omega
theorem natAbs_lt_mono {i : Int} {a c : Nat} (hi : i.natAbs < 2 ^ a) (h : a ≤ c := by decide) : i.natAbs < 2 ^ c := Nat.lt_of_lt_of_le hi (Nat.pow_le_pow_right (by decide) h)

section
variable {tb : Nat → Option FD} {pr : Nat → Option ((Nat → List D → CR) → List D → CR)} {iMixed iWide iMove iTake iFrom iPick iRare : Nat}

theorem mixed_run (F : Fn tb pr iMixed mixedF) {n : Nat} (hn : 1 ≤ n) {a t : Int} (ha : a.natAbs < 2 ^ 100) (ht : t.natAbs < 2 ^ 100) : ∃ v : Int, runD tb pr n iMixed [.int a, .int t] = .ok (.int v) [] ∧ 0 ≤ v ∧ v ≤ 10 ^ 15 := by
  obtain ⟨m, rfl⟩ : ∃ m, n = m + 1 := ⟨n - 1, by omega⟩
  rw [F.run rfl]
  have m1 : mulOk a 6364136223846793005 = true := mulOk_of 100 64 ha (by decide)
  have m2 : mulOk t 1442695040888963407 = true := mulOk_of 100 64 ht (by decide)
  have m3 : mulOk t 3037000493 = true := mulOk_of 100 64 ht (by decide)
  have b1 : 0 ≤ (a * 6364136223846793005 + t * 1442695040888963407 + 1013904223) % 2305843009213693951 := Int.emod_nonneg _ (by decide)
  have b2 : (a * 6364136223846793005 + t * 1442695040888963407 + 1013904223) % 2305843009213693951 < 2305843009213693951 := Int.emod_lt_of_pos _ (by decide)
  have d1 : divOk 1048576 = true := by decide
  have d2 : divOk 1000 = true := by decide
  generalize ho : (a * 6364136223846793005 + t * 1442695040888963407 + 1013904223) % 2305843009213693951 = o at b1 b2
  have m4 : mulOk (o / 1048576) 2862933555777941757 = true := mulOk_of 64 64 (by omega) (by decide)
  have m5 : mulOk o o = true := mulOk_of 64 64 (by omega) (by omega)
  simp [fillA, ioA, goneA, lentA, okA, putAll, wipeE, shrAll, ioOut, isPk, pk, isiD, own, owns, shr, shrs, noL, noLs, pln, plns, noIo, tgSlots, mixedF, m1, m2, m3, ho, d1, d2, m4, m5]
  constructor
  · have : 0 ≤ (o / 1048576 * 2862933555777941757 + o * o + t * 3037000493) % 1000000000000000003 := Int.emod_nonneg _ (by decide)
    omega
  · have : (o / 1048576 * 2862933555777941757 + o * o + t * 3037000493) % 1000000000000000003 < 1000000000000000003 := Int.emod_lt_of_pos _ (by decide)
    omega

theorem pow15 : powOk 10 15 = true := by decide
theorem pow15v : (10 : Int) ^ (15 : Int).toNat = 1000000000000000 := by decide
theorem rng40 : rngL [.int 40] = some (rngD 0 1 40) := by rfl
theorem rngD_nat (n : Nat) : ∀ d ∈ rngD 0 1 n, ∃ k : Nat, d = .int (k : Int) ∧ k < n := fun d hd => by
  unfold rngD at hd
  obtain ⟨k, hk, rfl⟩ := List.mem_map.mp hd
  exact ⟨k, by simp, List.mem_range.mp hk⟩
theorem rngD_len (a c : Int) (n : Nat) : (rngD a c n).length = n := by simp [fillA, ioA, goneA, lentA, okA, putAll, wipeE, shrAll, ioOut, isPk, pk, isiD, own, owns, shr, shrs, noL, noLs, pln, plns, noIo, tgSlots, rngD]

theorem wide_loop (Fm : Fn tb pr iMixed mixedF) {m : Nat} (hm : 1 ≤ m) {a t many : Int} (ha : a.natAbs < 2 ^ 100) (ht0 : 0 ≤ t) (ht : t < 2 ^ 90) (hm2 : many.natAbs < 2 ^ 250) (v : Int) (v0 : 0 ≤ v) (v1 : v ≤ 10 ^ 15) :
    ∃ s', forL (.nm 5) (evSs (runD tb pr m) (wide_b1 iMixed) []) (rngD 0 1 40) [some (.int a), some (.int t), some (.int many), some (.int v), some (.int 1000000000000000), none] = .nx s' ∧ ∃ (dr re : Int) (o : Option D), s' = [some (.int a), some (.int t), some (.int many), some (.int dr), some (.int re), o] := by
  have mm : mulOk many 1000 = true := mulOk_of 250 10 hm2 (by decide)
  refine forL_rule (fun ds s => ∃ (dr re : Int) (o : Option D), s = [some (.int a), some (.int t), some (.int many), some (.int dr), some (.int re), o] ∧ dr.natAbs < 2 ^ (60 * (41 - ds.length)) ∧ re.natAbs < 2 ^ (60 * (41 - ds.length)) ∧ (∀ d ∈ ds, ∃ k : Nat, d = .int (k : Int) ∧ k < 40) ∧ ds.length ≤ 40) (fun r => ∃ s', r = .nx s' ∧ ∃ (dr re : Int) (o : Option D), s' = [some (.int a), some (.int t), some (.int many), some (.int dr), some (.int re), o]) ?_ ?_ _ _ ?_
  · rintro s ⟨dr, re, o, rfl, h⟩
    exact ⟨_, rfl, _, _, _, rfl⟩
  · rintro d ds s ⟨dr, re, o, rfl, h1, h2, h3, h4⟩
    obtain ⟨k, rfl, hk⟩ := h3 d (.head _)
    have e : 41 - ds.length = (41 - (D.int (k : Int) :: ds).length) + 1 := by simp only [List.length_cons] at h4 ⊢; omega
    have hk' : ((k : Int) + 1).natAbs < 2 ^ 6 := by omega
    have m3 : mulOk 1000003 ((k : Int) + 1) = true := mulOk_of 20 6 (by decide) hk'
    have ht' : (t + 1000003 * ((k : Int) + 1)).natAbs < 2 ^ 100 := by omega
    obtain ⟨w, ew, w0, w1⟩ := mixed_run Fm (n := m) hm ha ht'
    generalize hL : 41 - (D.int (k : Int) :: ds).length = L at h1 h2 e
    have hL40 : L ≤ 40 := by rw [← hL]; simp only [List.length_cons]; omega
    have m1 : mulOk dr 1000000000000000 = true := mulOk_of (60 * L) 60 h1 (by decide) (by omega)
    have m2 : mulOk re 1000000000000000 = true := mulOk_of (60 * L) 60 h2 (by decide) (by omega)
    by_cases hc : many * 1000 ≤ re
    · exact ⟨_, .brk [some (.int a), some (.int t), some (.int many), some (.int dr), some (.int re), some (.int (k : Int))], rfl, (by simp [fillA, ioA, goneA, lentA, okA, putAll, wipeE, shrAll, ioOut, isPk, pk, isiD, own, owns, shr, shrs, noL, noLs, pln, plns, noIo, tgSlots, wide_b1, mm, hc]), _, rfl, _, _, _, rfl⟩
    · have hb : evSs (runD tb pr m) (wide_b1 iMixed) [] [some (.int a), some (.int t), some (.int many), some (.int dr), some (.int re), some (.int (k : Int))] = .nx [some (.int a), some (.int t), some (.int many), some (.int (dr * 1000000000000000 + w)), some (.int (re * 1000000000000000)), some (.int (k : Int))] := by
        simp [fillA, ioA, goneA, lentA, okA, putAll, wipeE, shrAll, ioOut, isPk, pk, isiD, own, owns, shr, shrs, noL, noLs, pln, plns, noIo, tgSlots, wide_b1, mm, hc, pow15, pow15v, ew, m1, m2, m3]
      have q1 : (dr * 1000000000000000).natAbs < 2 ^ (60 * L + 50) := natAbs_mul_lt h1 (b := 50) (by decide) (by omega)
      have q2 : (re * 1000000000000000).natAbs < 2 ^ (60 * (L + 1)) := natAbs_mul_lt h2 (b := 60) (by decide) (by omega)
      have q3 : w.natAbs < 2 ^ (60 * L + 50) := Nat.lt_of_lt_of_le (m := 2 ^ 50) (by omega) (Nat.pow_le_pow_right (by decide) (by omega))
      refine ⟨_, _, rfl, hb, _, _, _, rfl, ?_, ?_, fun d hd => h3 d (.tail _ hd), ?_⟩
      · rw [e]; exact natAbs_add_lt (a := 60 * L + 50) q1 q3 (by omega)
      · rw [e]; exact q2
      · simp only [List.length_cons] at h4; omega
  · refine ⟨v, 1000000000000000, none, rfl, ?_, ?_, rngD_nat 40, ?_⟩
    · rw [rngD_len]
      omega
    · rw [rngD_len]; decide
    · rw [rngD_len]; omega

theorem wide_run (Fm : Fn tb pr iMixed mixedF) (F : Fn tb pr iWide (wideF iMixed)) {n : Nat} (hn : 2 ≤ n) {a t many : Int} (ha : a.natAbs < 2 ^ 100) (ht0 : 0 ≤ t) (ht : t < 2 ^ 90) (hm : 0 < many) (hm2 : many.natAbs < 2 ^ 250) : ∃ v : Int, runD tb pr n iWide [.int a, .int t, .int many] = .ok (.int v) [] ∧ 0 ≤ v ∧ v < many := by
  obtain ⟨m, rfl⟩ : ∃ m, n = m + 1 := ⟨n - 1, by omega⟩
  rw [F.run rfl]
  obtain ⟨v, ev, v0, v1⟩ := mixed_run Fm (n := m) (by omega) ha (natAbs_lt_mono (i := t) (a := 90) (by omega))
  obtain ⟨s', e, dr, re, o, rfl⟩ := wide_loop Fm (m := m) (by omega) ha ht0 ht hm2 v v0 v1
  simp [fillA, ioA, goneA, lentA, okA, putAll, wipeE, shrAll, ioOut, isPk, pk, isiD, own, owns, shr, shrs, noL, noLs, pln, plns, noIo, tgSlots, wideF, ev, pow15, pow15v, rng40, e, hm]
  exact ⟨Int.emod_nonneg _ (by omega), Int.emod_lt_of_pos _ hm⟩

def stD (ns : List Int) (p b q a c : Int) : D := .lst true [.lst true (ns.map .int), .int p, .int b, .int q, .int a, .int c]
/-- the law's store of draws -/
def St (ns : List Int) (m : Nat) (d : D) : Prop := ∃ p b q a c : Int, d = stD ns p b q a c ∧ 0 ≤ p ∧ p ≤ ns.length ∧ 0 ≤ b ∧ 0 ≤ q ∧ q ≤ 2 ∧ 0 ≤ a ∧ a ≤ 10 ^ 15 ∧ 0 ≤ c ∧ c ≤ m
theorem own_ints : ∀ ns : List Int, owns (ns.map .int) = true
  | [] => rfl
  | n :: ns => by simp only [List.map_cons, owns, own, own_ints ns, Bool.and_self]
theorem own_st {ns : List Int} {p b q a c : Int} : own (stD ns p b q a c) = true := by simp [fillA, ioA, goneA, lentA, okA, putAll, wipeE, shrAll, ioOut, isPk, pk, isiD, own, owns, shr, shrs, noL, noLs, pln, plns, noIo, tgSlots, stD, own_ints]
theorem St.own {ns : List Int} {m : Nat} {d : D} (h : St ns m d) : own d = true := by
  obtain ⟨p, b, q, a, c, rfl, _⟩ := h
  exact own_st
theorem St.mono {ns : List Int} {m m' : Nat} {d : D} (h : St ns m d) (hm : m ≤ m') : St ns m' d := by
  obtain ⟨p, b, q, a, c, e, h1, h2, h4, h5, h6, h7, h8, h9, h10⟩ := h
  exact ⟨p, b, q, a, c, e, h1, h2, h4, h5, h6, h7, h8, h9, by omega⟩
theorem st0 {ns : List Int} {p b q a c : Int} : ixD (stD ns p b q a c) (.int 0) = some (.lst true (ns.map .int)) := rfl
theorem st1 {ns : List Int} {p b q a c : Int} : ixD (stD ns p b q a c) (.int 1) = some (.int p) := rfl
theorem st2 {ns : List Int} {p b q a c : Int} : ixD (stD ns p b q a c) (.int 2) = some (.int b) := rfl
theorem st3 {ns : List Int} {p b q a c : Int} : ixD (stD ns p b q a c) (.int 3) = some (.int q) := rfl
theorem st4 {ns : List Int} {p b q a c : Int} : ixD (stD ns p b q a c) (.int 4) = some (.int a) := rfl
theorem st5 {ns : List Int} {p b q a c : Int} : ixD (stD ns p b q a c) (.int 5) = some (.int c) := rfl
theorem atI_ok {α : Type} {xs : List α} {p : Int} (h0 : 0 ≤ p) (h : p < xs.length) : ∃ x, atI xs p = some x ∧ x ∈ xs ∧ xs[p.toNat]? = some x := by
  have hp : p.toNat < xs.length := by omega
  refine ⟨xs[p.toNat], ?_, List.getElem_mem hp, List.getElem?_eq_getElem hp⟩
  unfold atI ixN
  rw [if_pos h0, if_pos h]
  exact List.getElem?_eq_getElem hp
theorem atI_ints {ns : List Int} {p : Int} (h0 : 0 ≤ p) (h : p < ns.length) : ∃ n : Int, atI (ns.map D.int) p = some (.int n) := by
  obtain ⟨x, e, hx, _⟩ := atI_ok (xs := ns.map D.int) h0 (by rw [List.length_map]; exact h)
  obtain ⟨n, _, rfl⟩ := List.mem_map.mp hx
  exact ⟨n, e⟩
/-- a place of the store written -/
def st1' (d : D) (i : Nat) (v : Int) : Option D := match d with
  | .lst true xs => some (.lst true (xs.set i (.int v)))
  | _ => none
theorem move_run (Fm : Fn tb pr iMixed mixedF) (F : Fn tb pr iMove (moveF iMixed)) {n : Nat} (hn : 2 ≤ n) {ns : List Int} {m : Nat} {p b q a c : Int} (hp0 : 0 ≤ p) (hp : p < ns.length) (hl : ns.length ≤ 1000) (b0 : 0 ≤ b) (q0 : 0 ≤ q) (q2 : q ≤ 2) (a0 : 0 ≤ a) (a1 : a ≤ 10 ^ 15) (c0 : 0 ≤ c) (c1 : c ≤ m) :
    ∃ p' b' q' a' : Int, runD tb pr n iMove [stD ns p b q a c] = .ok .non [stD ns p' b' q' a' c] ∧ 0 ≤ p' ∧ p' ≤ ns.length ∧ 0 ≤ b' ∧ 0 ≤ q' ∧ q' ≤ 2 ∧ 0 ≤ a' ∧ a' ≤ 10 ^ 15 := by
  obtain ⟨k, rfl⟩ : ∃ k, n = k + 1 := ⟨n - 1, by omega⟩
  rw [F.run rfl]
  obtain ⟨x, ex⟩ := atI_ints (ns := ns) hp0 hp
  have x0 : 0 ≤ x % 2305843009213693951 := Int.emod_nonneg _ (by decide)
  have x1 : x % 2305843009213693951 < 2305843009213693951 := Int.emod_lt_of_pos _ (by decide)
  obtain ⟨v, ev, v0, v1⟩ := mixed_run Fm (n := k) (by omega) (a := a + x % 2305843009213693951) (t := p + 7) (by omega) (by omega)
  have w1 : powOk 10 18 = true := by decide
  have w2 : powOk 10 60 = true := by decide
  have w3 : powOk 1000000000000000000000000000000000000000000000000000000000000 12 = true := by decide
  have pw1 : (10 : Int) ^ (18 : Int).toNat = 1000000000000000000 := by decide
  have pw2 : (10 : Int) ^ (60 : Int).toNat = 1000000000000000000000000000000000000000000000000000000000000 := by decide
  have pw3 : (0 : Int) < 1000000000000000000000000000000000000000000000000000000000000 ^ (12 : Int).toNat := by decide
  have xx : ixD (.lst true (ns.map D.int)) (.int p) = some (.int x) := ex
  have i4 : ixN 6 4 = some 4 := by decide
  have i1 : ixN 6 1 = some 1 := by decide
  have i2 : ixN 6 2 = some 2 := by decide
  have i3 : ixN 6 3 = some 3 := by decide
  have big : ∀ y : Int, 0 ≤ y % 1000000000000000000000000000000000000000000000000000000000000 ^ (12 : Int).toNat := fun y => Int.emod_nonneg y (Int.ne_of_gt pw3)
  by_cases hc : 1000000000000000000 ≤ x
  · refine ⟨p + 1, (if x < 0 then -x else x) % 1000000000000000000000000000000000000000000000000000000000000 ^ (12 : Int).toNat, q, v, ?_, by omega, by omega, big _, q0, q2, v0, v1⟩
    simp [fillA, ioA, goneA, lentA, okA, putAll, wipeE, shrAll, ioOut, isPk, pk, isiD, own, owns, shr, shrs, noL, noLs, pln, plns, noIo, tgSlots, moveF, stD, ex, xx, ev, w1, w2, w3, pw1, pw2, pw3, hc, i4, i1, i2, i3, st0, st1, st4]
  · by_cases hd : x ≤ -1000000000000000000
    · refine ⟨p + 1, (if x < 0 then -x else x) % 1000000000000000000000000000000000000000000000000000000000000 ^ (12 : Int).toNat, q, v, ?_, by omega, by omega, big _, q0, q2, v0, v1⟩
      simp [fillA, ioA, goneA, lentA, okA, putAll, wipeE, shrAll, ioOut, isPk, pk, isiD, own, owns, shr, shrs, noL, noLs, pln, plns, noIo, tgSlots, moveF, stD, ex, xx, ev, w1, w2, w3, pw1, pw2, pw3, hc, hd, i4, i1, i2, i3, st0, st1, st4]
    · refine ⟨p + 1, b, 2, v, ?_, by omega, by omega, b0, by omega, by omega, v0, v1⟩
      simp [fillA, ioA, goneA, lentA, okA, putAll, wipeE, shrAll, ioOut, isPk, pk, isiD, own, owns, shr, shrs, noL, noLs, pln, plns, noIo, tgSlots, moveF, stD, ex, xx, ev, w1, w2, w3, pw1, pw2, pw3, hc, hd, i4, i1, i2, i3, st0, st1, st4]

theorem take_loop (Fm : Fn tb pr iMixed mixedF) (Fv : Fn tb pr iMove (moveF iMixed)) {n : Nat} (hn : 2 ≤ n) {ns : List Int} {m : Nat} (hl : ns.length ≤ 1000) {many : Int} {c : Int} (c0 : 0 ≤ c) (c1 : c ≤ m) {p0 b0 q0 a0 : Int} (h1 : 0 ≤ p0) (h2 : p0 ≤ ns.length) (h4 : 0 ≤ b0) (h5 : 0 ≤ q0) (h6 : q0 ≤ 2) (h7 : 0 ≤ a0) (h8 : a0 ≤ 10 ^ 15) :
    ∃ s', forL (.nm 2) (evSs (runD tb pr n) (take_b1 iMove) [0]) (rngD 0 1 ns.length) [some (stD ns p0 b0 q0 a0 c), some (.int many), none, none] = .nx s' ∧ ∃ (p b q a : Int) (o : Option D), s' = [some (stD ns p b q a c), some (.int many), o, none] ∧ 0 ≤ p ∧ p ≤ ns.length ∧ 0 ≤ b ∧ 0 ≤ q ∧ q ≤ 2 ∧ 0 ≤ a ∧ a ≤ 10 ^ 15 := by
  refine forL_rule (fun _ s => ∃ (p b q a : Int) (o : Option D), s = [some (stD ns p b q a c), some (.int many), o, none] ∧ 0 ≤ p ∧ p ≤ ns.length ∧ 0 ≤ b ∧ 0 ≤ q ∧ q ≤ 2 ∧ 0 ≤ a ∧ a ≤ 10 ^ 15) (fun r => ∃ s', r = .nx s' ∧ ∃ (p b q a : Int) (o : Option D), s' = [some (stD ns p b q a c), some (.int many), o, none] ∧ 0 ≤ p ∧ p ≤ ns.length ∧ 0 ≤ b ∧ 0 ≤ q ∧ q ≤ 2 ∧ 0 ≤ a ∧ a ≤ 10 ^ 15) ?_ ?_ _ _ ⟨p0, b0, q0, a0, none, rfl, h1, h2, h4, h5, h6, h7, h8⟩
  · rintro s ⟨p, b, q, a, o, rfl, h⟩
    exact ⟨_, rfl, _, _, _, _, _, rfl, h⟩
  · rintro d ds s ⟨p, b, q, a, o, rfl, h1, h2, h4, h5, h6, h7, h8⟩
    have len : ixD (stD ns p b q a c) (.int 0) = some (.lst true (ns.map .int)) := rfl
    by_cases g1 : 0 < b
    · exact ⟨_, .brk [some (stD ns p b q a c), some (.int many), some d, none], rfl, (by simp [fillA, ioA, goneA, lentA, okA, putAll, wipeE, shrAll, ioOut, isPk, pk, isiD, own, owns, shr, shrs, noL, noLs, pln, plns, noIo, tgSlots, take_b1, st0, st1, st2, st3, g1]), _, rfl, _, _, _, _, _, rfl, h1, h2, h4, h5, h6, h7, h8⟩
    · by_cases g2 : 0 < q
      · exact ⟨_, .brk [some (stD ns p b q a c), some (.int many), some d, none], rfl, (by simp [fillA, ioA, goneA, lentA, okA, putAll, wipeE, shrAll, ioOut, isPk, pk, isiD, own, owns, shr, shrs, noL, noLs, pln, plns, noIo, tgSlots, take_b1, st0, st1, st2, st3, g1, g2]), _, rfl, _, _, _, _, _, rfl, h1, h2, h4, h5, h6, h7, h8⟩
      · by_cases g3 : (ns.length : Int) ≤ p
        · exact ⟨_, .brk [some (stD ns p b q a c), some (.int many), some d, none], rfl, (by simp [fillA, ioA, goneA, lentA, okA, putAll, wipeE, shrAll, ioOut, isPk, pk, isiD, own, owns, shr, shrs, noL, noLs, pln, plns, noIo, tgSlots, take_b1, st0, st1, st2, st3, g1, g2, g3]), _, rfl, _, _, _, _, _, rfl, h1, h2, h4, h5, h6, h7, h8⟩
        · obtain ⟨p', b', q', a', e, hh⟩ := move_run Fm Fv (n := n) hn (m := m) h1 (by omega) hl h4 h5 h6 h7 h8 c0 c1
          exact ⟨_, .nx [some (stD ns p' b' q' a' c), some (.int many), some d, none], rfl, (by simp [fillA, ioA, goneA, lentA, okA, putAll, wipeE, shrAll, ioOut, isPk, pk, isiD, own, owns, shr, shrs, noL, noLs, pln, plns, noIo, tgSlots, take_b1, st0, st1, st2, st3, g1, g2, g3, e, own_st]), _, _, _, _, _, rfl, hh⟩
theorem rngL_1 {j : Int} (h1 : -(2 ^ 62) ≤ j) (h2 : j < 2 ^ 62) : rngL [.int j] = some (rngD 0 1 j.toNat) := by
  show (if (decide (-(2 ^ 62) ≤ j) && decide (j < 2 ^ 62)) = true then some (rngD 0 1 j.toNat) else none) = _
  exact if_pos (Bool.and_eq_true_iff.mpr ⟨decide_eq_true h1, decide_eq_true h2⟩)
theorem rngL_nat {k : Nat} (h : k ≤ 1000) : rngL [.int (k : Int)] = some (rngD 0 1 k) := by
  have h1 : -(2 ^ 62) ≤ (k : Int) := Int.le_trans (by decide) (Int.natCast_nonneg k)
  have h2 : (k : Int) < 2 ^ 62 := Int.lt_of_le_of_lt (Int.ofNat_le.mpr h) (by decide)
  rw [rngL_1 h1 h2, Int.toNat_natCast]
theorem take_run (Fm : Fn tb pr iMixed mixedF) (Fw : Fn tb pr iWide (wideF iMixed)) (Fv : Fn tb pr iMove (moveF iMixed)) (F : Fn tb pr iTake (takeF iMove iWide)) {n : Nat} (hn : 3 ≤ n) {ns : List Int} {m : Nat} {d : D} (h : St ns m d) (hl : ns.length ≤ 1000) (hm : m ≤ 2 ^ 80) {many : Int} (hb : many.natAbs < 2 ^ 250) :
    ∃ (v : Int) (d' : D), runD tb pr n iTake [d, .int many] = .ok (.int v) [d'] ∧ St ns (m + 1) d' ∧ 0 ≤ v ∧ (v < many ∨ v = 0) := by
  obtain ⟨k, rfl⟩ : ∃ k, n = k + 1 := ⟨n - 1, by omega⟩
  rw [F.run rfl]
  by_cases h2 : many < 2
  · refine ⟨0, d, ?_, h.mono (by omega), by omega, .inr rfl⟩
    simp [fillA, ioA, goneA, lentA, okA, putAll, wipeE, shrAll, ioOut, isPk, pk, isiD, own, owns, shr, shrs, noL, noLs, pln, plns, noIo, tgSlots, takeF, h2]
  obtain ⟨p, b, q, a, c, rfl, h1, h2', h4, h5, h6, h7, h8, h9, h10⟩ := h
  have i5 : ixN 6 5 = some 5 := by decide
  have i2 : ixN 6 2 = some 2 := by decide
  have i3 : ixN 6 3 = some 3 := by decide
  obtain ⟨s', e, p', b', q', a', o, rfl, k1, k2, k4, k5, k6, k7, k8⟩ := take_loop (many := many) Fm Fv (n := k) (by omega) (m := m + 1) hl (c := c + 1) (by omega) (by omega) h1 h2' h4 h5 h6 h7 h8
  have dv : divOk many = true := divOk_of 250 (by omega) hb
  have m0 : 0 < many := by omega
  simp only [stD] at e
  by_cases g : 0 < b'
  · refine ⟨b' % many, stD ns p' (b' / many) q' a' (c + 1), ?_, ⟨_, _, _, _, _, rfl, k1, k2, Int.ediv_nonneg k4 (by omega), k5, k6, k7, k8, by omega, by omega⟩, Int.emod_nonneg _ (by omega), .inl (Int.emod_lt_of_pos _ m0)⟩
    · simp [fillA, ioA, goneA, lentA, okA, putAll, wipeE, shrAll, ioOut, isPk, pk, isiD, own, owns, shr, shrs, noL, noLs, pln, plns, noIo, tgSlots, takeF, h2, stD, i5, i2, i3, rngL_nat hl, e, g, m0, dv]
  · obtain ⟨v, ev, v0, v1⟩ := wide_run Fm Fw (n := k) (by omega) (a := a') (t := c + 1) (by omega) (by omega) (by omega) m0 hb
    refine ⟨v, stD ns p' b' (if q' - 1 > 0 then q' - 1 else 0) a' (c + 1), ?_, ⟨_, _, _, _, _, rfl, k1, k2, k4, by split <;> omega, by split <;> omega, k7, k8, by omega, by omega⟩, v0, .inl v1⟩
    simp [fillA, ioA, goneA, lentA, okA, putAll, wipeE, shrAll, ioOut, isPk, pk, isiD, own, owns, shr, shrs, noL, noLs, pln, plns, noIo, tgSlots, takeF, h2, stD, i5, i2, i3, rngL_nat hl, e, g, ev]

theorem st_own_if {ns : List Int} {m : Nat} {d : D} (h : St ns m d) : (own d && true) = true := by rw [h.own]; rfl
theorem from_run (Fm : Fn tb pr iMixed mixedF) (Fw : Fn tb pr iWide (wideF iMixed)) (Fv : Fn tb pr iMove (moveF iMixed)) (Ft : Fn tb pr iTake (takeF iMove iWide)) (F : Fn tb pr iFrom (fromF iTake)) {n : Nat} (hn : 4 ≤ n) {ns : List Int} {m : Nat} {d : D} (h : St ns m d) (hl : ns.length ≤ 1000) (hm : m ≤ 2 ^ 80) {lo hi : Int} (h1 : lo.natAbs < 2 ^ 248) (h2 : hi.natAbs < 2 ^ 248) :
    ∃ (v : Int) (d' : D), runD tb pr n iFrom [d, .int lo, .int hi] = .ok (.int v) [d'] ∧ St ns (m + 1) d' ∧ lo ≤ v ∧ (lo ≤ hi → v ≤ hi) := by
  obtain ⟨k, rfl⟩ : ∃ k, n = k + 1 := ⟨n - 1, by omega⟩
  rw [F.run rfl]
  obtain ⟨v, d', e, hs, v0, v1⟩ := take_run Fm Fw Fv Ft (n := k) (by omega) h hl hm (many := hi - lo + 1) (by omega)
  refine ⟨lo + v, d', ?_, hs, by omega, fun _ => by omega⟩
  simp [fillA, ioA, goneA, lentA, okA, putAll, wipeE, shrAll, ioOut, isPk, pk, isiD, own, owns, shr, shrs, noL, noLs, pln, plns, noIo, tgSlots, fromF, e, hs.own]
theorem pick_run (Fm : Fn tb pr iMixed mixedF) (Fw : Fn tb pr iWide (wideF iMixed)) (Fv : Fn tb pr iMove (moveF iMixed)) (Ft : Fn tb pr iTake (takeF iMove iWide)) (F : Fn tb pr iPick (pickF iTake)) {n : Nat} (hn : 4 ≤ n) {ns : List Int} {m : Nat} {d : D} (h : St ns m d) (hl : ns.length ≤ 1000) (hm : m ≤ 2 ^ 80) {xs : List D} (h1 : xs ≠ []) (h2 : xs.length ≤ 1000000) :
    ∃ (x d' : D), runD tb pr n iPick [d, .lst false (shrs xs)] = .ok (shr x) [d'] ∧ St ns (m + 1) d' ∧ x ∈ xs := by
  obtain ⟨k, rfl⟩ : ∃ k, n = k + 1 := ⟨n - 1, by omega⟩
  rw [F.run rfl]
  have hp : 0 < xs.length := List.length_pos_iff.mpr h1
  obtain ⟨v, d', e, hs, v0, v1⟩ := take_run Fm Fw Fv Ft (n := k) (by omega) h hl hm (many := (xs.length : Int)) (by omega)
  obtain ⟨y, ey, hy, _⟩ := atI_ok (xs := shrs xs) v0 (by rw [shrs_map, List.length_map]; omega)
  have hy' := hy
  rw [shrs_map] at hy'
  obtain ⟨x, hx, rfl⟩ := List.mem_map.mp hy'
  refine ⟨x, d', ?_, hs, hx⟩
  have l : (shrs xs).length = xs.length := by rw [shrs_map, List.length_map]
  simp [fillA, ioA, goneA, lentA, okA, putAll, wipeE, shrAll, ioOut, isPk, pk, isiD, own, owns, shr, shrs, noL, noLs, pln, plns, noIo, tgSlots, pickF, e, hs.own, shrs2, l, ey]
theorem picks_run (Fm : Fn tb pr iMixed mixedF) (Fw : Fn tb pr iWide (wideF iMixed)) (Fv : Fn tb pr iMove (moveF iMixed)) (Ft : Fn tb pr iTake (takeF iMove iWide)) (F : Fn tb pr iPick (pickF iTake)) {n : Nat} (hn : 4 ≤ n) {ns : List Int} {m : Nat} {d : D} (h : St ns m d) (hl : ns.length ≤ 1000) (hm : m ≤ 2 ^ 80) {x : Str} (h1 : 0 < x.length) (h2 : x.length ≤ 1000000) :
    ∃ (c : Nat) (d' : D), runD tb pr n iPick [d, .str x] = .ok (.str ⟨#[c]⟩) [d'] ∧ St ns (m + 1) d' ∧ c ∈ x.cps.toList := by
  obtain ⟨k, rfl⟩ : ∃ k, n = k + 1 := ⟨n - 1, by omega⟩
  rw [F.run rfl]
  obtain ⟨v, d', e, hs, v0, v1⟩ := take_run Fm Fw Fv Ft (n := k) (by omega) h hl hm (many := (x.length : Int)) (by omega)
  obtain ⟨y, ey, hy, _⟩ := atI_ok (xs := x.cps.toList) v0 (by show v < ((x.cps.size : Nat) : Int); show v < (x.length : Int); omega)
  refine ⟨y, d', ?_, hs, hy⟩
  have l : lenOk x.length = true := by
    unfold lenOk
    rw [decide_eq_true_eq, sizeLine_eq]
    omega
  have ix : ixD (.str x) (.int v) = some (.str ⟨#[y]⟩) := by
    show (if lenOk x.length then (atI x.cps.toList v).map fun c => D.str ⟨#[c]⟩ else none) = _
    rw [if_pos l, ey]
    rfl
  simp [fillA, ioA, goneA, lentA, okA, putAll, wipeE, shrAll, ioOut, isPk, pk, isiD, own, owns, shr, shrs, noL, noLs, pln, plns, noIo, tgSlots, pickF, e, hs.own, l, ix]
theorem rare_run (Fm : Fn tb pr iMixed mixedF) (Fw : Fn tb pr iWide (wideF iMixed)) (Fv : Fn tb pr iMove (moveF iMixed)) (Ft : Fn tb pr iTake (takeF iMove iWide)) (F : Fn tb pr iRare (rareF iTake)) {n : Nat} (hn : 4 ≤ n) {ns : List Int} {m : Nat} {d : D} (h : St ns m d) (hl : ns.length ≤ 1000) (hm : m ≤ 2 ^ 80) {many : Int} (h1 : many.natAbs < 2 ^ 250) :
    ∃ (b : Bool) (d' : D), runD tb pr n iRare [d, .int many] = .ok (.bl b) [d'] ∧ St ns (m + 1) d' := by
  obtain ⟨k, rfl⟩ : ∃ k, n = k + 1 := ⟨n - 1, by omega⟩
  rw [F.run rfl]
  obtain ⟨v, d', e, hs, v0, v1⟩ := take_run Fm Fw Fv Ft (n := k) (by omega) h hl hm h1
  refine ⟨decide (v = 0), d', ?_, hs⟩
  simp [fillA, ioA, goneA, lentA, okA, putAll, wipeE, shrAll, ioOut, isPk, pk, isiD, own, owns, shr, shrs, noL, noLs, pln, plns, noIo, tgSlots, rareF, e, hs.own]
theorem start_run {iStart : Nat} (F : Fn tb pr iStart startF) {n : Nat} (hn : 1 ≤ n) {ns : List Int} : ∃ d', runD tb pr n iStart [.scr ns] = .ok d' [] ∧ St ns 0 d' := by
  obtain ⟨k, rfl⟩ : ∃ k, n = k + 1 := ⟨n - 1, by omega⟩
  rw [F.run rfl]
  refine ⟨stD ns 0 0 0 7 0, ?_, ⟨0, 0, 0, 7, 0, rfl, by omega, by omega, by omega, by omega, by omega, by omega, by omega, by omega, by omega⟩⟩
  simp [fillA, ioA, goneA, lentA, okA, putAll, wipeE, shrAll, ioOut, isPk, pk, isiD, own, owns, shr, shrs, noL, noLs, pln, plns, noIo, tgSlots, startF, stD, lenOk_eq]
end
end MP
set_option linter.all false
set_option maxRecDepth 100000
set_option maxHeartbeats 1000000
namespace MP
open PySem PySem.Spec PyProof.Rows L2
section
variable {tb : Nat → Option FD} {pr : Nat → Option ((Nat → List D → CR) → List D → CR)} {iCopy iEqual iTold iSpoil iAsked iCall : Nat}
/-! the text of data holds signs alone -/
def sOk (x : Str) : Prop := ∀ c ∈ x.cps.toList, c < 0x110000
theorem char_lt (c : Char) : c.toNat < 0x110000 := by
  have := c.valid
  rcases this with h | ⟨_, h⟩
  · exact Nat.lt_trans h (by decide)
  · exact h
theorem sOk_of (s : String) : sOk (Str.ofString s) := by
  rw [sOk, Str.ofString_eq_toList]
  intro c hc
  obtain ⟨d, _, rfl⟩ := List.mem_map.mp (show c ∈ s.toList.map Char.toNat from hc)
  exact char_lt d
theorem sOk_append {x y : Str} (hx : sOk x) (hy : sOk y) : sOk (x ++ y) := by
  intro c hc
  have e : (x ++ y).cps.toList = x.cps.toList ++ y.cps.toList := by
    show (x.cps ++ y.cps).toList = _
    rw [Array.toList_append]
  rw [e] at hc
  rcases List.mem_append.mp hc with h | h
  · exact hx c h
  · exact hy c h
theorem sOk_iff {x : Str} (h : sOk x) : PyData.strOk x = true := by
  unfold PyData.strOk
  rw [← Array.all_toList, List.all_eq_true]
  exact fun c hc => decide_eq_true (h c hc)
theorem sOk_of_strOk {x : Str} (h : PyData.strOk x = true) : sOk x := by
  unfold PyData.strOk at h
  rw [← Array.all_toList, List.all_eq_true] at h
  exact fun c hc => of_decide_eq_true (h c hc)
theorem reprChar_ok {q c : Nat} (hq : q < 0x110000) (hc : c < 0x110000) : ∀ y ∈ Builtin.Str.reprChar q c, y < 0x110000 := by
  have hex : ∀ w, ∀ y ∈ (List.replicate (w - ((Nat.toDigits 16 c).map Char.toNat).length) 48 ++ (Nat.toDigits 16 c).map Char.toNat), y < 0x110000 := by
    intro w y hy
    rcases List.mem_append.mp hy with h | h
    · rw [(List.mem_replicate.mp h).2]; decide
    · obtain ⟨d, _, rfl⟩ := List.mem_map.mp h
      exact char_lt d
  intro y hy
  unfold Builtin.Str.reprChar at hy
  split at hy
  · simp only [List.mem_cons, List.not_mem_nil, or_false] at hy
    rcases hy with rfl | rfl
    · decide
    · exact hc
  · split at hy
    · simp only [List.mem_cons, List.not_mem_nil, or_false] at hy
      omega
    · split at hy
      · simp only [List.mem_cons, List.not_mem_nil, or_false] at hy
        omega
      · split at hy
        · simp only [List.mem_cons, List.not_mem_nil, or_false] at hy
          omega
        · split at hy
          · simp only [List.mem_cons, List.not_mem_nil, or_false] at hy
            omega
          · split at hy
            · rcases List.mem_append.mp hy with h | h
              · simp only [List.mem_cons, List.not_mem_nil, or_false] at h
                omega
              · exact hex 2 y h
            · split at hy
              · rcases List.mem_append.mp hy with h | h
                · simp only [List.mem_cons, List.not_mem_nil, or_false] at h
                  omega
                · exact hex 4 y h
              · rcases List.mem_append.mp hy with h | h
                · simp only [List.mem_cons, List.not_mem_nil, or_false] at h
                  omega
                · exact hex 8 y h
theorem foldl_repr_ok {q : Nat} (hq : q < 0x110000) : ∀ (l : List Nat) (acc : Array Nat), (∀ c ∈ l, c < 0x110000) → (∀ c ∈ acc.toList, c < 0x110000) → ∀ c ∈ (l.foldl (fun out c => out ++ (Builtin.Str.reprChar q c).toArray) acc).toList, c < 0x110000
  | [], acc, _, ha => ha
  | c :: r, acc, hl, ha => by
    refine foldl_repr_ok hq r _ (fun x hx => hl x (.tail _ hx)) fun y hy => ?_
    rw [Array.toList_append] at hy
    rcases List.mem_append.mp hy with h | h
    · exact ha y h
    · exact reprChar_ok hq (hl c (.head _)) y h
theorem sOk_repr {x : Str} (h : sOk x) : sOk (reprText x) := by
  have hq : reprQuote x < 0x110000 := by unfold reprQuote; split <;> decide
  intro c hc
  unfold reprText at hc
  simp only [Array.toList_push] at hc
  rcases List.mem_append.mp hc with h1 | h1
  · rw [← Array.foldl_toList] at h1
    exact foldl_repr_ok hq x.cps.toList _ h (fun c hc => by simp at hc; omega) c h1
  · simp only [List.mem_cons, List.not_mem_nil, or_false] at h1
    omega
theorem sOk_textFrom : ∀ (ts : List Str) (k : Nat) (acc : Str), (∀ t ∈ ts, sOk t) → sOk acc → sOk (textFrom k acc ts)
  | [], k, acc, _, h => h
  | t :: r, k, acc, ht, h => sOk_textFrom r (k + 1) _ (fun x hx => ht x (.tail _ hx)) (sOk_append (sOk_append h (sOk_of _)) (ht t (.head _)))
theorem sOk_join : ∀ (ts : List Str), (∀ t ∈ ts, sOk t) → sOk (Str.join ", " ts)
  | [], _ => sOk_of ""
  | [x], h => h x (.head _)
  | x :: y :: r, h => sOk_append (sOk_append (h x (.head _)) (sOk_of _)) (sOk_join (y :: r) fun t ht => h t (.tail _ ht))
mutual
theorem sOk_shown : ∀ d, fine d = true → sOk (pd d).shown
  | .lst _ xs, h => by
    simp only [fine, Bool.and_eq_true] at h
    simp only [pd, PyData.shown]
    exact sOk_append (sOk_textFrom _ 0 _ (sOks_shown xs h.1) (sOk_of _)) (sOk_of _)
  | .tup xs, h => by
    simp only [fine, Bool.and_eq_true] at h
    simp only [pd, PyData.shown]
    exact sOk_append (sOk_append (sOk_of _) (sOk_join _ (sOks_shown xs h.1))) (sOk_of _)
  | .str x, h => by
    simp only [fine, Bool.and_eq_true] at h
    simp only [pd, PyData.shown]
    exact sOk_repr (sOk_of_strOk h.1)
  | .int i, h => by
    simp only [pd, PyData.shown]
    exact sOk_of _
  | .bl b, _ => by cases b <;> simp only [pd, PyData.shown] <;> exact sOk_of _
  | .non, _ => by simp only [pd, PyData.shown]; exact sOk_of _
  | .exc _, h | .scr _, h => by simp [fillA, ioA, goneA, lentA, okA, putAll, wipeE, shrAll, ioOut, isPk, pk, isiD, own, owns, shr, shrs, noL, noLs, pln, plns, noIo, tgSlots, fine] at h
theorem sOks_shown : ∀ d, fines d = true → ∀ t ∈ PyData.shownAll (pds d), sOk t
  | [], _ => fun t ht => by simp [fillA, ioA, goneA, lentA, okA, putAll, wipeE, shrAll, ioOut, isPk, pk, isiD, own, owns, shr, shrs, noL, noLs, pln, plns, noIo, tgSlots, pds, PyData.shownAll] at ht
  | x :: xs, h => fun t ht => by
    simp only [fines, Bool.and_eq_true] at h
    simp only [pds, PyData.shownAll] at ht
    rcases List.mem_cons.mp ht with rfl | ht
    · exact sOk_shown x h.1
    · exact sOks_shown xs h.2 t ht
end
theorem cmpD_eqS {x : Str} (h : sOk x) : cmpD .eq (.str x) (.str x) = some true := by
  have hs : shaped (.str x) = true := by
    simp only [shaped, SeqAt.shaped, pln, pd, PyData.canLay0, PyData.depth, sOk_iff h]
    decide
  show (if shaped (.str x) && shaped (.str x) then some (eqD (.str x) (.str x)) else none) = _
  rw [hs]
  simp [fillA, ioA, goneA, lentA, okA, putAll, wipeE, shrAll, ioOut, isPk, pk, isiD, own, owns, shr, shrs, noL, noLs, pln, plns, noIo, tgSlots, eqD, pd, PyData.eqv]
theorem len_shrs (xs : List D) : (shrs xs).length = xs.length := by rw [shrs_map, List.length_map]
theorem len_freshs (xs : List D) : (freshs xs).length = xs.length := by rw [freshs_map, List.length_map]
theorem fine_mem : ∀ {xs : List D} {x : D}, fines xs = true → x ∈ xs → fine x = true
  | y :: xs, x, h, hx => by
    simp only [fines, Bool.and_eq_true] at h
    rcases List.mem_cons.mp hx with rfl | hx
    · exact h.1
    · exact fine_mem h.2 hx
theorem dep_mem : ∀ {xs : List D} {x : D}, x ∈ xs → dep x ≤ deps xs
  | y :: xs, x, hx => by
    simp only [deps]
    rcases List.mem_cons.mp hx with rfl | hx
    · omega
    · have := dep_mem hx; omega
theorem copy_run (F : Fn tb pr iCopy (copyF iCopy)) : ∀ (j : Nat) (d : D) (n : Nat), dep d ≤ j → fine d = true → j < n → runD tb pr n iCopy [shr d, .int (j : Int)] = .ok (fresh d) []
  | 0, d, n, hd, hf, hn => by
    obtain ⟨k, rfl⟩ : ∃ k, n = k + 1 := ⟨n - 1, by omega⟩
    rw [F.run rfl]
    cases d with
    | lst o xs => simp only [dep] at hd; omega
    | tup xs => simp only [dep] at hd; omega
    | exc c => simp [fillA, ioA, goneA, lentA, okA, putAll, wipeE, shrAll, ioOut, isPk, pk, isiD, own, owns, shr, shrs, noL, noLs, pln, plns, noIo, tgSlots, fine] at hf
    | scr c => simp [fillA, ioA, goneA, lentA, okA, putAll, wipeE, shrAll, ioOut, isPk, pk, isiD, own, owns, shr, shrs, noL, noLs, pln, plns, noIo, tgSlots, fine] at hf
    | _ => simp [fillA, ioA, goneA, lentA, okA, putAll, wipeE, shrAll, ioOut, isPk, pk, isiD, own, owns, shr, shrs, noL, noLs, pln, plns, noIo, tgSlots, copyF, fresh]
  | j + 1, d, n, hd, hf, hn => by
    obtain ⟨k, rfl⟩ : ∃ k, n = k + 1 := ⟨n - 1, by omega⟩
    rw [F.run rfl]
    have hj : ¬ ((j : Int) + 1 < 1) := by omega
    have hs : (j : Int) + 1 - 1 = (j : Int) := by omega
    have turns : ∀ (o : Option D) (xs : List D), fines xs = true → deps xs ≤ j → lenOk xs.length = true → ∀ e, (e = copy_x1 iCopy ∨ e = copy_x2 iCopy) → lcL (turnL (.nm 2) (fun s => .ok true s) (evX (runD tb pr k) e).val) [2] (shrs xs) [] [o, some (.int ((j : Int) + 1)), none] = .ok (.lst true (freshs xs)) [o, some (.int ((j : Int) + 1)), none] := by
      intro o xs hf hd hl e he
      have := lcL_map (turn := turnL (.nm 2) (fun s => .ok true s) (evX (runD tb pr k) e).val) (ws := [2]) (s := [o, some (.int ((j : Int) + 1)), none]) fresh (shrs xs) [] (fun d hd' => ?_) (by simpa [len_shrs] using hl)
      · rw [this, List.nil_append, ← freshs_map, freshs_shrs]
      · rw [shrs_map] at hd'
        obtain ⟨x, hx, rfl⟩ := List.mem_map.mp hd'
        have ih := copy_run F j x k (Nat.le_trans (dep_mem hx) hd) (fine_mem hf hx) (by omega)
        refine ⟨[o, some (.int ((j : Int) + 1)), some (shr x)], ?_, rfl⟩
        rcases he with rfl | rfl <;> simp [fillA, ioA, goneA, lentA, okA, putAll, wipeE, shrAll, ioOut, isPk, pk, isiD, own, owns, shr, shrs, noL, noLs, pln, plns, noIo, tgSlots, turnL, copy_x1, copy_x2, hs, ih]
    cases d with
    | exc c => simp [fillA, ioA, goneA, lentA, okA, putAll, wipeE, shrAll, ioOut, isPk, pk, isiD, own, owns, shr, shrs, noL, noLs, pln, plns, noIo, tgSlots, fine] at hf
    | scr c => simp [fillA, ioA, goneA, lentA, okA, putAll, wipeE, shrAll, ioOut, isPk, pk, isiD, own, owns, shr, shrs, noL, noLs, pln, plns, noIo, tgSlots, fine] at hf
    | lst o xs =>
      simp only [dep] at hd
      simp only [fine, Bool.and_eq_true] at hf
      have t := turns (some (.lst false (shrs xs))) xs hf.1 (by omega) hf.2 _ (.inl rfl)
      simp [fillA, ioA, goneA, lentA, okA, putAll, wipeE, shrAll, ioOut, isPk, pk, isiD, own, owns, shr, shrs, noL, noLs, pln, plns, noIo, tgSlots, copyF, fresh, hj, giveR, t]
    | tup xs =>
      simp only [dep] at hd
      simp only [fine, Bool.and_eq_true] at hf
      have t := turns (some (.tup (shrs xs))) xs hf.1 (by omega) hf.2 _ (.inr rfl)
      simp [fillA, ioA, goneA, lentA, okA, putAll, wipeE, shrAll, ioOut, isPk, pk, isiD, own, owns, shr, shrs, noL, noLs, pln, plns, noIo, tgSlots, copyF, fresh, hj, giveR, t]
    | _ => simp [fillA, ioA, goneA, lentA, okA, putAll, wipeE, shrAll, ioOut, isPk, pk, isiD, own, owns, shr, shrs, noL, noLs, pln, plns, noIo, tgSlots, copyF, fresh, hj]
theorem equal_run (F : Fn tb pr iEqual equalF) {n : Nat} (hn : 1 ≤ n) {a b : D} (ha : nice a = true) (hb : pln b = true) (h : pd a = pd b) : runD tb pr n iEqual [a, b] = .ok (.bl true) [] := by
  obtain ⟨k, rfl⟩ : ∃ k, n = k + 1 := ⟨n - 1, by omega⟩
  rw [F.run rfl]
  have e1 : cmpD .eq a b = some true := by
    show (if shaped a && shaped b then some (eqD a b) else none) = _
    rw [nice_shaped ha, shaped_congr ha hb h, eq_congr ha h]
    rfl
  have e2 := nice_repr ha
  have e3 := repr_congr ha hb h
  have e4 : cmpD .eq (.str (pd a).shown) (.str (pd a).shown) = some true := cmpD_eqS (sOk_shown a (by simp only [nice, Bool.and_eq_true] at ha; exact ha.1.1))
  simp [fillA, ioA, goneA, lentA, okA, putAll, wipeE, shrAll, ioOut, isPk, pk, isiD, own, owns, shr, shrs, noL, noLs, pln, plns, noIo, tgSlots, equalF, e1, e2, e3, e4]

theorem Fn.told {n f : Nat} {ds : List D} {g : (Nat → List D → CR) → List D → CR} (h : pr f = some g) : runD tb pr (n + 1) f ds = g (runD tb pr n) ds := by
  show (match pr f with
    | some g => g (runD tb pr n) ds
    | none => match tb f with
      | some fd => if ds.length == fd.np then outC fd.io (evSs (runD tb pr n) fd.body fd.io (startE fd ds)) else .stk
      | none => .stk) = _
  rw [h]
mutual
theorem noL_shr : ∀ d : D, noL (shr d) = noL d
  | .lst _ xs => by simp only [noL, shr]
  | .tup xs => by simp only [noL, shr, noLs_shrs xs]
  | .non | .bl _ | .int _ | .str _ | .exc _ | .scr _ => by simp only [shr]
theorem noLs_shrs : ∀ d : List D, noLs (shrs d) = noLs d
  | [] => rfl
  | x :: xs => by simp only [noLs, shrs, noL_shr x, noLs_shrs xs]
end
mutual
theorem noL_fresh : ∀ d : D, noL (fresh d) = noL d
  | .lst _ xs => by simp only [noL, fresh]
  | .tup xs => by simp only [noL, fresh, noLs_freshs xs]
  | .non | .bl _ | .int _ | .str _ | .exc _ | .scr _ => by simp only [fresh]
theorem noLs_freshs : ∀ d : List D, noLs (freshs d) = noLs d
  | [] => rfl
  | x :: xs => by simp only [noLs, freshs, noL_fresh x, noLs_freshs xs]
end
mutual
theorem noL_id : ∀ d : D, noL d = true → fresh d = shr d
  | .lst _ xs, h => by simp [fillA, ioA, goneA, lentA, okA, putAll, wipeE, shrAll, ioOut, isPk, pk, isiD, own, owns, shr, shrs, noL, noLs, pln, plns, noIo, tgSlots, noL] at h
  | .tup xs, h => by simp only [noL] at h; simp only [shr, fresh, noLs_id xs h]
  | .non, _ | .bl _, _ | .int _, _ | .str _, _ | .exc _, _ | .scr _, _ => by simp only [shr, fresh]
theorem noLs_id : ∀ d : List D, noLs d = true → freshs d = shrs d
  | [], _ => rfl
  | x :: xs, h => by simp only [noLs, Bool.and_eq_true] at h; simp only [shrs, freshs, noL_id x h.1, noLs_id xs h.2]
end
mutual
theorem tot_fresh : ∀ d, tot (fresh d) = tot d
  | .lst _ xs => by simp only [tot, fresh, tots_freshs xs]
  | .tup xs => by simp only [tot, fresh, tots_freshs xs]
  | .non | .bl _ | .int _ | .str _ | .exc _ | .scr _ => by simp only [fresh]
theorem tots_freshs : ∀ d, tots (freshs d) = tots d
  | [] => rfl
  | x :: xs => by simp only [tots, freshs, tot_fresh x, tots_freshs xs]
end
mutual
theorem tot_wt : ∀ d, fine d = true → tot d ≤ wt d
  | .lst _ xs, h => by simp only [fine, Bool.and_eq_true] at h; have := tots_wts xs h.1; simp only [tot, wt]; omega
  | .tup xs, h => by simp only [fine, Bool.and_eq_true] at h; have := tots_wts xs h.1; simp only [tot, wt]; omega
  | .non, _ | .bl _, _ | .int _, _ | .str _, _ => by simp only [tot, wt]; omega
  | .exc _, h | .scr _, h => by simp [fillA, ioA, goneA, lentA, okA, putAll, wipeE, shrAll, ioOut, isPk, pk, isiD, own, owns, shr, shrs, noL, noLs, pln, plns, noIo, tgSlots, fine] at h
theorem tots_wts : ∀ d, fines d = true → tots d ≤ wts d
  | [], _ => by simp only [tots, wts]; omega
  | x :: xs, h => by simp only [fines, Bool.and_eq_true] at h; have := tot_wt x h.1; have := tots_wts xs h.2; simp only [tots, wts]; omega
end
theorem nice_fine {d : D} (h : nice d = true) : fine d = true := by
  simp only [nice, Bool.and_eq_true] at h
  exact h.1.1
theorem nice_dep {d : D} (h : nice d = true) : dep d ≤ 8 := by
  simp only [nice, Bool.and_eq_true, decide_eq_true_eq] at h
  exact h.1.2
mutual
theorem wt_shr : ∀ d, wt (shr d) = wt d
  | .lst _ xs => by simp only [wt, shr, wts_shrs xs]
  | .tup xs => by simp only [wt, shr, wts_shrs xs]
  | .non | .bl _ | .int _ | .str _ | .exc _ | .scr _ => by simp only [shr]
theorem wts_shrs : ∀ d, wts (shrs d) = wts d
  | [] => rfl
  | x :: xs => by simp only [wts, shrs, wt_shr x, wts_shrs xs]
end
theorem nice_shr {d : D} (h : nice d = true) : nice (shr d) = true := by
  simp only [nice, fine_shr, dep_shr, wt_shr] at h ⊢
  exact h
mutual
theorem pln_shr : ∀ d, pln (shr d) = pln d
  | .lst _ xs => by simp only [pln, shr, plns_shrs xs]
  | .tup xs => by simp only [pln, shr, plns_shrs xs]
  | .non | .bl _ | .int _ | .str _ | .exc _ | .scr _ => by simp only [shr]
theorem plns_shrs : ∀ d, plns (shrs d) = plns d
  | [] => rfl
  | x :: xs => by simp only [plns, shrs, pln_shr x, plns_shrs xs]
end
theorem nice_tot {d : D} (h : nice d = true) : tot d ≤ 1000000 := by
  simp only [nice, Bool.and_eq_true, decide_eq_true_eq] at h
  exact Nat.le_trans (tot_wt d h.1.1) h.2
theorem pln_fresh {d : D} (h : fine d = true) : pln (fresh d) = true := pln_fine _ (by rw [fine_fresh]; exact h)
theorem spoil_run (hS : pr iSpoil = some pSpoil) {n : Nat} (hn : 1 ≤ n) {d : D} (h1 : own d = true) (h2 : pln d = true) (h3 : tot d ≤ 1000000) : runD tb pr n iSpoil [d] = .ok (.bl true) [] := by
  obtain ⟨k, rfl⟩ : ∃ k, n = k + 1 := ⟨n - 1, by omega⟩
  rw [Fn.told hS]
  simp only [pSpoil, h1, h2, h3, decide_true, Bool.and_self, if_true]
theorem copy8 (F : Fn tb pr iCopy (copyF iCopy)) {d : D} {n : Nat} (h : nice d = true) (hn : 9 ≤ n) : runD tb pr n iCopy [shr d, .int 8] = .ok (fresh d) [] := copy_run F 8 d n (nice_dep h) (nice_fine h) (by omega)
/-- what the law asks of a call that answers -/
theorem asked_run {names : List Str} (Fc : Fn tb pr iCopy (copyF iCopy)) (Fe : Fn tb pr iEqual equalF) (hT : pr iTold = some (pTold iCall names)) (hS : pr iSpoil = some pSpoil) (F : Fn tb pr iAsked (askedF iCopy iTold iEqual iSpoil)) {n : Nat} (hn : 10 ≤ n) {what : Str} {args : List D} {r : D}
    (hc : ∀ m, n ≤ m + 2 → runD tb pr m iCall [.str what, .lst false (shrs args)] = .ok r []) (h1 : nice (.lst true args) = true) (h2 : nice r = true) (h3 : own r = true) (h4 : tot r + tots args ≤ 999990) :
    runD tb pr n iAsked [.str what, .lst false (shrs args)] = .ok (.lst true [shr r]) [] := by
  obtain ⟨k, rfl⟩ : ∃ k, n = k + 2 := ⟨n - 2, by omega⟩
  rw [F.run rfl]
  have t : runD tb pr (k + 1) iTold [.str what, .lst false (shrs args)] = .ok (.lst true [.str "", r]) [] := by
    rw [Fn.told hT]
    simp only [pTold, shrs2, hc k (by omega)]
  have c1 : runD tb pr (k + 1) iCopy [.lst false (shrs args), .int 8] = .ok (.lst true (freshs args)) [] := copy8 Fc (d := .lst true args) h1 (by omega)
  have c2 : runD tb pr (k + 1) iCopy [shr r, .int 8] = .ok (fresh r) [] := copy8 Fc h2 (by omega)
  have ne : cmpD .ne (.str "") (.str "") = some false := by decide +kernel
  have f1 : fine (.lst true (freshs args)) = true := by have := fine_fresh (.lst true args); rw [fresh] at this; rw [this]; exact nice_fine h1
  have q1 : runD tb pr (k + 1) iEqual [.lst false (shrs args), .lst false (shrs args)] = .ok (.bl true) [] :=
    equal_run Fe (by omega) (nice_shr (d := .lst true args) h1) (pln_fine _ (nice_fine (nice_shr (d := .lst true args) h1))) rfl
  have q2 : runD tb pr (k + 1) iEqual [shr r, shr r] = .ok (.bl true) [] := equal_run Fe (by omega) (nice_shr h2) (pln_fine _ (nice_fine (nice_shr h2))) rfl
  have sp : runD tb pr (k + 1) iSpoil [.lst true [r, .lst true (freshs args)]] = .ok (.bl true) [] := by
    have fa : fines args = true := by have := nice_fine h1; simp only [fine, Bool.and_eq_true] at this; exact this.1
    refine spoil_run hS (by omega) (by simp [fillA, ioA, goneA, lentA, okA, putAll, wipeE, shrAll, ioOut, isPk, pk, isiD, own, owns, shr, shrs, noL, noLs, pln, plns, noIo, tgSlots, callI, lenOk_eq, h3]) (by simp only [pln, plns, pln_fine _ (nice_fine h2), plns_fines _ (show fines (freshs args) = true by rw [fines_freshs]; exact fa), Bool.and_self]) ?_
    simp only [tot, tots, tots_freshs]
    omega
  have r2 : rngL [.int 2] = some [.int 0, .int 1] := by rfl
  by_cases hn : noL r = true
  · have e := noL_id r hn
    have eo : own (shr r) = true := by rw [← e]; exact own_fresh r
    simp [fillA, ioA, goneA, lentA, okA, putAll, wipeE, shrAll, ioOut, isPk, pk, isiD, own, owns, shr, shrs, noL, noLs, pln, plns, noIo, tgSlots, callI, lenOk_eq, eo, askedF, asked_b1, r2, c1, t, ne, q1, q2, c2, h3, sp, noL_fresh, noL_shr, hn, e, slD, cutD_one, evo]
  · simp [fillA, ioA, goneA, lentA, okA, putAll, wipeE, shrAll, ioOut, isPk, pk, isiD, own, owns, shr, shrs, noL, noLs, pln, plns, noIo, tgSlots, callI, lenOk_eq, askedF, asked_b1, r2, c1, t, ne, q1, q2, c2, h3, sp, noL_fresh, noL_shr, hn, slD, cutD_one, evo]

theorem answers_run {iAnswers : Nat} {names : List Str} (Fc : Fn tb pr iCopy (copyF iCopy)) (Fe : Fn tb pr iEqual equalF) (hT : pr iTold = some (pTold iCall names)) (hS : pr iSpoil = some pSpoil) (Fa : Fn tb pr iAsked (askedF iCopy iTold iEqual iSpoil)) (F : Fn tb pr iAnswers (answersF iAsked iEqual)) {n : Nat} (hn : 11 ≤ n) {what : Str} {args : List D} {r due : D}
    (hc : ∀ m, n ≤ m + 3 → runD tb pr m iCall [.str what, .lst false (shrs args)] = .ok r []) (h1 : nice (.lst true args) = true) (h2 : nice r = true) (h3 : own r = true) (h4 : tot r + tots args ≤ 999990) (hd : pd r = pd due) (hp : pln due = true) (hw : sOk what) :
    runD tb pr n iAnswers [.str what, .lst false (shrs args), shr due] = .ok (.bl true) [] := by
  obtain ⟨k, rfl⟩ : ∃ k, n = k + 1 := ⟨n - 1, by omega⟩
  rw [F.run rfl]
  have a := asked_run Fc Fe hT hS Fa (n := k) (by omega) (what := what) (args := args) (r := r) (fun m hm => hc m (by omega)) h1 h2 h3 h4
  have q : runD tb pr k iEqual [shr r, shr due] = .ok (.bl true) [] := equal_run Fe (by omega) (nice_shr h2) (by rw [pln_shr]; exact hp) (by rw [pd_shr, pd_shr]; exact hd)
  by_cases ho : own (shr r) = true <;> by_cases hn : noL r = true <;> simp [fillA, ioA, goneA, lentA, okA, putAll, wipeE, shrAll, ioOut, isPk, pk, isiD, own, owns, shr, shrs, noL, noLs, pln, plns, noIo, tgSlots, callI, lenOk_eq, answersF, a, q, ho, noL_shr, hn]
theorem refuses_run {iRefuses : Nat} {names : List Str} (Fc : Fn tb pr iCopy (copyF iCopy)) (Fe : Fn tb pr iEqual equalF) (hT : pr iTold = some (pTold iCall names)) (F : Fn tb pr iRefuses (refusesF iCopy iTold iEqual)) {n : Nat} (hn : 11 ≤ n) {what c : Str} {args : List D}
    (hc : ∀ m, n ≤ m + 2 → runD tb pr m iCall [.str what, .lst false (shrs args)] = .exc c []) (hcn : names.contains c = true) (h1 : nice (.lst true args) = true) (hs : sOk c) :
    runD tb pr n iRefuses [.str what, .lst false (shrs args), .str c] = .ok (.bl true) [] := by
  obtain ⟨k, rfl⟩ : ∃ k, n = k + 2 := ⟨n - 2, by omega⟩
  rw [F.run rfl]
  have t : runD tb pr (k + 1) iTold [.str what, .lst false (shrs args)] = .ok (.lst true [.str c, .non]) [] := by
    rw [Fn.told hT]
    simp only [pTold, shrs2, hc k (by omega), hcn, if_true]
  have c1 : runD tb pr (k + 1) iCopy [.lst false (shrs args), .int 8] = .ok (.lst true (freshs args)) [] := copy8 Fc (d := .lst true args) h1 (by omega)
  have q1 : runD tb pr (k + 1) iEqual [.lst false (shrs args), .lst false (shrs args)] = .ok (.bl true) [] :=
    equal_run Fe (by omega) (nice_shr (d := .lst true args) h1) (pln_fine _ (nice_fine (nice_shr (d := .lst true args) h1))) rfl
  have e := cmpD_eqS hs
  simp [fillA, ioA, goneA, lentA, okA, putAll, wipeE, shrAll, ioOut, isPk, pk, isiD, own, owns, shr, shrs, noL, noLs, pln, plns, noIo, tgSlots, callI, lenOk_eq, refusesF, c1, t, q1, e]
end
end MP
set_option linter.all false
set_option maxHeartbeats 1000000
/-! triangular screens, in plain numbers -/
namespace MP
def ent (M : List (List Int)) (i j : Nat) : Int := (M.getD i []).getD j 0
def sumL (f : Nat → Int) : Nat → Int
  | 0 => 0
  | n + 1 => sumL f n + f n
theorem sumL_congr {f g : Nat → Int} : ∀ {n : Nat}, (∀ i, i < n → f i = g i) → sumL f n = sumL g n
  | 0, _ => rfl
  | n + 1, h => by
    show sumL f n + f n = sumL g n + g n
    rw [sumL_congr fun i hi => h i (Nat.lt_succ_of_lt hi), h n (Nat.lt_succ_self n)]
theorem sumL_tail {f : Nat → Int} {k : Nat} : ∀ {n : Nat}, k ≤ n → (∀ i, k ≤ i → i < n → f i = 0) → sumL f n = sumL f k
  | 0, hk, _ => by rw [Nat.le_zero.mp hk]
  | n + 1, hk, h => by
    by_cases e : k = n + 1
    · rw [e]
    · show sumL f n + f n = _
      rw [h n (by omega) (Nat.lt_succ_self n), sumL_tail (k := k) (by omega) fun i h1 h2 => h i h1 (Nat.lt_succ_of_lt h2)]
      omega
theorem sumL_abs {f : Nat → Int} {b : Nat → Nat} : ∀ {n : Nat}, (∀ i, i < n → (f i).natAbs ≤ b i) → (sumL f n).natAbs ≤ (sumL (fun i => (b i : Int)) n).toNat ∧ 0 ≤ sumL (fun i => (b i : Int)) n
  | 0, _ => ⟨Nat.le_refl _, Int.le_refl _⟩
  | n + 1, h => by
    obtain ⟨h1, h2⟩ := sumL_abs (f := f) (b := b) (n := n) fun i hi => h i (Nat.lt_succ_of_lt hi)
    have h3 := h n (Nat.lt_succ_self n)
    show (sumL f n + f n).natAbs ≤ (sumL (fun i => (b i : Int)) n + (b n : Int)).toNat ∧ 0 ≤ sumL (fun i => (b i : Int)) n + (b n : Int)
    omega
def MOST' : Int := 1000000000000000000000000000000000000000000000000000000000000
def prodD (M : List (List Int)) : Nat → Int
  | 0 => 1
  | n + 1 => prodD M n * ent M n n
/-- a screen of n directions -/
structure Scr (n : Nat) (M : List (List Int)) : Prop where
  len : M.length = n
  rows : ∀ r ∈ M, r.length = n
  n1 : 1 ≤ n
  n18 : n ≤ 18
  diag : ∀ i, i < n → 1 ≤ ent M i i
  low : ∀ i j, i < n → j < i → ent M i j = 0
  up : ∀ i j, i < j → j < n → 0 ≤ ent M i j ∧ ent M i j < ent M j j
  prod : prodD M n ≤ MOST'
/-- x is the sum of the rows by v, and a corner -/
structure Dec (n : Nat) (M : List (List Int)) (x v c : Nat → Int) : Prop where
  eq : ∀ t, t < n → x t = sumL (fun i => v i * ent M i t) n + c t
  c0 : ∀ t, t < n → 0 ≤ c t
  c1 : ∀ t, t < n → c t < ent M t t
def res (M : List (List Int)) (x v : Nat → Int) (k t : Nat) : Int := x t - sumL (fun i => v i * ent M i t) k
theorem res_succ {M : List (List Int)} {x v : Nat → Int} {k t : Nat} : res M x v (k + 1) t = res M x v k t - v k * ent M k t := by
  unfold res
  show x t - (sumL (fun i => v i * ent M i t) k + v k * ent M k t) = _
  omega
section
variable {n : Nat} {M : List (List Int)} {x v c : Nat → Int}
theorem Dec.diag (S : Scr n M) (D : Dec n M x v c) {k : Nat} (hk : k < n) : res M x v k k = v k * ent M k k + c k := by
  have h1 := D.eq k hk
  have h2 : sumL (fun i => v i * ent M i k) n = sumL (fun i => v i * ent M i k) (k + 1) := sumL_tail (by omega) fun i h3 h4 => by rw [S.low i k h4 (by omega), Int.mul_zero]
  rw [h2] at h1
  unfold res
  have h3 : sumL (fun i => v i * ent M i k) (k + 1) = sumL (fun i => v i * ent M i k) k + v k * ent M k k := rfl
  omega
theorem Dec.div (S : Scr n M) (D : Dec n M x v c) {k : Nat} (hk : k < n) : res M x v k k / ent M k k = v k := by
  rw [D.diag S hk, Int.add_comm, Int.add_mul_ediv_right _ _ (by have := S.diag k hk; omega), Int.ediv_eq_zero_of_lt (D.c0 k hk) (D.c1 k hk), Int.zero_add]
theorem Dec.mod (S : Scr n M) (D : Dec n M x v c) {k : Nat} (hk : k < n) : res M x v k k % ent M k k = c k := by
  rw [D.diag S hk, Int.add_comm, Int.add_mul_emod_self_right, Int.emod_eq_of_lt (D.c0 k hk) (D.c1 k hk)]
theorem Dec.last (D : Dec n M x v c) {t : Nat} (ht : t < n) : res M x v n t = c t := by
  have := D.eq t ht
  unfold res
  omega
/-- each vector has its corner -/
theorem dec_ex (S : Scr n M) (x : Nat → Int) : ∃ v c, Dec n M x v c := by
  have step : ∀ k, k ≤ n → ∃ v : Nat → Int, ∀ j, j < k → 0 ≤ res M x v (j + 1) j ∧ res M x v (j + 1) j < ent M j j := by
    intro k
    induction k with
    | zero => exact fun _ => ⟨fun _ => 0, fun j hj => absurd hj (Nat.not_lt_zero _)⟩
    | succ k ih =>
      intro hk
      obtain ⟨v, hv⟩ := ih (by omega)
      have dk := S.diag k (by omega)
      refine ⟨fun i => if i = k then res M x v k k / ent M k k else v i, fun j hj => ?_⟩
      have same : ∀ m t, m ≤ k → res M x (fun i => if i = k then res M x v k k / ent M k k else v i) m t = res M x v m t := fun m t hm => by
        unfold res
        rw [sumL_congr fun i hi => ?_]
        show (if i = k then res M x v k k / ent M k k else v i) * ent M i t = v i * ent M i t
        rw [if_neg (by omega)]
      by_cases e : j = k
      · subst e
        rw [res_succ, same _ _ (Nat.le_refl _)]
        simp only [if_true]
        have h1 := Int.emod_nonneg (res M x v j j) (show ent M j j ≠ 0 by omega)
        have h2 := Int.emod_lt_of_pos (res M x v j j) (show 0 < ent M j j by omega)
        have h3 := Int.mul_ediv_add_emod (res M x v j j) (ent M j j)
        rw [Int.mul_comm] at h3
        omega
      · rw [same _ _ (by omega)]
        exact hv j (by omega)
  obtain ⟨v, hv⟩ := step n (Nat.le_refl _)
  have tail : ∀ t, t < n → res M x v n t = res M x v (t + 1) t := fun t ht => by
    unfold res
    rw [sumL_tail (k := t + 1) (by omega) fun i h3 h4 => by rw [S.low i t h4 (by omega), Int.mul_zero]]
  refine ⟨v, res M x v n, fun t ht => by unfold res; omega, fun t ht => ?_, fun t ht => ?_⟩
  · rw [tail t ht]; exact (hv t ht).1
  · rw [tail t ht]; exact (hv t ht).2
/-- entries of a screen -/
theorem prodD_pos (S : Scr n M) : ∀ k, k ≤ n → 1 ≤ prodD M k
  | 0, _ => Int.le_refl _
  | k + 1, h => by
    have h1 := prodD_pos S k (by omega)
    have h2 := S.diag k (by omega)
    have := Int.mul_le_mul h1 h2 (by decide) (by omega)
    show 1 ≤ prodD M k * ent M k k
    omega
theorem prodD_mono (S : Scr n M) : ∀ {m k : Nat}, k ≤ m → m ≤ n → prodD M k ≤ prodD M m
  | 0, k, h, _ => by rw [Nat.le_zero.mp h]; exact Int.le_refl _
  | m + 1, k, h, hm => by
    by_cases e : k = m + 1
    · rw [e]; exact Int.le_refl _
    · have h1 := prodD_mono S (m := m) (k := k) (by omega) (by omega)
      have h2 := prodD_pos S m (by omega)
      have h3 := S.diag m (by omega)
      have := Int.mul_le_mul (Int.le_refl (prodD M m)) h3 (by decide) (by omega)
      show prodD M k ≤ prodD M m * ent M m m
      omega
theorem diag_le (S : Scr n M) {k : Nat} (hk : k < n) : ent M k k ≤ MOST' := by
  have h1 := prodD_mono S (m := n) (k := k + 1) hk (Nat.le_refl _)
  have h2 := prodD_pos S k (by omega)
  have h3 := S.diag k hk
  have h4 := Int.mul_le_mul h2 (Int.le_refl (ent M k k)) (by omega) (by omega)
  have h5 : prodD M (k + 1) = prodD M k * ent M k k := rfl
  have := S.prod
  omega
theorem ent_b (S : Scr n M) {i j : Nat} (hi : i < n) (hj : j < n) : 0 ≤ ent M i j ∧ ent M i j ≤ MOST' := by
  by_cases h1 : i < j
  · have := S.up i j h1 hj
    have := diag_le S hj
    omega
  · by_cases h2 : i = j
    · subst h2
      have := S.diag i hi
      exact ⟨by omega, diag_le S hi⟩
    · rw [S.low i j hi (by omega)]
      exact ⟨Int.le_refl _, by decide⟩
/-- the weights are small -/
theorem Dec.bound (S : Scr n M) (D : Dec n M x v c) {B : Nat} (hx : ∀ t, t < n → (x t).natAbs ≤ B) : ∀ k, k ≤ n → (∀ j, j < k → (v j).natAbs ≤ 2 ^ j * (B + 1)) ∧ sumL (fun i => ((v i).natAbs : Int)) k + ((B : Int) + 1) ≤ 2 ^ k * ((B : Int) + 1) ∧ 0 ≤ sumL (fun i => ((v i).natAbs : Int)) k
  | 0, _ => ⟨fun j hj => absurd hj (Nat.not_lt_zero _), by show (0 : Int) + ((B : Int) + 1) ≤ 1 * ((B : Int) + 1); omega, Int.le_refl _⟩
  | k + 1, hk => by
    obtain ⟨h1, h2, h3⟩ := D.bound S hx k (by omega)
    have hd := D.diag S (k := k) (by omega)
    have hx' := hx k (by omega)
    have c0 := D.c0 k (by omega)
    have c1 := D.c1 k (by omega)
    have dk := S.diag k (by omega)
    have col : (sumL (fun i => v i * ent M i k) k).natAbs ≤ (sumL (fun i => ((v i).natAbs : Int)) k * ent M k k).toNat := by
      have gen : ∀ m, m ≤ k → (sumL (fun i => v i * ent M i k) m).natAbs ≤ (sumL (fun i => ((v i).natAbs : Int)) m * ent M k k).toNat ∧ 0 ≤ sumL (fun i => ((v i).natAbs : Int)) m := by
        intro m
        induction m with
        | zero => exact fun _ => ⟨by show (0 : Int).natAbs ≤ _; simp, Int.le_refl _⟩
        | succ m ih =>
          intro hm
          obtain ⟨i1, i2⟩ := ih (by omega)
          have u := S.up m k (by omega) (by omega)
          have e1 : (v m * ent M m k).natAbs ≤ ((v m).natAbs : Int).toNat * (ent M k k).toNat := by
            rw [Int.natAbs_mul, Int.toNat_natCast]
            exact Nat.mul_le_mul_left _ (by omega)
          have e2 : (sumL (fun i => ((v i).natAbs : Int)) (m + 1) * ent M k k) = sumL (fun i => ((v i).natAbs : Int)) m * ent M k k + ((v m).natAbs : Int) * ent M k k := by
            show (sumL (fun i => ((v i).natAbs : Int)) m + ((v m).natAbs : Int)) * ent M k k = _
            rw [Int.add_mul]
          have e3 : 0 ≤ sumL (fun i => ((v i).natAbs : Int)) m * ent M k k := Int.mul_nonneg i2 (by omega)
          have e4 : (((v m).natAbs : Int) * ent M k k).toNat = ((v m).natAbs : Int).toNat * (ent M k k).toNat := Int.toNat_mul (by omega) (by omega)
          have e5 : 0 ≤ ((v m).natAbs : Int) * ent M k k := Int.mul_nonneg (by omega) (by omega)
          have e6 : sumL (fun i => v i * ent M i k) (m + 1) = sumL (fun i => v i * ent M i k) m + v m * ent M m k := rfl
          have e7 : sumL (fun i => ((v i).natAbs : Int)) (m + 1) = sumL (fun i => ((v i).natAbs : Int)) m + ((v m).natAbs : Int) := rfl
          rw [e2, e6, e7]
          omega
      exact (gen k (Nat.le_refl _)).1
    have hr : (res M x v k k).natAbs ≤ B + (sumL (fun i => ((v i).natAbs : Int)) k * ent M k k).toNat := by
      unfold res
      omega
    have main : (v k).natAbs ≤ B + 1 + (sumL (fun i => ((v i).natAbs : Int)) k).toNat := by
      generalize sumL (fun i => ((v i).natAbs : Int)) k = s at hr h3
      generalize ent M k k = d at hd c1 dk hr
      have a1 : (v k * d).natAbs ≤ B + (s * d).toNat + (c k).toNat := by omega
      have a2 : (v k * d).natAbs = (v k).natAbs * d.toNat := by rw [Int.natAbs_mul]; congr 1; omega
      have a3 : (s * d).toNat = s.toNat * d.toNat := Int.toNat_mul h3 (by omega)
      rw [a2, a3] at a1
      have a4 : (c k).toNat < d.toNat := by omega
      have a5 : 1 ≤ d.toNat := by omega
      generalize d.toNat = e at a1 a4 a5
      refine Nat.le_of_not_lt fun h => ?_
      have a6 : (B + 1 + s.toNat + 1) * e ≤ (v k).natAbs * e := Nat.mul_le_mul_right e h
      have a7 : (B + 1 + s.toNat + 1) * e = B * e + s.toNat * e + 2 * e := by
        rw [Nat.add_mul, Nat.add_mul, Nat.add_mul]; omega
      have a8 : B * 1 ≤ B * e := Nat.mul_le_mul_left B a5
      omega
    have e7 : sumL (fun i => ((v i).natAbs : Int)) (k + 1) = sumL (fun i => ((v i).natAbs : Int)) k + ((v k).natAbs : Int) := rfl
    have pw : ((2 : Int) ^ (k + 1)) * ((B : Int) + 1) = 2 ^ k * ((B : Int) + 1) + 2 ^ k * ((B : Int) + 1) := by rw [Int.pow_succ, Int.mul_comm (2 ^ k) 2, Int.mul_assoc]; omega
    have pn : ((2 ^ k * (B + 1) : Nat) : Int) = (2 : Int) ^ k * ((B : Int) + 1) := by rw [Int.natCast_mul, Int.natCast_pow]; rfl
    refine ⟨fun j hj => ?_, ?_, by rw [e7]; omega⟩
    · by_cases e : j = k
      · subst e
        omega
      · exact h1 j (by omega)
    · rw [e7, pw]
      omega
end
end MP
set_option linter.all false
set_option maxRecDepth 100000
set_option maxHeartbeats 1000000
namespace MP
open PySem PySem.Spec PyProof.Rows L2
def tnames : List PySem.Str := ["BadNumber", "BadCell", "BadScreen"]
def pr (f : Nat) : Option ((Nat → List D → MP.CR) → List D → MP.CR) := if f = 38 then some (pTold 37 tnames) else if f = 40 then some pSpoil else none
def f0F : FD := ⟨1, 1, [], (.cons (.ret (.band (.isi (.v 0 false) [.int]) (.bnot (.isi (.v 0 false) [.bool])))) .nil)⟩
def f1F : FD := ⟨3, 3, [], (.cons (.ret (.band (.call 0 (.lent 0 .nil) []) (.chn .le .le (.v 1 false) (.v 0 false) (.v 2 false)))) .nil)⟩
def f2F : FD := ⟨1, 1, [], (.cons (.iff (.bnot (.call 1 (.lent 0 (.val (.k (.int 1)) (.val (.k (.int 18)) .nil))) [])) (.cons (.rse "BadNumber") .nil) .nil) .nil)⟩
def f3_x1 : X := (.call 1 (.lent 3 (.lent 1 (.val (.k (.int 1000000000000000000000000000000000000000000000000000000000000)) .nil))) [])
def f3F : FD := ⟨3, 4, [], (.cons (.iff (.bor (.bnot (.isi (.v 2 false) [.tuple])) (.cmp .ne (.bi .len (.cons (.v 2 false) .nil)) (.v 0 false))) (.cons (.ret (.k (.bl false))) .nil) .nil) (.cons (.ret (.bi .all (.cons (.lc (f3_x1) (.nm 3) (.seq (.v 2 false)) .none [3]) .nil))) .nil))⟩
def f4F : FD := ⟨2, 2, [], (.cons (.ex (.call 2 (.lent 0 .nil) [])) (.cons (.ret (.call 3 (.lent 0 (.val (.neg (.k (.int 1000000000000000000000000000000000000000000000000000000000000))) (.lent 1 .nil))) [])) .nil))⟩
def f5_x1 : X := (.call 0 (.lent 2 .nil) [])
def f5_b2 : Ss := (.cons (.iff (.bor (.bnot (.isi (.v 1 false) [.tuple])) (.cmp .ne (.bi .len (.cons (.v 1 false) .nil)) (.bi .len (.cons (.v 0 false) .nil)))) (.cons (.ret (.k (.bl false))) .nil) .nil) (.cons (.iff (.bnot (.bi .all (.cons (.lc (f5_x1) (.nm 2) (.lent 1) .none [2]) .nil))) (.cons (.ret (.k (.bl false))) .nil) .nil) .nil))
def f5F : FD := ⟨1, 3, [], (.cons (.iff (.bor (.bnot (.isi (.v 0 false) [.tuple])) (.bnot (.chn .le .le (.k (.int 1)) (.bi .len (.cons (.v 0 false) .nil)) (.k (.int 18))))) (.cons (.ret (.k (.bl false))) .nil) .nil) (.cons (.for (.nm 1) (.seq (.v 0 false)) (f5_b2)) (.cons (.ret (.k (.bl true))) .nil)))⟩
def f6_b1 : Ss := (.cons (.iff (.cmp .ne (.ix (.v 2 false) (.v 3 false)) (.k (.int 0))) (.cons (.ret (.k (.bl false))) .nil) .nil) .nil)
def f6_b2 : Ss := (.cons (.iff (.bnot (.chn .le .lt (.k (.int 0)) (.ix (.v 2 false) (.v 3 false)) (.ix (.ix (.v 0 false) (.v 3 false)) (.v 3 false)))) (.cons (.ret (.k (.bl false))) .nil) .nil) .nil)
def f6F : FD := ⟨2, 4, [], (.cons (.set 2 (.ix (.v 0 false) (.v 1 false))) (.cons (.iff (.cmp .lt (.ix (.v 2 false) (.v 1 false)) (.k (.int 1))) (.cons (.ret (.k (.bl false))) .nil) .nil) (.cons (.for (.nm 3) (.rng (.cons (.v 1 false) .nil)) (f6_b1)) (.cons (.for (.nm 3) (.rng (.cons (.bin .add (.v 1 false) (.k (.int 1))) (.cons (.bi .len (.cons (.v 2 false) .nil)) .nil))) (f6_b2)) (.cons (.ret (.k (.bl true))) .nil)))))⟩
def f7_b1 : Ss := (.cons (.set 1 (.bin .mul (.v 1 false) (.ix (.ix (.v 2 false) (.v 3 false)) (.v 3 false)))) (.cons (.iff (.cmp .gt (.v 1 false) (.k (.int 1000000000000000000000000000000000000000000000000000000000000))) (.cons (.ret (.k (.bl false))) .nil) .nil) .nil))
def f7_b2 : Ss := (.cons (.for (.nm 3) (.rng (.cons (.bi .len (.cons (.v 2 false) .nil)) .nil)) (f7_b1)) .nil)
def f7F : FD := ⟨1, 4, [], (.cons (.set 1 (.k (.int 1))) (.cons (.for (.nm 2) (.seq (.v 0 false)) (f7_b2)) (.cons (.ret (.k (.bl true))) .nil)))⟩
def f8_x1 : X := (.call 6 (.lent 0 (.lent 1 .nil)) [])
def f8F : FD := ⟨1, 2, [], (.cons (.iff (.bnot (.call 5 (.lent 0 .nil) [])) (.cons (.ret (.k (.bl false))) .nil) .nil) (.cons (.iff (.bnot (.bi .all (.cons (.lc (f8_x1) (.nm 1) (.rng (.cons (.bi .len (.cons (.v 0 false) .nil)) .nil)) .none [1]) .nil))) (.cons (.ret (.k (.bl false))) .nil) .nil) (.cons (.ret (.call 7 (.val (.lst (.cons (.v 0 true) .nil)) .nil) [])) .nil)))⟩
def f9F : FD := ⟨2, 2, [], (.cons (.iff (.bnot (.call 4 (.lent 0 (.lent 1 .nil)) [])) (.cons (.rse "BadCell") .nil) .nil) .nil)⟩
def f10F : FD := ⟨1, 1, [], (.cons (.iff (.bnot (.call 8 (.lent 0 .nil) [])) (.cons (.rse "BadScreen") .nil) .nil) .nil)⟩
def f11_x1 : X := (.bin .sub (.v 6 false) (.bin .mul (.v 5 false) (.v 7 false)))
def f11_b2 : Ss := (.cons (.set 5 (.bin .fdiv (.ix (.v 3 false) (.v 4 false)) (.ix (.ix (.v 0 false) (.v 4 false)) (.v 4 false)))) (.cons (.iff (.cmp .ne (.v 5 false) (.k (.int 0))) (.cons (.set 3 (.lc (f11_x1) (.tp [6, 7]) (.zip (.v 3 false) (.ix (.v 0 false) (.v 4 false))) .none [6, 7])) .nil) .nil) .nil))
def f11F : FD := ⟨3, 8, [], (.cons (.set 3 (.bi .list (.cons (.v 1 false) .nil))) (.cons (.for (.nm 4) (.rng (.cons (.v 2 false) (.cons (.bi .len (.cons (.v 0 false) .nil)) .nil))) (f11_b2)) (.cons (.ret (.bi .tuple (.cons (.v 3 false) .nil))) .nil)))⟩
def f12F : FD := ⟨2, 2, [], (.cons (.ex (.call 10 (.lent 0 .nil) [])) (.cons (.ex (.call 9 (.val (.bi .len (.cons (.v 0 false) .nil)) (.lent 1 .nil)) [])) (.cons (.ret (.call 11 (.lent 0 (.lent 1 (.val (.k (.int 0)) .nil))) [])) .nil)))⟩
def f13_x1 : X := (.bin .sub (.v 6 false) (.bin .mul (.v 5 false) (.v 7 false)))
def f13_b2 : Ss := (.cons (.iff (.cmp .ne (.bin .mod (.ix (.v 2 false) (.v 4 false)) (.ix (.ix (.v 0 false) (.v 4 false)) (.v 4 false))) (.k (.int 0))) (.cons (.ret (.k (.non))) .nil) .nil) (.cons (.set 5 (.bin .fdiv (.ix (.v 2 false) (.v 4 false)) (.ix (.ix (.v 0 false) (.v 4 false)) (.v 4 false)))) (.cons (.app 3 (.v 5 false)) (.cons (.set 2 (.lc (f13_x1) (.tp [6, 7]) (.zip (.v 2 false) (.ix (.v 0 false) (.v 4 false))) .none [6, 7])) .nil))))
def f13F : FD := ⟨2, 8, [], (.cons (.ex (.call 10 (.lent 0 .nil) [])) (.cons (.ex (.call 9 (.val (.bi .len (.cons (.v 0 false) .nil)) (.lent 1 .nil)) [])) (.cons (.set 2 (.bi .list (.cons (.v 1 false) .nil))) (.cons (.set 3 (.lst .nil)) (.cons (.for (.nm 4) (.rng (.cons (.bi .len (.cons (.v 0 false) .nil)) .nil)) (f13_b2)) (.cons (.ret (.v 3 true)) .nil))))))⟩
def f22F : FD := ⟨1, 2, [0], (.cons (.set 1 (.call 18 (.io 0 (.val (.k (.int 8)) .nil)) [])) (.cons (.iff (.cmp .eq (.v 1 false) (.k (.int 0))) (.cons (.ret (.call 20 (.io 0 (.val (.lst (.cons (.k (.int 0)) (.cons (.k (.int 1)) (.cons (.neg (.k (.int 1))) (.cons (.k (.int 2)) (.cons (.neg (.k (.int 2))) .nil)))))) .nil)) [])) .nil) .nil) (.cons (.iff (.cmp .eq (.v 1 false) (.k (.int 1))) (.cons (.ret (.call 20 (.io 0 (.val (.lst (.cons (.bin .pow (.k (.int 10)) (.k (.int 60))) (.cons (.neg (.bin .pow (.k (.int 10)) (.k (.int 60)))) (.cons (.bin .sub (.bin .pow (.k (.int 10)) (.k (.int 60))) (.k (.int 1))) (.cons (.bin .sub (.k (.int 1)) (.bin .pow (.k (.int 10)) (.k (.int 60)))) .nil))))) .nil)) [])) .nil) .nil) (.cons (.iff (.cmp .eq (.v 1 false) (.k (.int 2))) (.cons (.ret (.call 19 (.io 0 (.val (.neg (.bin .pow (.k (.int 10)) (.k (.int 60)))) (.val (.bin .pow (.k (.int 10)) (.k (.int 60))) .nil))) [])) .nil) .nil) (.cons (.iff (.cmp .eq (.v 1 false) (.k (.int 3))) (.cons (.ret (.call 19 (.io 0 (.val (.neg (.bin .pow (.k (.int 10)) (.k (.int 9)))) (.val (.bin .pow (.k (.int 10)) (.k (.int 9))) .nil))) [])) .nil) .nil) (.cons (.ret (.call 19 (.io 0 (.val (.neg (.k (.int 12))) (.val (.k (.int 12)) .nil))) [])) .nil))))))⟩
def f23F : FD := ⟨2, 3, [0], (.cons (.set 2 (.call 18 (.io 0 (.val (.k (.int 6)) .nil)) [])) (.cons (.iff (.cmp .eq (.v 2 false) (.k (.int 0))) (.cons (.ret (.k (.int 1))) .nil) .nil) (.cons (.iff (.cmp .eq (.v 2 false) (.k (.int 1))) (.cons (.ret (.bi .max2 (.cons (.k (.int 1)) (.cons (.bin .sub (.v 1 false) (.call 18 (.io 0 (.val (.k (.int 2)) .nil)) [])) .nil)))) .nil) .nil) (.cons (.iff (.cmp .eq (.v 2 false) (.k (.int 2))) (.cons (.ret (.call 19 (.io 0 (.val (.k (.int 1)) (.lent 1 .nil))) [])) .nil) .nil) (.cons (.ret (.call 19 (.io 0 (.val (.k (.int 1)) (.val (.bi .min2 (.cons (.v 1 false) (.cons (.k (.int 12)) .nil))) .nil))) [])) .nil)))))⟩
def f24_x1 : X := (.bin .sub (.bin .sub (.v 1 false) (.k (.int 1))) (.v 5 false))
def f24_b2 : Ss := (.cons (.set 4 (.call 18 (.io 0 (.val (.bin .add (.v 5 false) (.k (.int 1))) .nil)) [])) (.cons (.set 6 (.ix (.v 2 false) (.v 4 false))) (.cons (.seti 2 (.v 4 false) (.ix (.v 2 false) (.v 5 false))) (.cons (.seti 2 (.v 5 false) (.v 6 true)) .nil))))
def f24F : FD := ⟨2, 7, [0], (.cons (.set 2 (.lrg (.cons (.v 1 false) .nil))) (.cons (.set 3 (.call 18 (.io 0 (.val (.k (.int 6)) .nil)) [])) (.cons (.iff (.cmp .eq (.v 3 false) (.k (.int 1))) (.cons (.set 2 (.lc (f24_x1) (.nm 5) (.rng (.cons (.v 1 false) .nil)) .none [5])) .nil) .nil) (.cons (.iff (.band (.cmp .eq (.v 3 false) (.k (.int 2))) (.cmp .gt (.v 1 false) (.k (.int 1)))) (.cons (.set 4 (.call 18 (.io 0 (.val (.bin .sub (.v 1 false) (.k (.int 1))) .nil)) [])) (.cons (.seti 2 (.v 4 false) (.bin .add (.v 4 false) (.k (.int 1)))) (.cons (.seti 2 (.bin .add (.v 4 false) (.k (.int 1))) (.v 4 false)) .nil))) .nil) (.cons (.iff (.cmp .gt (.v 3 false) (.k (.int 2))) (.cons (.for (.nm 5) (.rng (.cons (.bin .sub (.v 1 false) (.k (.int 1))) (.cons (.k (.int 0)) (.cons (.neg (.k (.int 1))) .nil)))) (f24_b2)) .nil) .nil) (.cons (.ret (.v 2 true)) .nil))))))⟩
def f26F : FD := ⟨1, 1, [], (.cons (.ret (.band (.isi (.v 0 false) [.int]) (.bnot (.isi (.v 0 false) [.bool])))) .nil)⟩
def f27_x1 : X := (.call 26 (.lent 2 .nil) [])
def f27F : FD := ⟨2, 3, [], (.cons (.iff (.bor (.bnot (.isi (.v 1 false) [.tuple])) (.cmp .ne (.bi .len (.cons (.v 1 false) .nil)) (.v 0 false))) (.cons (.ret (.k (.bl false))) .nil) .nil) (.cons (.ret (.bi .all (.cons (.lc (f27_x1) (.nm 2) (.seq (.v 1 false)) .none [2]) .nil))) .nil))⟩
def f28F : FD := ⟨3, 4, [], (.cons (.set 3 (.bi .list (.cons (.v 0 false) .nil))) (.cons (.seti 3 (.v 1 false) (.v 2 true)) (.cons (.ret (.ife (.isi (.v 0 false) [.tuple]) (.bi .tuple (.cons (.v 3 false) .nil)) (.v 3 false))) .nil)))⟩
def f29F : FD := ⟨4, 4, [], (.cons (.ret (.call 28 (.lent 0 (.lent 1 (.val (.call 28 (.val (.ix (.v 0 false) (.v 1 false)) (.lent 2 (.lent 3 .nil))) []) .nil))) [])) .nil)⟩
def f30_b1 : Ss := (.cons (.set 1 (.bin .mul (.v 1 false) (.ix (.ix (.v 0 false) (.v 2 false)) (.v 2 false)))) .nil)
def f30F : FD := ⟨1, 3, [], (.cons (.set 1 (.k (.int 1))) (.cons (.for (.nm 2) (.rng (.cons (.bi .len (.cons (.v 0 false) .nil)) .nil)) (f30_b1)) (.cons (.ret (.v 1 true)) .nil)))⟩
def f31_b1 : Ss := (.cons (.seti 2 (.v 6 false) (.bin .sub (.ix (.v 2 false) (.v 6 false)) (.bin .mul (.v 5 false) (.ix (.v 4 false) (.v 6 false))))) .nil)
def f31_b2 : Ss := (.cons (.set 4 (.ix (.v 0 false) (.v 3 false))) (.cons (.set 5 (.bin .fdiv (.ix (.v 2 false) (.v 3 false)) (.ix (.v 4 false) (.v 3 false)))) (.cons (.iff (.cmp .ne (.v 5 false) (.k (.int 0))) (.cons (.for (.nm 6) (.rng (.cons (.v 3 false) (.cons (.bi .len (.cons (.v 0 false) .nil)) .nil))) (f31_b1)) .nil) .nil) .nil)))
def f31F : FD := ⟨2, 7, [], (.cons (.set 2 (.bi .list (.cons (.v 1 false) .nil))) (.cons (.for (.nm 3) (.rng (.cons (.bi .len (.cons (.v 0 false) .nil)) .nil)) (f31_b2)) (.cons (.ret (.bi .tuple (.cons (.v 2 false) .nil))) .nil)))⟩
def f32_x1 : X := (.k (.int 0))
def f32_b2 : Ss := (.cons (.set 4 (.bin .sub (.bin .sub (.bi .len (.cons (.v 0 false) .nil)) (.k (.int 1))) (.v 3 false))) (.cons (.seti 2 (.v 4 false) (.bin .mod (.bi .int (.cons (.v 1 false) .nil)) (.ix (.ix (.v 0 false) (.v 4 false)) (.v 4 false)))) (.cons (.set 1 (.bin .fdiv (.v 1 false) (.ix (.ix (.v 0 false) (.v 4 false)) (.v 4 false)))) .nil)))
def f32F : FD := ⟨2, 5, [], (.cons (.set 2 (.lc (f32_x1) (.nm 3) (.seq (.v 0 false)) .none [3])) (.cons (.for (.nm 3) (.rng (.cons (.bi .len (.cons (.v 0 false) .nil)) .nil)) (f32_b2)) (.cons (.ret (.bi .tuple (.cons (.v 2 false) .nil))) .nil)))⟩
def f33_x1 : X := (.k (.int 0))
def f33_b2 : Ss := (.cons (.iff (.v 2 false) (.cons (.seti 5 (.v 6 false) (.call 18 (.io 0 (.val (.ix (.v 1 false) (.v 6 false)) .nil)) [])) .nil) .nil) .nil)
def f33_b3 : Ss := (.cons (.set 5 (.lc (f33_x1) (.nm 7) (.seq (.v 1 false)) .none [7])) (.cons (.seti 5 (.v 4 false) (.ix (.v 1 false) (.v 4 false))) (.cons (.for (.nm 6) (.rng (.cons (.bin .add (.v 4 false) (.k (.int 1))) (.cons (.bi .len (.cons (.v 1 false) .nil)) .nil))) (f33_b2)) (.cons (.app 3 (.bi .tuple (.cons (.v 5 false) .nil))) .nil))))
def f33F : FD := ⟨3, 8, [0], (.cons (.set 3 (.lst .nil)) (.cons (.for (.nm 4) (.rng (.cons (.bi .len (.cons (.v 1 false) .nil)) .nil)) (f33_b3)) (.cons (.ret (.bi .tuple (.cons (.v 3 false) .nil))) .nil)))⟩
def f34_x1 : X := (.k (.int 1))
def f34_b2 : Ss := (.cons (.iff (.bor (.call 21 (.io 0 (.val (.k (.int 2)) .nil)) []) (.cmp .eq (.v 5 false) (.k (.int 0)))) (.cons (.seti 3 (.v 5 false) (.call 23 (.io 0 (.val (.bi .max2 (.cons (.k (.int 1)) (.cons (.v 4 false) .nil))) .nil)) [])) (.cons (.set 4 (.bin .fdiv (.v 4 false) (.ix (.v 3 false) (.v 5 false)))) .nil)) .nil) .nil)
def f34F : FD := ⟨3, 7, [0], (.cons (.set 3 (.lc (f34_x1) (.nm 6) (.rng (.cons (.v 1 false) .nil)) .none [6])) (.cons (.set 4 (.v 2 true)) (.cons (.for (.nm 5) (.seq (.call 24 (.io 0 (.lent 1 .nil)) [])) (f34_b2)) (.cons (.ret (.call 33 (.io 0 (.lent 3 (.val (.bnot (.call 21 (.io 0 (.val (.k (.int 4)) .nil)) [])) .nil))) [])) .nil))))⟩
def f35F : FD := ⟨0, 0, [], (.cons (.ret (.lst (.cons (.k (.non)) (.cons (.k (.bl true)) (.cons (.k (.bl false)) (.cons (.k (.str "")) (.cons (.k (.str "1")) (.cons (.lst .nil) (.cons (.tup .nil) (.cons (.lst (.cons (.k (.int 1)) .nil)) (.cons (.tup (.cons (.k (.int 1)) .nil)) .nil))))))))))) .nil)⟩
def f36F : FD := ⟨2, 2, [], (.cons (.ret (.bin .add (.call 35 .nil []) (.lst (.cons (.bin .sub (.v 0 false) (.k (.int 1))) (.cons (.bin .add (.v 1 false) (.k (.int 1))) .nil))))) .nil)⟩
def f37F : FD := ⟨2, 2, [], (.cons (.iff (.cmp .eq (.v 0 false) (.k (.str "reduced"))) (.cons (.ret (.call 12 (.val (.ix (.v 1 false) (.k (.int 0))) (.val (.ix (.v 1 false) (.k (.int 1))) .nil)) [])) .nil) .nil) (.cons (.iff (.cmp .eq (.v 0 false) (.k (.str "written"))) (.cons (.ret (.call 13 (.val (.ix (.v 1 false) (.k (.int 0))) (.val (.ix (.v 1 false) (.k (.int 1))) .nil)) [])) .nil) .nil) (.cons (.iff (.cmp .eq (.v 0 false) (.k (.str "is_screen"))) (.cons (.ret (.call 8 (.val (.ix (.v 1 false) (.k (.int 0))) .nil) [])) .nil) .nil) (.cons (.iff (.cmp .eq (.v 0 false) (.k (.str "check_screen"))) (.cons (.ret (.call 10 (.val (.ix (.v 1 false) (.k (.int 0))) .nil) [])) .nil) .nil) (.cons (.iff (.cmp .eq (.v 0 false) (.k (.str "is_cell"))) (.cons (.ret (.call 4 (.val (.ix (.v 1 false) (.k (.int 0))) (.val (.ix (.v 1 false) (.k (.int 1))) .nil)) [])) .nil) .nil) (.cons (.ret (.call 9 (.val (.ix (.v 1 false) (.k (.int 0))) (.val (.ix (.v 1 false) (.k (.int 1))) .nil)) [])) .nil))))))⟩
def f44_x1 : X := (.k (.int 0))
def f44_x2 : X := (.bin .add (.ix (.v 3 false) (.v 5 false)) (.bin .mul (.ix (.v 1 false) (.v 4 false)) (.ix (.ix (.v 0 false) (.v 4 false)) (.v 5 false))))
def f44_b3 : Ss := (.cons (.set 3 (.lc (f44_x2) (.nm 5) (.rng (.cons (.v 2 false) .nil)) .none [5])) .nil)
def f44F : FD := ⟨2, 6, [], (.cons (.set 2 (.bi .len (.cons (.v 0 false) .nil))) (.cons (.set 3 (.lc (f44_x1) (.nm 5) (.rng (.cons (.v 2 false) .nil)) .none [5])) (.cons (.for (.nm 4) (.rng (.cons (.v 2 false) .nil)) (f44_b3)) (.cons (.ret (.bi .tuple (.cons (.v 3 false) .nil))) .nil))))⟩
def f45_x1 : X := (.call 19 (.io 0 (.val (.neg (.k (.int 3))) (.val (.k (.int 3)) .nil))) [])
def f45_x2 : X := (.bi .abs (.cons (.v 7 false) .nil))
def f45_x3 : X := (.bi .abs (.cons (.v 7 false) .nil))
def f45_x4 : X := (.ife (.cmp .eq (.v 6 false) (.v 3 false)) (.call 19 (.io 0 (.val (.bin .sub (.k (.int 0)) (.v 4 false)) (.lent 4 .nil))) []) (.k (.int 0)))
def f45F : FD := ⟨2, 8, [0], (.cons (.set 2 (.lc (f45_x1) (.nm 5) (.seq (.v 1 false)) .none [5])) (.cons (.iff (.bor (.call 21 (.io 0 (.val (.k (.int 3)) .nil)) []) (.cmp .gt (.bi .max1 (.cons (.lc (f45_x2) (.nm 7) (.seq (.call 44 (.lent 1 (.lent 2 .nil)) [])) .none [7]) .nil)) (.bin .pow (.k (.int 10)) (.k (.int 60))))) (.cons (.set 3 (.call 18 (.io 0 (.val (.bi .len (.cons (.v 1 false) .nil)) .nil)) [])) (.cons (.set 4 (.bin .fdiv (.bin .pow (.k (.int 10)) (.k (.int 60))) (.bi .max1 (.cons (.lc (f45_x3) (.nm 7) (.seq (.ix (.v 1 false) (.v 3 false))) .none [7]) .nil)))) (.cons (.set 2 (.lc (f45_x4) (.nm 6) (.rng (.cons (.bi .len (.cons (.v 1 false) .nil)) .nil)) .none [6])) .nil))) .nil) (.cons (.ret (.v 2 true)) .nil)))⟩
def f46_x1 : X := (.call 22 (.io 0 .nil) [])
def f46_x2 : X := (.bin .sub (.ix (.v 2 false) (.v 7 false)) (.ix (.v 3 false) (.v 7 false)))
def f46_x3 : X := (.bi .abs (.cons (.v 8 false) .nil))
def f46F : FD := ⟨2, 9, [0], (.cons (.set 2 (.bi .tuple (.cons (.lc (f46_x1) (.nm 6) (.seq (.v 1 false)) .none [6]) .nil))) (.cons (.set 3 (.call 31 (.lent 1 (.lent 2 .nil)) [])) (.cons (.iff (.bor (.bnot (.call 42 (.val (.k (.str "reduced")) (.val (.lst (.cons (.v 1 false) (.cons (.v 2 false) .nil))) (.lent 3 .nil))) [])) (.bnot (.call 42 (.val (.k (.str "reduced")) (.val (.lst (.cons (.v 1 false) (.cons (.v 3 false) .nil))) (.lent 3 .nil))) []))) (.cons (.ret (.k (.bl false))) .nil) .nil) (.cons (.iff (.band (.bi .any (.cons (.bi .list (.cons (.v 3 false) .nil)) .nil)) (.bnot (.call 42 (.val (.k (.str "written")) (.val (.lst (.cons (.v 1 false) (.cons (.v 2 false) .nil))) (.val (.k (.non)) .nil))) []))) (.cons (.ret (.k (.bl false))) .nil) .nil) (.cons (.set 4 (.bi .tuple (.cons (.lc (f46_x2) (.nm 7) (.rng (.cons (.bi .len (.cons (.v 2 false) .nil)) .nil)) .none [7]) .nil))) (.cons (.iff (.cmp .gt (.bi .max1 (.cons (.lc (f46_x3) (.nm 8) (.lent 4) .none [8]) .nil)) (.bin .pow (.k (.int 10)) (.k (.int 60)))) (.cons (.ret (.k (.bl true))) .nil) .nil) (.cons (.set 5 (.call 41 (.val (.k (.str "written")) (.val (.lst (.cons (.v 1 false) (.cons (.v 4 false) .nil))) .nil)) [])) (.cons (.iff (.bor (.cmp .ne (.bi .len (.cons (.v 5 false) .nil)) (.k (.int 1))) (.bor (.bnot (.isi (.ix (.v 5 false) (.k (.int 0))) [.list])) (.bnot (.call 27 (.val (.bi .len (.cons (.v 2 false) .nil)) (.val (.bi .tuple (.cons (.ix (.v 5 false) (.k (.int 0))) .nil)) .nil)) [])))) (.cons (.ret (.k (.bl false))) .nil) .nil) (.cons (.ret (.cmp .eq (.call 44 (.lent 1 (.val (.ix (.v 5 false) (.k (.int 0))) .nil)) []) (.v 4 false))) .nil)))))))))⟩
def f47_x1 : X := (.bi .int (.cons (.cmp .eq (.v 11 false) (.v 9 false)) .nil))
def f47_x2 : X := (.bi .tuple (.cons (.lc (f47_x1) (.nm 11) (.rng (.cons (.k (.int 19)) .nil)) .none [11]) .nil))
def f47_x3 : X := (.bin .add (.v 10 false) (.tup (.cons (.k (.int 0)) .nil)))
def f47_b4 : Ss := (.cons (.app 5 (.call 29 (.lent 1 (.lent 3 (.lent 3 (.lent 6 .nil)))) [])) .nil)
def f47_b5 : Ss := (.cons (.app 5 (.call 29 (.lent 1 (.lent 8 (.lent 7 (.lent 6 .nil)))) [])) .nil)
def f47F : FD := ⟨2, 12, [0], (.cons (.set 2 (.bi .len (.cons (.v 1 false) .nil))) (.cons (.set 3 (.call 18 (.io 0 (.lent 2 .nil)) [])) (.cons (.set 4 (.ix (.ix (.v 1 false) (.v 3 false)) (.v 3 false))) (.cons (.set 5 (.lst (.cons (.k (.non)) (.cons (.k (.bl true)) (.cons (.k (.int 1)) (.cons (.k (.str "rows 1")) (.cons (.lst .nil) (.cons (.tup .nil) (.cons (.bi .list (.cons (.v 1 false) .nil)) (.cons (.sl (.v 1 false) .none (.some (.bin .sub (.v 2 false) (.k (.int 1))))) (.cons (.bin .add (.v 1 false) (.tup (.cons (.ix (.v 1 false) (.v 3 false)) .nil))) (.cons (.lst (.cons (.v 1 false) .nil)) (.cons (.tup (.cons (.k (.int 1)) .nil)) .nil))))))))))))) (.cons (.app 5 (.bi .tuple (.cons (.lc (f47_x2) (.nm 9) (.rng (.cons (.k (.int 19)) .nil)) .none [9]) .nil))) (.cons (.app 5 (.bi .tuple (.cons (.lc (f47_x3) (.nm 10) (.seq (.v 1 false)) .none [10]) .nil))) (.cons (.app 5 (.call 28 (.lent 1 (.lent 3 (.val (.bi .list (.cons (.ix (.v 1 false) (.v 3 false)) .nil)) .nil))) [])) (.cons (.for (.nm 6) (.seq (.lst (.cons (.k (.int 0)) (.cons (.bin .sub (.k (.int 0)) (.v 4 false)) (.cons (.bin .add (.bin .pow (.k (.int 10)) (.k (.int 60))) (.k (.int 1))) (.cons (.cmp .eq (.v 4 false) (.k (.int 1))) (.cons (.k (.non)) (.cons (.k (.str "1")) (.cons (.tup (.cons (.v 4 false) .nil)) .nil))))))))) (f47_b4)) (.cons (.iff (.cmp .gt (.v 2 false) (.k (.int 1))) (.cons (.set 7 (.bin .add (.k (.int 1)) (.call 18 (.io 0 (.val (.bin .sub (.v 2 false) (.k (.int 1))) .nil)) []))) (.cons (.set 8 (.call 18 (.io 0 (.lent 7 .nil)) [])) (.cons (.for (.nm 6) (.seq (.lst (.cons (.ix (.ix (.v 1 false) (.v 7 false)) (.v 7 false)) (.cons (.neg (.k (.int 1))) (.cons (.k (.non)) (.cons (.k (.bl true)) .nil)))))) (f47_b5)) (.cons (.app 5 (.call 29 (.lent 1 (.lent 7 (.lent 8 (.val (.k (.int 1)) .nil)))) [])) (.cons (.app 5 (.call 29 (.lent 1 (.lent 7 (.lent 8 (.val (.k (.bl false)) .nil)))) [])) (.cons (.app 5 (.call 29 (.val (.call 29 (.lent 1 (.lent 8 (.lent 8 (.val (.bin .pow (.k (.int 10)) (.k (.int 60))) .nil)))) []) (.lent 7 (.lent 7 (.val (.k (.int 2)) .nil)))) [])) .nil)))))) .nil) (.cons (.ret (.v 5 true)) .nil))))))))))⟩
def f48_b1 : Ss := (.cons (.app 3 (.call 28 (.lent 1 (.lent 2 (.lent 4 .nil))) [])) .nil)
def f48F : FD := ⟨2, 5, [0], (.cons (.set 2 (.call 18 (.io 0 (.val (.bi .len (.cons (.v 1 false) .nil)) .nil)) [])) (.cons (.set 3 (.lst (.cons (.bin .add (.v 1 false) (.tup (.cons (.k (.int 0)) .nil))) (.cons (.sl (.v 1 false) (.some (.k (.int 1))) .none) (.cons (.bi .list (.cons (.v 1 false) .nil)) (.cons (.k (.non)) (.cons (.k (.bl true)) (.cons (.k (.int 0)) (.cons (.k (.str "0")) (.cons (.lst (.cons (.v 1 false) .nil)) (.cons (.tup (.cons (.v 1 false) .nil)) .nil))))))))))) (.cons (.for (.nm 4) (.seq (.lst (.cons (.bin .add (.bin .pow (.k (.int 10)) (.k (.int 60))) (.k (.int 1))) (.cons (.bin .sub (.neg (.bin .pow (.k (.int 10)) (.k (.int 60)))) (.k (.int 1))) (.cons (.k (.non)) (.cons (.cmp .eq (.ix (.v 1 false) (.v 2 false)) (.k (.int 1))) (.cons (.k (.str "0")) (.cons (.tup (.cons (.k (.int 0)) .nil)) .nil)))))))) (f48_b1)) (.cons (.ret (.v 3 true)) .nil))))⟩
def f49_b1 : Ss := (.cons (.iff (.bnot (.call 43 (.lent 7 (.val (.lst (.cons (.v 5 false) (.cons (.v 6 false) .nil))) (.val (.k (.str "BadScreen")) .nil))) [])) (.cons (.ret (.k (.bl false))) .nil) .nil) .nil)
def f49_b2 : Ss := (.cons (.iff (.bor (.bnot (.call 42 (.val (.k (.str "is_screen")) (.val (.lst (.cons (.v 5 false) .nil)) (.val (.k (.bl false)) .nil))) [])) (.bnot (.call 43 (.val (.k (.str "check_screen")) (.val (.lst (.cons (.v 5 false) .nil)) (.val (.k (.str "BadScreen")) .nil))) []))) (.cons (.ret (.k (.bl false))) .nil) .nil) (.cons (.set 6 (.ife (.call 21 (.io 0 (.val (.k (.int 2)) .nil)) []) (.v 2 false) (.call 20 (.io 0 (.lent 3 .nil)) []))) (.cons (.for (.nm 7) (.seq (.lst (.cons (.k (.str "reduced")) (.cons (.k (.str "written")) .nil)))) (f49_b1)) .nil)))
def f49_b3 : Ss := (.cons (.iff (.bnot (.call 43 (.lent 7 (.val (.lst (.cons (.ife (.cmp .eq (.v 7 false) (.k (.str "check_cell"))) (.bi .len (.cons (.v 2 false) .nil)) (.v 1 false)) (.cons (.v 5 false) .nil))) (.val (.k (.str "BadCell")) .nil))) [])) (.cons (.ret (.k (.bl false))) .nil) .nil) .nil)
def f49_b4 : Ss := (.cons (.iff (.bnot (.call 42 (.val (.k (.str "is_cell")) (.val (.lst (.cons (.bi .len (.cons (.v 2 false) .nil)) (.cons (.v 5 false) .nil))) (.val (.k (.bl false)) .nil))) [])) (.cons (.ret (.k (.bl false))) .nil) .nil) (.cons (.for (.nm 7) (.seq (.lst (.cons (.k (.str "reduced")) (.cons (.k (.str "written")) (.cons (.k (.str "check_cell")) .nil))))) (f49_b3)) .nil))
def f49_b5 : Ss := (.cons (.set 8 (.ife (.call 21 (.io 0 (.val (.k (.int 2)) .nil)) []) (.v 2 false) (.call 20 (.io 0 (.lent 3 .nil)) []))) (.cons (.iff (.bnot (.call 43 (.val (.k (.str "is_cell")) (.val (.lst (.cons (.v 5 false) (.cons (.v 8 false) .nil))) (.val (.k (.str "BadNumber")) .nil))) [])) (.cons (.ret (.k (.bl false))) .nil) .nil) (.cons (.iff (.bnot (.call 43 (.val (.k (.str "check_cell")) (.val (.lst (.cons (.v 5 true) (.cons (.v 8 true) .nil))) (.val (.k (.str "BadNumber")) .nil))) [])) (.cons (.ret (.k (.bl false))) .nil) .nil) .nil)))
def f49F : FD := ⟨3, 9, [0], (.cons (.set 3 (.call 48 (.io 0 (.lent 2 .nil)) [])) (.cons (.set 4 (.call 47 (.io 0 (.lent 1 .nil)) [])) (.cons (.for (.nm 5) (.seq (.v 4 false)) (f49_b2)) (.cons (.for (.nm 5) (.seq (.v 3 false)) (f49_b4)) (.cons (.for (.nm 5) (.seq (.call 36 (.val (.k (.int 1)) (.val (.k (.int 18)) .nil)) [])) (f49_b5)) (.cons (.ret (.k (.bl true))) .nil))))))⟩
def f50_x1 : X := (.bin .add (.ix (.v 6 false) (.v 9 false)) (.ix (.v 7 false) (.v 9 false)))
def f50_x2 : X := (.bi .abs (.cons (.v 10 false) .nil))
def f50_x3 : X := (.k (.int 0))
def f50F : FD := ⟨1, 11, [], (.cons (.set 1 (.call 14 (.lent 0 .nil) [])) (.cons (.set 2 (.call 21 (.io 1 (.val (.k (.int 2)) .nil)) [])) (.cons (.set 3 (.bin .add (.k (.int 1)) (.call 18 (.io 1 (.val (.ife (.band (.v 2 false) (.call 21 (.io 1 (.val (.k (.int 3)) .nil)) [])) (.k (.int 18)) (.k (.int 4))) .nil)) []))) (.cons (.set 4 (.call 34 (.io 1 (.lent 3 (.val (.ife (.v 2 false) (.bin .pow (.k (.int 10)) (.k (.int 60))) (.k (.int 60))) .nil))) [])) (.cons (.set 5 (.call 45 (.io 1 (.lent 4 .nil)) [])) (.cons (.set 6 (.call 44 (.lent 4 (.lent 5 .nil)) [])) (.cons (.set 7 (.call 32 (.lent 4 (.val (.call 18 (.io 1 (.val (.call 30 (.lent 4 .nil) []) .nil)) []) .nil)) [])) (.cons (.set 8 (.bi .tuple (.cons (.lc (f50_x1) (.nm 9) (.rng (.cons (.v 3 false) .nil)) .none [9]) .nil))) (.cons (.iff (.cmp .gt (.bi .max1 (.cons (.lc (f50_x2) (.nm 10) (.lent 8) .none [10]) .nil)) (.bin .pow (.k (.int 10)) (.k (.int 60)))) (.cons (.set 8 (.v 6 false)) (.cons (.set 7 (.bi .tuple (.cons (.lc (f50_x3) (.nm 9) (.rng (.cons (.v 3 false) .nil)) .none [9]) .nil))) .nil)) .nil) (.cons (.iff (.bor (.bnot (.call 42 (.val (.k (.str "reduced")) (.val (.lst (.cons (.v 4 false) (.cons (.v 8 false) .nil))) (.lent 7 .nil))) [])) (.bnot (.call 42 (.val (.k (.str "written")) (.val (.lst (.cons (.v 4 false) (.cons (.v 6 true) .nil))) (.lent 5 .nil))) []))) (.cons (.ret (.k (.bl false))) .nil) .nil) (.cons (.iff (.bnot (.call 42 (.val (.k (.str "written")) (.val (.lst (.cons (.v 4 false) (.cons (.v 8 false) .nil))) (.val (.ife (.bi .any (.cons (.bi .list (.cons (.v 7 false) .nil)) .nil)) (.k (.non)) (.v 5 false)) .nil))) [])) (.cons (.ret (.k (.bl false))) .nil) .nil) (.cons (.iff (.bor (.bnot (.call 42 (.val (.k (.str "is_screen")) (.val (.lst (.cons (.v 4 false) .nil)) (.val (.k (.bl true)) .nil))) [])) (.bnot (.call 42 (.val (.k (.str "check_screen")) (.val (.lst (.cons (.v 4 false) .nil)) (.val (.k (.non)) .nil))) []))) (.cons (.ret (.k (.bl false))) .nil) .nil) (.cons (.iff (.bor (.bnot (.call 42 (.val (.k (.str "is_cell")) (.val (.lst (.cons (.v 3 false) (.cons (.v 8 false) .nil))) (.val (.k (.bl true)) .nil))) [])) (.bnot (.call 42 (.val (.k (.str "check_cell")) (.val (.lst (.cons (.v 3 true) (.cons (.v 8 false) .nil))) (.val (.k (.non)) .nil))) []))) (.cons (.ret (.k (.bl false))) .nil) .nil) (.cons (.ret (.band (.call 46 (.io 1 (.lent 4 .nil)) []) (.call 49 (.io 1 (.lent 4 (.lent 8 .nil))) []))) .nil))))))))))))))⟩

theorem F0 : Fn (tbOf defs) pr 0 f0F := ⟨rfl, rfl⟩
theorem F1 : Fn (tbOf defs) pr 1 f1F := ⟨rfl, rfl⟩
theorem F2 : Fn (tbOf defs) pr 2 f2F := ⟨rfl, rfl⟩
theorem F3 : Fn (tbOf defs) pr 3 f3F := ⟨rfl, rfl⟩
theorem F4 : Fn (tbOf defs) pr 4 f4F := ⟨rfl, rfl⟩
theorem F5 : Fn (tbOf defs) pr 5 f5F := ⟨rfl, rfl⟩
theorem F6 : Fn (tbOf defs) pr 6 f6F := ⟨rfl, rfl⟩
theorem F7 : Fn (tbOf defs) pr 7 f7F := ⟨rfl, rfl⟩
theorem F8 : Fn (tbOf defs) pr 8 f8F := ⟨rfl, rfl⟩
theorem F9 : Fn (tbOf defs) pr 9 f9F := ⟨rfl, rfl⟩
theorem F10 : Fn (tbOf defs) pr 10 f10F := ⟨rfl, rfl⟩
theorem F11 : Fn (tbOf defs) pr 11 f11F := ⟨rfl, rfl⟩
theorem F12 : Fn (tbOf defs) pr 12 f12F := ⟨rfl, rfl⟩
theorem F13 : Fn (tbOf defs) pr 13 f13F := ⟨rfl, rfl⟩
theorem F14 : Fn (tbOf defs) pr 14 startF := ⟨rfl, rfl⟩
theorem F15 : Fn (tbOf defs) pr 15 mixedF := ⟨rfl, rfl⟩
theorem F16 : Fn (tbOf defs) pr 16 (wideF 15) := ⟨rfl, rfl⟩
theorem F17 : Fn (tbOf defs) pr 17 (moveF 15) := ⟨rfl, rfl⟩
theorem F18 : Fn (tbOf defs) pr 18 (takeF 17 16) := ⟨rfl, rfl⟩
theorem F19 : Fn (tbOf defs) pr 19 (fromF 18) := ⟨rfl, rfl⟩
theorem F20 : Fn (tbOf defs) pr 20 (pickF 18) := ⟨rfl, rfl⟩
theorem F21 : Fn (tbOf defs) pr 21 (rareF 18) := ⟨rfl, rfl⟩
theorem F22 : Fn (tbOf defs) pr 22 f22F := ⟨rfl, rfl⟩
theorem F23 : Fn (tbOf defs) pr 23 f23F := ⟨rfl, rfl⟩
theorem F24 : Fn (tbOf defs) pr 24 f24F := ⟨rfl, rfl⟩
theorem F25 : Fn (tbOf defs) pr 25 (copyF 25) := ⟨rfl, rfl⟩
theorem F26 : Fn (tbOf defs) pr 26 f26F := ⟨rfl, rfl⟩
theorem F27 : Fn (tbOf defs) pr 27 f27F := ⟨rfl, rfl⟩
theorem F28 : Fn (tbOf defs) pr 28 f28F := ⟨rfl, rfl⟩
theorem F29 : Fn (tbOf defs) pr 29 f29F := ⟨rfl, rfl⟩
theorem F30 : Fn (tbOf defs) pr 30 f30F := ⟨rfl, rfl⟩
theorem F31 : Fn (tbOf defs) pr 31 f31F := ⟨rfl, rfl⟩
theorem F32 : Fn (tbOf defs) pr 32 f32F := ⟨rfl, rfl⟩
theorem F33 : Fn (tbOf defs) pr 33 f33F := ⟨rfl, rfl⟩
theorem F34 : Fn (tbOf defs) pr 34 f34F := ⟨rfl, rfl⟩
theorem F35 : Fn (tbOf defs) pr 35 f35F := ⟨rfl, rfl⟩
theorem F36 : Fn (tbOf defs) pr 36 f36F := ⟨rfl, rfl⟩
theorem F37 : Fn (tbOf defs) pr 37 f37F := ⟨rfl, rfl⟩
theorem F39 : Fn (tbOf defs) pr 39 equalF := ⟨rfl, rfl⟩
theorem F41 : Fn (tbOf defs) pr 41 (askedF 25 38 39 40) := ⟨rfl, rfl⟩
theorem F42 : Fn (tbOf defs) pr 42 (answersF 41 39) := ⟨rfl, rfl⟩
theorem F43 : Fn (tbOf defs) pr 43 (refusesF 25 38 39) := ⟨rfl, rfl⟩
theorem F44 : Fn (tbOf defs) pr 44 f44F := ⟨rfl, rfl⟩
theorem F45 : Fn (tbOf defs) pr 45 f45F := ⟨rfl, rfl⟩
theorem F46 : Fn (tbOf defs) pr 46 f46F := ⟨rfl, rfl⟩
theorem F47 : Fn (tbOf defs) pr 47 f47F := ⟨rfl, rfl⟩
theorem F48 : Fn (tbOf defs) pr 48 f48F := ⟨rfl, rfl⟩
theorem F49 : Fn (tbOf defs) pr 49 f49F := ⟨rfl, rfl⟩
theorem F50 : Fn (tbOf defs) pr 50 f50F := ⟨rfl, rfl⟩
theorem Tt : pr 38 = some (pTold 37 tnames) := rfl
theorem Ts : pr 40 = some pSpoil := rfl
end MP
set_option linter.all false
set_option maxRecDepth 100000
set_option maxHeartbeats 1000000
namespace MP
open PySem PySem.Spec PyProof.Rows L2
/-! the program's small functions -/
def isW : D → Bool
  | .int _ => true
  | _ => false
def within (v : D) (lo hi : Int) : Bool := match v with
  | .int i => decide (lo ≤ i) && decide (i ≤ hi)
  | _ => false
theorem fine_int {i : Int} (h : i.natAbs < 2 ^ 250) : fine (.int i) = true := by
  have := log2_lt h
  simp only [fine, decide_eq_true_eq]
  omega
theorem isW_run {n : Nat} (hn : 1 ≤ n) {d : D} (h : fine d = true) : runD (tbOf defs) pr n 0 [shr d] = .ok (.bl (isW d)) [] := by
  obtain ⟨k, rfl⟩ : ∃ k, n = k + 1 := ⟨n - 1, by omega⟩
  rw [F0.run rfl]
  cases d with
  | exc c => simp [fine] at h
  | scr c => simp [fine] at h
  | _ => simp [fillA, ioA, goneA, lentA, okA, putAll, wipeE, shrAll, ioOut, isPk, pk, isiD, own, owns, shr, shrs, noL, noLs, pln, plns, noIo, tgSlots, callI, lenOk_eq, f0F, isW]
theorem within_run {n : Nat} (hn : 2 ≤ n) {d : D} (h : fine d = true) (lo hi : Int) : runD (tbOf defs) pr n 1 [shr d, .int lo, .int hi] = .ok (.bl (within d lo hi)) [] := by
  obtain ⟨k, rfl⟩ : ∃ k, n = k + 1 := ⟨n - 1, by omega⟩
  rw [F1.run rfl]
  have e := isW_run (n := k) (by omega) h
  cases d with
  | exc c => simp [fine] at h
  | scr c => simp [fine] at h
  | int i =>
    simp only [shr] at e
    by_cases h1 : lo ≤ i <;> simp [fillA, ioA, goneA, lentA, okA, putAll, wipeE, shrAll, ioOut, isPk, pk, isiD, own, owns, shr, shrs, noL, noLs, pln, plns, noIo, tgSlots, callI, lenOk_eq, f1F, e, isW, within, h1]
  | lst o xs =>
    simp only [shr] at e
    simp [fillA, ioA, goneA, lentA, okA, putAll, wipeE, shrAll, ioOut, isPk, pk, isiD, own, owns, shr, shrs, noL, noLs, pln, plns, noIo, tgSlots, callI, lenOk_eq, f1F, e, isW, within]
  | tup xs =>
    simp only [shr] at e
    simp [fillA, ioA, goneA, lentA, okA, putAll, wipeE, shrAll, ioOut, isPk, pk, isiD, own, owns, shr, shrs, noL, noLs, pln, plns, noIo, tgSlots, callI, lenOk_eq, f1F, e, isW, within]
  | _ =>
    simp only [shr] at e
    simp [fillA, ioA, goneA, lentA, okA, putAll, wipeE, shrAll, ioOut, isPk, pk, isiD, own, owns, shr, shrs, noL, noLs, pln, plns, noIo, tgSlots, callI, lenOk_eq, f1F, e, isW, within]
theorem within_shr (d : D) (lo hi : Int) : within (shr d) lo hi = within d lo hi := by cases d <;> rfl
theorem isW_shr (d : D) : isW (shr d) = isW d := by cases d <;> rfl
theorem dirs_run {n : Nat} (hn : 3 ≤ n) {d : D} (h : fine d = true) : runD (tbOf defs) pr n 2 [shr d] = if within d 1 18 then .ok .non [] else .exc "BadNumber" [] := by
  obtain ⟨k, rfl⟩ : ∃ k, n = k + 1 := ⟨n - 1, by omega⟩
  rw [F2.run rfl]
  have e := within_run (n := k) (by omega) h 1 18
  cases h1 : within d 1 18 <;> rw [h1] at e <;> simp [fillA, ioA, goneA, lentA, okA, putAll, wipeE, shrAll, ioOut, isPk, pk, isiD, own, owns, shr, shrs, noL, noLs, pln, plns, noIo, tgSlots, callI, lenOk_eq, f2F, e]
theorem ttru_map (f : D → Bool) : ∀ xs : List D, ttru (xs.map fun x => .bl (f x)) = some (xs.map f)
  | [] => rfl
  | x :: xs => by simp only [List.map_cons, ttru, ttru_map f xs, Option.map_some]
theorem all_map (f : D → Bool) (xs : List D) : (xs.map f).all id = xs.all f := by rw [List.all_map]; rfl
theorem all_shrs {f : D → Bool} (hf : ∀ d, f (shr d) = f d) : ∀ xs : List D, (shrs xs).all f = xs.all f
  | [] => rfl
  | x :: xs => by simp only [shrs, List.all_cons, hf, all_shrs hf xs]
/-- a tuple of numbers within bounds -/
def tw (m : Nat) (lo : Int) : D → Bool
  | .tup xs => decide (xs.length = m) && xs.all fun x => within x lo MOST'
  | _ => false
theorem tw_run {n : Nat} (hn : 3 ≤ n) {m : Nat} {lo : Int} {v : D} (hv : fine v = true) : runD (tbOf defs) pr n 3 [.int (m : Int), .int lo, shr v] = .ok (.bl (tw m lo v)) [] := by
  obtain ⟨k, rfl⟩ : ∃ k, n = k + 1 := ⟨n - 1, by omega⟩
  rw [F3.run rfl]
  cases v with
  | exc c => simp [fine] at hv
  | scr c => simp [fine] at hv
  | tup xs =>
    simp only [fine, Bool.and_eq_true] at hv
    have hl : xs.length ≤ 16777216 := by have := hv.2; rwa [lenOk_eq, decide_eq_true_eq] at this
    by_cases h1 : (xs.length : Int) = (m : Int)
    · have h2 : xs.length = m := by omega
      have lc := lcL_map (turn := turnL (.nm 3) (fun s => .ok true s) (evX (runD (tbOf defs) pr k) f3_x1).val) (ws := [3]) (s := [some (.int (m : Int)), some (.int lo), some (.tup (shrs xs)), none]) (fun d => .bl (within d lo MOST')) (shrs xs) [] (fun d hd => by
        rw [shrs_map] at hd
        obtain ⟨x, hx, rfl⟩ := List.mem_map.mp hd
        have e := within_run (n := k) (by omega) (fine_mem hv.1 hx) lo MOST'
        refine ⟨[some (.int (m : Int)), some (.int lo), some (.tup (shrs xs)), some (shr x)], ?_, rfl⟩
        rw [within_shr]
        unfold MOST' at e ⊢
        simp [fillA, ioA, goneA, lentA, okA, putAll, wipeE, shrAll, ioOut, isPk, pk, isiD, own, owns, shr, shrs, noL, noLs, pln, plns, noIo, tgSlots, callI, lenOk_eq, turnL, f3_x1, e]) (by rw [lenOk_eq, len_shrs, decide_eq_true_eq]; simpa using hl)
      rw [List.nil_append] at lc
      have t := ttru_map (fun d => within d lo MOST') (shrs xs)
      have t2 := all_map (fun d => within d lo MOST') (shrs xs)
      rw [all_shrs (f := fun d => within d lo MOST') (fun d => within_shr d lo MOST')] at t2
      have r : tw m lo (.tup xs) = xs.all fun x => within x lo MOST' := by simp only [tw, h2, decide_true, Bool.true_and]
      rw [r, ← t2]
      have hl3 : (shrs xs).length = m := by rw [len_shrs]; exact h2
      have hf : shrs (shrs xs) = shrs xs := shrs_shrs xs
      by_cases hno : noLs xs = true <;> simp [fillA, ioA, goneA, lentA, okA, putAll, wipeE, shrAll, ioOut, isPk, pk, isiD, own, owns, shr, shrs, noL, noLs, pln, plns, noIo, tgSlots, callI, lenOk_eq, f3F, hl3, giveR, lc, t, hno, noLs_shrs]
    · have h2 : xs.length ≠ m := by omega
      have h3 : ((shrs xs).length : Int) = (m : Int) ↔ False := by rw [len_shrs]; exact iff_false_intro h1
      have h4 : (shrs xs).length = m ↔ False := by rw [len_shrs]; exact iff_false_intro h2
      have r : tw m lo (.tup xs) = false := by simp only [tw, h2, decide_false, Bool.false_and]
      rw [r]
      simp [fillA, ioA, goneA, lentA, okA, putAll, wipeE, shrAll, ioOut, isPk, pk, isiD, own, owns, shr, shrs, noL, noLs, pln, plns, noIo, tgSlots, callI, lenOk_eq, f3F, h3, h4, h2]
  | _ => simp [fillA, ioA, goneA, lentA, okA, putAll, wipeE, shrAll, ioOut, isPk, pk, isiD, own, owns, shr, shrs, noL, noLs, pln, plns, noIo, tgSlots, callI, lenOk_eq, f3F, tw]
def isCellD (d v : D) : Option Bool := match d with
  | .int i => if within (.int i) 1 18 then some (tw i.toNat (-MOST') v) else none
  | _ => none
theorem cell_run {n : Nat} (hn : 4 ≤ n) {d v : D} (hd : fine d = true) (hv : fine v = true) : runD (tbOf defs) pr n 4 [shr d, shr v] = match isCellD d v with
    | some r => .ok (.bl r) []
    | none => .exc "BadNumber" [] := by
  obtain ⟨k, rfl⟩ : ∃ k, n = k + 1 := ⟨n - 1, by omega⟩
  rw [F4.run rfl]
  have e1 := dirs_run (n := k) (by omega) hd
  cases d with
  | int i =>
    simp only [shr] at e1
    cases h : within (.int i) 1 18 with
    | true =>
      have hi : 1 ≤ i ∧ i ≤ 18 := by simpa [within] using h
      have ei : ((i.toNat : Nat) : Int) = i := Int.toNat_of_nonneg (by omega)
      have e2 := tw_run (n := k) (by omega) (m := i.toNat) (lo := -MOST') hv
      rw [ei] at e2
      rw [h] at e1
      unfold MOST' at e2
      simp only [isCellD, h, if_true]
      unfold MOST'
      by_cases hno : noL (shr v) = true <;> simp [fillA, ioA, goneA, lentA, okA, putAll, wipeE, shrAll, ioOut, isPk, pk, isiD, own, owns, shr, shrs, noL, noLs, pln, plns, noIo, tgSlots, callI, lenOk_eq, f4F, e1, e2, hno]
    | false =>
      rw [h] at e1
      simp only [isCellD, h, Bool.false_eq_true, if_false]
      simp [fillA, ioA, goneA, lentA, okA, putAll, wipeE, shrAll, ioOut, isPk, pk, isiD, own, owns, shr, shrs, noL, noLs, pln, plns, noIo, tgSlots, callI, lenOk_eq, f4F, e1]
  | exc c => simp [fine] at hd
  | scr c => simp [fine] at hd
  | lst o xs => simp only [shr, within] at e1; simp [fillA, ioA, goneA, lentA, okA, putAll, wipeE, shrAll, ioOut, isPk, pk, isiD, own, owns, shr, shrs, noL, noLs, pln, plns, noIo, tgSlots, callI, lenOk_eq, f4F, e1, isCellD]
  | tup xs => simp only [shr, within] at e1; simp [fillA, ioA, goneA, lentA, okA, putAll, wipeE, shrAll, ioOut, isPk, pk, isiD, own, owns, shr, shrs, noL, noLs, pln, plns, noIo, tgSlots, callI, lenOk_eq, f4F, e1, isCellD]
  | _ => simp only [shr, within] at e1; simp [fillA, ioA, goneA, lentA, okA, putAll, wipeE, shrAll, ioOut, isPk, pk, isiD, own, owns, shr, shrs, noL, noLs, pln, plns, noIo, tgSlots, callI, lenOk_eq, f4F, e1, isCellD]
theorem chkCell_run {n : Nat} (hn : 5 ≤ n) {d v : D} (hd : fine d = true) (hv : fine v = true) : runD (tbOf defs) pr n 9 [shr d, shr v] = match isCellD d v with
    | some true => .ok .non []
    | some false => .exc "BadCell" []
    | none => .exc "BadNumber" [] := by
  obtain ⟨k, rfl⟩ : ∃ k, n = k + 1 := ⟨n - 1, by omega⟩
  rw [F9.run rfl]
  have e := cell_run (n := k) (by omega) hd hv
  cases h : isCellD d v with
  | none => rw [h] at e; simp [fillA, ioA, goneA, lentA, okA, putAll, wipeE, shrAll, ioOut, isPk, pk, isiD, own, owns, shr, shrs, noL, noLs, pln, plns, noIo, tgSlots, callI, lenOk_eq, f9F, e]
  | some r => rw [h] at e; cases r <;> simp [fillA, ioA, goneA, lentA, okA, putAll, wipeE, shrAll, ioOut, isPk, pk, isiD, own, owns, shr, shrs, noL, noLs, pln, plns, noIo, tgSlots, callI, lenOk_eq, f9F, e]

end MP
set_option linter.all false
set_option maxRecDepth 100000
set_option maxHeartbeats 1000000
namespace MP
open PySem PySem.Spec PyProof.Rows L2
--import K01L1
/-! is_screen -/
def rowOk (m : Nat) : D → Bool
  | .tup es => decide (es.length = m) && es.all isW
  | _ => false
def sqD' : D → Bool
  | .tup rs => decide (1 ≤ rs.length) && decide (rs.length ≤ 18) && rs.all (rowOk rs.length)
  | _ => false
/-- no list within a row -/
def flat2 : D → Prop
  | .tup rs => ∀ r ∈ rs, ∀ es, r = .tup es → noLs es = true
  | _ => True
theorem sq_loop {k : Nat} (hk : 1 ≤ k) {v : D} {m : Nat} (hm : m ≤ 18) (hv : v = .tup (shrs vs)) (hl : vs.length = m) : ∀ (rs : List D) (o1 : Option D), fines rs = true → (∀ r ∈ rs, ∀ es, r = .tup es → noLs es = true) →
    (rs.all (rowOk m) = true ∧ ∃ p1, forL (.nm 1) (evSs (runD (tbOf defs) pr k) f5_b2 []) (shrs rs) [some v, o1, none] = .nx [some v, p1, none]) ∨ (rs.all (rowOk m) = false ∧ ∃ p1, forL (.nm 1) (evSs (runD (tbOf defs) pr k) f5_b2 []) (shrs rs) [some v, o1, none] = .ret (.bl false) [some v, p1, none])
  | [], o1, _, _ => .inl ⟨rfl, o1, by simp [shrs]⟩
  | r :: rs, o1, hf, hn => by
    simp only [fines, Bool.and_eq_true] at hf
    have ih := fun o => sq_loop hk hm hv hl rs o hf.2 fun x hx => hn x (.tail _ hx)
    subst hv
    have lv : (shrs vs).length = m := by rw [len_shrs]; exact hl
    have go : rowOk m r = true ∧ evSs (runD (tbOf defs) pr k) f5_b2 [] [some (.tup (shrs vs)), some (shr r), none] = .nx [some (.tup (shrs vs)), some (shr r), none] ∨ rowOk m r = false ∧ evSs (runD (tbOf defs) pr k) f5_b2 [] [some (.tup (shrs vs)), some (shr r), none] = .ret (.bl false) [some (.tup (shrs vs)), some (shr r), none] := by
      cases r with
      | tup es =>
        have nl := hn (.tup es) (.head _) es rfl
        have hfe := hf.1
        simp only [fine, Bool.and_eq_true] at hfe
        by_cases h1 : es.length = m
        · have lc := lcL_map (turn := turnL (.nm 2) (fun s => .ok true s) (evX (runD (tbOf defs) pr k) f5_x1).val) (ws := [2]) (s := [some (.tup (shrs vs)), none, none]) (fun d => .bl (isW d)) (shrs es) [] (fun d hd => by
            rw [shrs_map] at hd
            obtain ⟨x, hx, rfl⟩ := List.mem_map.mp hd
            have e := isW_run (n := k) hk (fine_mem hfe.1 hx)
            refine ⟨[some (.tup (shrs vs)), none, some (shr x)], ?_, rfl⟩
            rw [isW_shr]
            simp [fillA, ioA, goneA, lentA, okA, putAll, wipeE, shrAll, ioOut, isPk, pk, isiD, own, owns, shr, shrs, noL, noLs, pln, plns, noIo, tgSlots, callI, lenOk_eq, turnL, f5_x1, e]) (by rw [lenOk_eq, len_shrs, decide_eq_true_eq, h1]; simp only [List.length_nil]; omega)
          rw [List.nil_append] at lc
          have t := ttru_map isW (shrs es)
          have t2 := all_map isW (shrs es)
          rw [all_shrs isW_shr] at t2
          have le : (shrs es).length = m := by rw [len_shrs]; exact h1
          have nl2 : noLs (shrs es) = true := by rw [noLs_shrs]; exact nl
          cases h2 : es.all isW with
          | true =>
            left
            rw [h2] at t2
            refine ⟨by simp only [rowOk, h1, h2, decide_true, Bool.and_self], ?_⟩
            simp [fillA, ioA, goneA, lentA, okA, putAll, wipeE, shrAll, ioOut, isPk, pk, isiD, own, owns, shr, shrs, noL, noLs, pln, plns, noIo, tgSlots, callI, lenOk_eq, f5_b2, lv, le, nl2, giveR, lc, t, t2]
          | false =>
            right
            rw [h2] at t2
            refine ⟨by simp only [rowOk, h2, Bool.and_false], ?_⟩
            simp [fillA, ioA, goneA, lentA, okA, putAll, wipeE, shrAll, ioOut, isPk, pk, isiD, own, owns, shr, shrs, noL, noLs, pln, plns, noIo, tgSlots, callI, lenOk_eq, f5_b2, lv, le, nl2, giveR, lc, t, t2]
        · right
          have le : ((shrs es).length : Int) = (m : Int) ↔ False := by rw [len_shrs]; exact iff_false_intro (by omega)
          have le2 : (shrs es).length = m ↔ False := by rw [len_shrs]; exact iff_false_intro h1
          refine ⟨by simp only [rowOk, h1, decide_false, Bool.false_and], ?_⟩
          simp [fillA, ioA, goneA, lentA, okA, putAll, wipeE, shrAll, ioOut, isPk, pk, isiD, own, owns, shr, shrs, noL, noLs, pln, plns, noIo, tgSlots, callI, lenOk_eq, f5_b2, lv, le, le2]
      | exc c => simp [fine] at hf
      | scr c => simp [fine] at hf
      | _ => right; exact ⟨rfl, by simp [fillA, ioA, goneA, lentA, okA, putAll, wipeE, shrAll, ioOut, isPk, pk, isiD, own, owns, shr, shrs, noL, noLs, pln, plns, noIo, tgSlots, callI, lenOk_eq, f5_b2]⟩
    rcases go with ⟨g1, g2⟩ | ⟨g1, g2⟩
    · rcases ih (some (shr r)) with ⟨i1, p1, i2⟩ | ⟨i1, p1, i2⟩
      · left
        refine ⟨by simp only [List.all_cons, g1, i1, Bool.and_self], p1, ?_⟩
        simp [shrs, g2, i2]
      · right
        refine ⟨by simp only [List.all_cons, g1, i1, Bool.and_false], p1, ?_⟩
        simp [shrs, g2, i2]
    · right
      refine ⟨by simp only [List.all_cons, g1, Bool.false_and], some (shr r), ?_⟩
      simp [shrs, g2]
theorem square_run {n : Nat} (hn : 2 ≤ n) {v : D} (hv : fine v = true) (hf : flat2 v) : runD (tbOf defs) pr n 5 [shr v] = .ok (.bl (sqD' v)) [] := by
  obtain ⟨k, rfl⟩ : ∃ k, n = k + 1 := ⟨n - 1, by omega⟩
  rw [F5.run rfl]
  cases v with
  | exc c => simp [fine] at hv
  | scr c => simp [fine] at hv
  | tup rs =>
    simp only [fine, Bool.and_eq_true] at hv
    by_cases h1 : 1 ≤ rs.length
    · by_cases h2 : rs.length ≤ 18
      · have a1 : ((1 : Int) ≤ ((shrs rs).length : Int)) = True := eq_true (by rw [len_shrs]; omega)
        have a2 : (((shrs rs).length : Int) ≤ 18) = True := eq_true (by rw [len_shrs]; omega)
        have a3 : (0 < (shrs rs).length) = True := eq_true (by rw [len_shrs]; omega)
        have r : sqD' (.tup rs) = rs.all (rowOk rs.length) := by simp only [sqD', h1, h2, decide_true, Bool.true_and]
        rcases sq_loop (k := k) (by omega) h2 rfl rfl rs none hv.1 hf with ⟨i1, p1, i2⟩ | ⟨i1, p1, i2⟩
        · rw [r, i1]
          by_cases hno : noLs rs = true <;> simp [fillA, ioA, goneA, lentA, okA, putAll, wipeE, shrAll, ioOut, isPk, pk, isiD, own, owns, shr, shrs, noL, noLs, pln, plns, noIo, tgSlots, callI, lenOk_eq, f5F, a1, a2, a3, hno, noLs_shrs, i2]
        · rw [r, i1]
          by_cases hno : noLs rs = true <;> simp [fillA, ioA, goneA, lentA, okA, putAll, wipeE, shrAll, ioOut, isPk, pk, isiD, own, owns, shr, shrs, noL, noLs, pln, plns, noIo, tgSlots, callI, lenOk_eq, f5F, a1, a2, a3, hno, noLs_shrs, i2]
      · have a1 : ((1 : Int) ≤ ((shrs rs).length : Int)) = True := eq_true (by rw [len_shrs]; omega)
        have a2 : (((shrs rs).length : Int) ≤ 18) = False := eq_false (by rw [len_shrs]; omega)
        have a3 : (0 < (shrs rs).length) = True := eq_true (by rw [len_shrs]; omega)
        have r : sqD' (.tup rs) = false := by simp only [sqD', h2, decide_false, Bool.and_false, Bool.false_and]
        rw [r]
        simp [fillA, ioA, goneA, lentA, okA, putAll, wipeE, shrAll, ioOut, isPk, pk, isiD, own, owns, shr, shrs, noL, noLs, pln, plns, noIo, tgSlots, callI, lenOk_eq, f5F, a1, a2, a3]
    · have a1 : ((1 : Int) ≤ ((shrs rs).length : Int)) = False := eq_false (by rw [len_shrs]; omega)
      have a3 : (0 < (shrs rs).length) = False := eq_false (by rw [len_shrs]; omega)
      have r : sqD' (.tup rs) = false := by simp only [sqD', h1, decide_false, Bool.false_and]
      rw [r]
      simp [fillA, ioA, goneA, lentA, okA, putAll, wipeE, shrAll, ioOut, isPk, pk, isiD, own, owns, shr, shrs, noL, noLs, pln, plns, noIo, tgSlots, callI, lenOk_eq, f5F, a1, a3]
  | _ => simp [fillA, ioA, goneA, lentA, okA, putAll, wipeE, shrAll, ioOut, isPk, pk, isiD, own, owns, shr, shrs, noL, noLs, pln, plns, noIo, tgSlots, callI, lenOk_eq, f5F, sqD']
/-! matrices as data -/
def rowA (M : List (List Int)) (i : Nat) : List Int := M.getD i []
def rowD (r : List Int) : D := .tup (r.map .int)
def scrD (M : List (List Int)) : D := .tup (M.map rowD)
theorem shr_row (r : List Int) : shr (rowD r) = rowD r := by
  unfold rowD
  rw [shr, shrs_map, List.map_map]
  rfl
theorem shrs_rows : ∀ M : List (List Int), shrs (M.map rowD) = M.map rowD
  | [] => rfl
  | r :: M => by rw [List.map_cons, shrs, shr_row, shrs_rows M]
theorem shr_scr (M : List (List Int)) : shr (scrD M) = scrD M := by
  unfold scrD
  rw [shr, shrs_rows]
theorem noL_row (r : List Int) : noL (rowD r) = true := by
  unfold rowD
  simp only [noL]
  induction r with
  | nil => rfl
  | cons x r ih => simp only [List.map_cons, noLs, noL, ih, Bool.and_self]
theorem noLs_rows : ∀ M : List (List Int), noLs (M.map rowD) = true
  | [] => rfl
  | r :: M => by rw [List.map_cons, noLs, noL_row, noLs_rows M]; rfl
theorem noL_scr (M : List (List Int)) : noL (scrD M) = true := by
  unfold scrD
  simp only [noL]
  exact noLs_rows M
theorem ints_of : ∀ es : List D, es.all isW = true → ∃ r : List Int, es = r.map .int
  | [], _ => ⟨[], rfl⟩
  | e :: es, h => by
    simp only [List.all_cons, Bool.and_eq_true] at h
    obtain ⟨r, rfl⟩ := ints_of es h.2
    cases e with
    | int i => exact ⟨i :: r, rfl⟩
    | _ => simp [isW] at h
theorem rows_of (m : Nat) : ∀ rs : List D, rs.all (rowOk m) = true → ∃ M : List (List Int), rs = M.map rowD ∧ ∀ r ∈ M, r.length = m
  | [], _ => ⟨[], rfl, fun _ h => nomatch h⟩
  | r :: rs, h => by
    simp only [List.all_cons, Bool.and_eq_true] at h
    obtain ⟨M, rfl, hM⟩ := rows_of m rs h.2
    cases r with
    | tup es =>
      have h1 := h.1
      simp only [rowOk, Bool.and_eq_true, decide_eq_true_eq] at h1
      obtain ⟨q, rfl⟩ := ints_of es h1.2
      refine ⟨q :: M, rfl, fun x hx => ?_⟩
      rcases List.mem_cons.mp hx with rfl | hx
      · simpa using h1.1
      · exact hM x hx
    | _ => simp [rowOk] at h
theorem atI_mapD {α β : Type} (f : α → β) (l : List α) (d : α) {i : Nat} (h : i < l.length) : atI (l.map f) (i : Int) = some (f (l.getD i d)) := by
  unfold atI ixN
  rw [if_pos (by omega), if_pos (by rw [List.length_map]; omega), Int.toNat_natCast]
  show (l.map f)[i]? = _
  rw [List.getElem?_map, List.getElem?_eq_getElem h, List.getD_eq_getElem?_getD, List.getElem?_eq_getElem h]
  rfl
theorem atI_row {M : List (List Int)} {i : Nat} (h : i < M.length) : atI (M.map rowD) (i : Int) = some (.tup ((rowA M i).map .int)) := atI_mapD rowD M [] h
theorem getD_row {n : Nat} {M : List (List Int)} (hr : ∀ r ∈ M, r.length = n) {i : Nat} (h : i < M.length) : (rowA M i).length = n := by
  unfold rowA
  rw [List.getD_eq_getElem?_getD, List.getElem?_eq_getElem h]
  exact hr _ (List.getElem_mem h)
theorem atI_ent {n : Nat} {M : List (List Int)} (hr : ∀ r ∈ M, r.length = n) {i j : Nat} (h : i < M.length) (hj : j < n) : atI ((rowA M i).map D.int) (j : Int) = some (.int (ent M i j)) :=
  atI_mapD D.int _ 0 (by rw [getD_row hr h]; exact hj)
theorem rngL_2 {i j : Int} (h1 : -(2 ^ 62) ≤ i) (h2 : i < 2 ^ 62) (h3 : -(2 ^ 62) ≤ j) (h4 : j < 2 ^ 62) : rngL [.int i, .int j] = some (rngD i 1 (j - i).toNat) := by
  show (if ((decide (-(2 ^ 62) ≤ i) && decide (i < 2 ^ 62)) && (decide (-(2 ^ 62) ≤ j) && decide (j < 2 ^ 62))) = true then some (rngD i 1 (j - i).toNat) else none) = _
  exact if_pos (Bool.and_eq_true_iff.mpr ⟨Bool.and_eq_true_iff.mpr ⟨decide_eq_true h1, decide_eq_true h2⟩, Bool.and_eq_true_iff.mpr ⟨decide_eq_true h3, decide_eq_true h4⟩⟩)
/-- the i-th row is a basis' -/
def brow (n : Nat) (M : List (List Int)) (i : Nat) : Bool := decide (1 ≤ ent M i i) && ((List.range i).all (fun j => decide (ent M i j = 0)) && (List.range n).all fun j => decide (j ≤ i) || (decide (0 ≤ ent M i j) && decide (ent M i j < ent M j j)))
theorem brow_run {n : Nat} (hn : 1 ≤ n) {m : Nat} (hm : m ≤ 1000) {M : List (List Int)} (hl : M.length = m) (hr : ∀ r ∈ M, r.length = m) {i : Nat} (hi : i < m) : runD (tbOf defs) pr n 6 [scrD M, .int (i : Int)] = .ok (.bl (brow m M i)) [] := by
  obtain ⟨k, rfl⟩ : ∃ k, n = k + 1 := ⟨n - 1, by omega⟩
  rw [F6.run rfl]
  have row : atI (M.map rowD) (i : Int) = some (.tup ((rowA M i).map .int)) := atI_row (by omega)
  have nr : noLs ((rowA M i).map D.int) = true := by have := noL_row (rowA M i); simpa only [rowD, noL] using this
  have rl : (rowA M i).length = m := getD_row hr (by omega)
  have at_ : ∀ {a b : Nat}, a < m → b < m → atI ((rowA M a).map D.int) (b : Int) = some (.int (ent M a b)) := fun ha hb => atI_ent hr (by omega) hb
  have rw' : ∀ {a : Nat}, a < m → atI (M.map rowD) (a : Int) = some (.tup ((rowA M a).map .int)) := fun ha => atI_row (by omega)
  unfold scrD
  by_cases h1 : ent M i i < 1
  · have r : brow m M i = false := by
      have : ¬ 1 ≤ ent M i i := by omega
      simp only [brow, this, decide_false, Bool.false_and]
    rw [r]
    simp [fillA, ioA, goneA, lentA, okA, putAll, wipeE, shrAll, ioOut, isPk, pk, isiD, own, owns, shr, shrs, noL, noLs, pln, plns, noIo, tgSlots, callI, lenOk_eq, f6F, row, at_ hi hi, nr, h1]
  · have h1' : 1 ≤ ent M i i := by omega
    have l1 : ∃ rr, forL (.nm 3) (evSs (runD (tbOf defs) pr k) f6_b1 []) (rngD 0 1 i) [some (.tup (M.map rowD)), some (.int (i : Int)), some (.tup ((rowA M i).map .int)), none] = rr ∧
        ((∃ o, rr = .nx [some (.tup (M.map rowD)), some (.int (i : Int)), some (.tup ((rowA M i).map .int)), o] ∧ (List.range i).all (fun j => decide (ent M i j = 0)) = true) ∨ ∃ o, rr = .ret (.bl false) [some (.tup (M.map rowD)), some (.int (i : Int)), some (.tup ((rowA M i).map .int)), o] ∧ (List.range i).all (fun j => decide (ent M i j = 0)) = false) := by
      refine forL_rng (fun j s => ∃ o, s = [some (.tup (M.map rowD)), some (.int (i : Int)), some (.tup ((rowA M i).map .int)), o] ∧ ∀ q, q < j → ent M i q = 0) (fun rr => ∃ r', rr = r' ∧ ((∃ o, r' = .nx [some (.tup (M.map rowD)), some (.int (i : Int)), some (.tup ((rowA M i).map .int)), o] ∧ (List.range i).all (fun j => decide (ent M i j = 0)) = true) ∨ ∃ o, r' = .ret (.bl false) [some (.tup (M.map rowD)), some (.int (i : Int)), some (.tup ((rowA M i).map .int)), o] ∧ (List.range i).all (fun j => decide (ent M i j = 0)) = false)) ?_ ?_ _ ⟨none, rfl, fun q hq => absurd hq (Nat.not_lt_zero _)⟩
      · rintro s ⟨o, rfl, h⟩
        exact ⟨_, rfl, .inl ⟨o, rfl, List.all_eq_true.mpr fun j hj => decide_eq_true (h j (List.mem_range.mp hj))⟩⟩
      · rintro j s hj ⟨o, rfl, h⟩
        have e1 : (0 : Int) + (j : Int) * 1 = (j : Int) := by omega
        have a := at_ (a := i) (b := j) hi (by omega)
        by_cases z : ent M i j = 0
        · refine ⟨_, .nx [some (.tup (M.map rowD)), some (.int (i : Int)), some (.tup ((rowA M i).map .int)), some (.int (j : Int))], rfl, ?_, _, rfl, fun q hq => ?_⟩
          · rw [e1]
            simp [fillA, ioA, goneA, lentA, okA, putAll, wipeE, shrAll, ioOut, isPk, pk, isiD, own, owns, shr, shrs, noL, noLs, pln, plns, noIo, tgSlots, callI, lenOk_eq, f6_b1, a, z, cmpD_neI]
          · by_cases e : q = j
            · rw [e]; exact z
            · exact h q (by omega)
        · refine ⟨_, .ret (.bl false) [some (.tup (M.map rowD)), some (.int (i : Int)), some (.tup ((rowA M i).map .int)), some (.int (j : Int))], rfl, ?_, _, rfl, .inr ⟨_, rfl, ?_⟩⟩
          · rw [e1]
            simp [fillA, ioA, goneA, lentA, okA, putAll, wipeE, shrAll, ioOut, isPk, pk, isiD, own, owns, shr, shrs, noL, noLs, pln, plns, noIo, tgSlots, callI, lenOk_eq, f6_b1, a, z, cmpD_neI]
          · rw [List.all_eq_false]
            exact ⟨j, List.mem_range.mpr hj, by simp [z]⟩
    obtain ⟨rr, e1, h2⟩ := l1
    have r1 : rngL [.int (i : Int)] = some (rngD 0 1 i) := rngL_nat (by omega)
    rcases h2 with ⟨o, rfl, a1⟩ | ⟨o, rfl, a1⟩
    · have l2 : ∃ rr, forL (.nm 3) (evSs (runD (tbOf defs) pr k) f6_b2 []) (rngD ((i : Int) + 1) 1 (m - (i + 1))) [some (.tup (M.map rowD)), some (.int (i : Int)), some (.tup ((rowA M i).map .int)), o] = rr ∧
          ((∃ o, rr = .nx [some (.tup (M.map rowD)), some (.int (i : Int)), some (.tup ((rowA M i).map .int)), o] ∧ ((List.range m).all fun j => decide (j ≤ i) || (decide (0 ≤ ent M i j) && decide (ent M i j < ent M j j))) = true) ∨ ∃ o, rr = .ret (.bl false) [some (.tup (M.map rowD)), some (.int (i : Int)), some (.tup ((rowA M i).map .int)), o] ∧ ((List.range m).all fun j => decide (j ≤ i) || (decide (0 ≤ ent M i j) && decide (ent M i j < ent M j j))) = false) := by
        refine forL_rng (fun j s => ∃ o, s = [some (.tup (M.map rowD)), some (.int (i : Int)), some (.tup ((rowA M i).map .int)), o] ∧ ∀ q, i < q → q < i + 1 + j → 0 ≤ ent M i q ∧ ent M i q < ent M q q) (fun rr => ∃ r', rr = r' ∧ ((∃ o, r' = .nx [some (.tup (M.map rowD)), some (.int (i : Int)), some (.tup ((rowA M i).map .int)), o] ∧ ((List.range m).all fun j => decide (j ≤ i) || (decide (0 ≤ ent M i j) && decide (ent M i j < ent M j j))) = true) ∨ ∃ o, r' = .ret (.bl false) [some (.tup (M.map rowD)), some (.int (i : Int)), some (.tup ((rowA M i).map .int)), o] ∧ ((List.range m).all fun j => decide (j ≤ i) || (decide (0 ≤ ent M i j) && decide (ent M i j < ent M j j))) = false)) ?_ ?_ _ ⟨o, rfl, fun q h1 h2 => by omega⟩
        · rintro s ⟨o, rfl, h⟩
          refine ⟨_, rfl, .inl ⟨o, rfl, List.all_eq_true.mpr fun j hj => ?_⟩⟩
          have hj := List.mem_range.mp hj
          by_cases hji : j ≤ i
          · simp [hji]
          · have := h j (by omega) (by omega)
            simp [this.1, this.2]
        · rintro j s hj ⟨o, rfl, h⟩
          have e1 : (i : Int) + 1 + (j : Int) * 1 = ((i + 1 + j : Nat) : Int) := by omega
          generalize hq : i + 1 + j = q at e1
          have qm : q < m := by omega
          have a := at_ (a := i) (b := q) hi qm
          have b := at_ (a := q) (b := q) qm qm
          have c := rw' (a := q) qm
          have bad : ¬ (0 ≤ ent M i q ∧ ent M i q < ent M q q) → ((List.range m).all fun j => decide (j ≤ i) || (decide (0 ≤ ent M i j) && decide (ent M i j < ent M j j))) = false := fun hb => by
            rw [List.all_eq_false]
            refine ⟨q, List.mem_range.mpr qm, ?_⟩
            have : ¬ q ≤ i := by omega
            simpa [this] using hb
          by_cases z : 0 ≤ ent M i q
          · by_cases y : ent M i q < ent M q q
            · refine ⟨_, .nx [some (.tup (M.map rowD)), some (.int (i : Int)), some (.tup ((rowA M i).map .int)), some (.int (q : Int))], rfl, ?_, _, rfl, fun p h3 h4 => ?_⟩
              · rw [e1]
                have nq : noLs ((rowA M q).map D.int) = true := by have := noL_row (rowA M q); simpa only [rowD, noL] using this
                simp [fillA, ioA, goneA, lentA, okA, putAll, wipeE, shrAll, ioOut, isPk, pk, isiD, own, owns, shr, shrs, noL, noLs, pln, plns, noIo, tgSlots, callI, lenOk_eq, f6_b2, a, b, c, z, y, nq]
              · by_cases e : p = q
                · subst e; exact ⟨z, y⟩
                · exact h p h3 (by omega)
            · refine ⟨_, .ret (.bl false) [some (.tup (M.map rowD)), some (.int (i : Int)), some (.tup ((rowA M i).map .int)), some (.int (q : Int))], rfl, ?_, _, rfl, .inr ⟨_, rfl, bad fun h => y h.2⟩⟩
              rw [e1]
              simp [fillA, ioA, goneA, lentA, okA, putAll, wipeE, shrAll, ioOut, isPk, pk, isiD, own, owns, shr, shrs, noL, noLs, pln, plns, noIo, tgSlots, callI, lenOk_eq, f6_b2, a, b, c, z, y]
          · refine ⟨_, .ret (.bl false) [some (.tup (M.map rowD)), some (.int (i : Int)), some (.tup ((rowA M i).map .int)), some (.int (q : Int))], rfl, ?_, _, rfl, .inr ⟨_, rfl, bad fun h => z h.1⟩⟩
            rw [e1]
            simp [fillA, ioA, goneA, lentA, okA, putAll, wipeE, shrAll, ioOut, isPk, pk, isiD, own, owns, shr, shrs, noL, noLs, pln, plns, noIo, tgSlots, callI, lenOk_eq, f6_b2, a, z]
      obtain ⟨rr, e2, h3⟩ := l2
      have r2 : rngL [.int ((i : Int) + 1), .int (m : Int)] = some (rngD ((i : Int) + 1) 1 (m - (i + 1))) := by
        have e : (m : Int) - ((i : Int) + 1) = ((m - (i + 1) : Nat) : Int) := by omega
        rw [rngL_2 (Int.le_trans (by decide) (show (0 : Int) ≤ (i : Int) + 1 by omega)) (Int.lt_of_le_of_lt (show (i : Int) + 1 ≤ 1001 by omega) (by decide)) (Int.le_trans (by decide) (show (0 : Int) ≤ (m : Int) by omega)) (Int.lt_of_le_of_lt (show (m : Int) ≤ 1000 by omega) (by decide)), e, Int.toNat_natCast]
      have e3 : ((rowA M i).length : Int) = (m : Int) := by rw [rl]
      rcases h3 with ⟨o2, rfl, a2⟩ | ⟨o2, rfl, a2⟩
      · have r : brow m M i = true := by simp only [brow, h1', decide_true, a1, a2, Bool.and_self]
        rw [r]
        simp [fillA, ioA, goneA, lentA, okA, putAll, wipeE, shrAll, ioOut, isPk, pk, isiD, own, owns, shr, shrs, noL, noLs, pln, plns, noIo, tgSlots, callI, lenOk_eq, f6F, row, at_ hi hi, nr, h1, r1, e1, rl, r2, e2]
      · have r : brow m M i = false := by simp only [brow, a2, Bool.and_false]
        rw [r]
        simp [fillA, ioA, goneA, lentA, okA, putAll, wipeE, shrAll, ioOut, isPk, pk, isiD, own, owns, shr, shrs, noL, noLs, pln, plns, noIo, tgSlots, callI, lenOk_eq, f6F, row, at_ hi hi, nr, h1, r1, e1, rl, r2, e2]
    · have r : brow m M i = false := by simp only [brow, a1, Bool.false_and, Bool.and_false]
      rw [r]
      simp [fillA, ioA, goneA, lentA, okA, putAll, wipeE, shrAll, ioOut, isPk, pk, isiD, own, owns, shr, shrs, noL, noLs, pln, plns, noIo, tgSlots, callI, lenOk_eq, f6F, row, at_ hi hi, nr, h1, r1, e1]

end MP
set_option linter.all false
set_option maxRecDepth 100000
set_option maxHeartbeats 1000000
namespace MP
open PySem PySem.Spec PyProof.Rows L2
--import K01L2
theorem f7_in {k m : Nat} {z : D} {rr : RS} (ln : lenD z = some (.int (m : Int))) (nz : noL z = true) (r1 : rngL [.int (m : Int)] = some (rngD 0 1 m)) (e : forL (.nm 3) (evSs (runD (tbOf defs) pr k) f7_b1 []) (rngD 0 1 m) [some (.lst false [z]), some (.int 1), some z, none] = rr) : evSs (runD (tbOf defs) pr k) f7_b2 [] [some (.lst false [z]), some (.int 1), some z, none] = rr.bind fun s => evSs (runD (tbOf defs) pr k) .nil [] s := by
  subst e
  simp [fillA, ioA, goneA, lentA, okA, putAll, wipeE, shrAll, ioOut, isPk, pk, isiD, own, owns, shr, shrs, noL, noLs, pln, plns, noIo, tgSlots, callI, lenOk_eq, f7_b2, ln, r1]
theorem f7_nx {k : Nat} {z : D} {q : Int} {o : Option D} (sh : shr z = z) (hb : evSs (runD (tbOf defs) pr k) f7_b2 [] [some (.lst false [z]), some (.int 1), some z, none] = .nx [some (.lst false [z]), some (.int q), some z, o]) : outC f7F.io (evSs (runD (tbOf defs) pr k) f7F.body f7F.io (startE f7F [.lst false [z]])) = .ok (.bl true) [] := by
  simp [fillA, ioA, goneA, lentA, okA, putAll, wipeE, shrAll, ioOut, isPk, pk, isiD, own, owns, shr, shrs, noL, noLs, pln, plns, noIo, tgSlots, callI, lenOk_eq, f7F, sh, hb]
theorem f7_ret {k : Nat} {z : D} {s : Env} (sh : shr z = z) (hb : evSs (runD (tbOf defs) pr k) f7_b2 [] [some (.lst false [z]), some (.int 1), some z, none] = .ret (.bl false) s) : outC f7F.io (evSs (runD (tbOf defs) pr k) f7F.body f7F.io (startE f7F [.lst false [z]])) = .ok (.bl false) [] := by
  simp [fillA, ioA, goneA, lentA, okA, putAll, wipeE, shrAll, ioOut, isPk, pk, isiD, own, owns, shr, shrs, noL, noLs, pln, plns, noIo, tgSlots, callI, lenOk_eq, f7F, sh, hb]
theorem bounded_run {n : Nat} (hn : 1 ≤ n) {m : Nat} (hm : m ≤ 1000) {M : List (List Int)} (hl : M.length = m) (hr : ∀ r ∈ M, r.length = m) (hd : ∀ i, i < m → 1 ≤ ent M i i) (hb : ∀ i, i < m → (ent M i i).natAbs < 2 ^ 2000) : runD (tbOf defs) pr n 7 [.lst false [scrD M]] = .ok (.bl (decide (prodD M m ≤ MOST'))) [] := by
  obtain ⟨k, rfl⟩ : ∃ k, n = k + 1 := ⟨n - 1, by omega⟩
  rw [F7.run rfl]
  have at_ : ∀ {a b : Nat}, a < m → b < m → atI ((rowA M a).map D.int) (b : Int) = some (.int (ent M a b)) := fun ha hb => atI_ent hr (by omega) hb
  have rw' : ∀ {a : Nat}, a < m → atI (M.map rowD) (a : Int) = some (.tup ((rowA M a).map .int)) := fun ha => atI_row (by omega)
  have pos : ∀ j, j ≤ m → 1 ≤ prodD M j := by
    intro j
    induction j with
    | zero => exact fun _ => Int.le_refl _
    | succ j ih =>
      intro hj
      have := Int.mul_le_mul (ih (by omega)) (hd j (by omega)) (by decide) (by have := ih (by omega); omega)
      show 1 ≤ prodD M j * ent M j j
      omega
  have mono : ∀ {a b}, a ≤ b → b ≤ m → prodD M a ≤ prodD M b := by
    intro a b
    induction b with
    | zero => intro h _; rw [Nat.le_zero.mp h]; exact Int.le_refl _
    | succ b ih =>
      intro h hb
      by_cases e : a = b + 1
      · rw [e]; exact Int.le_refl _
      · have h1 := ih (by omega) (by omega)
        have := Int.mul_le_mul (Int.le_refl (prodD M b)) (hd b (by omega)) (by decide) (by have := pos b (by omega); omega)
        show prodD M a ≤ prodD M b * ent M b b
        omega
  have sh : shr (scrD M) = scrD M := shr_scr M
  have l : ∀ o, ∃ rr, forL (.nm 3) (evSs (runD (tbOf defs) pr k) f7_b1 []) (rngD 0 1 m) [some (.lst false [scrD M]), some (.int 1), some (scrD M), o] = rr ∧ ((∃ o, rr = .nx [some (.lst false [scrD M]), some (.int (prodD M m)), some (scrD M), o] ∧ prodD M m ≤ MOST') ∨ ∃ s, rr = .ret (.bl false) s ∧ ¬ prodD M m ≤ MOST') := by
    intro o
    refine forL_rng (fun j s => ∃ o, s = [some (.lst false [scrD M]), some (.int (prodD M j)), some (scrD M), o] ∧ prodD M j ≤ MOST') (fun rr => ∃ r', rr = r' ∧ ((∃ o, r' = .nx [some (.lst false [scrD M]), some (.int (prodD M m)), some (scrD M), o] ∧ prodD M m ≤ MOST') ∨ ∃ s, r' = .ret (.bl false) s ∧ ¬ prodD M m ≤ MOST')) ?_ ?_ _ ⟨o, rfl, by show (1 : Int) ≤ MOST'; decide⟩
    · rintro s ⟨o, rfl, h⟩
      exact ⟨_, rfl, .inl ⟨o, rfl, h⟩⟩
    · rintro j s hj ⟨o, rfl, h⟩
      have e1 : (0 : Int) + (j : Int) * 1 = (j : Int) := by omega
      have a := at_ (a := j) (b := j) hj hj
      have b := rw' (a := j) hj
      have mk : mulOk (prodD M j) (ent M j j) = true := mulOk_of 250 2000 (by have := pos j (by omega); unfold MOST' at h; omega) (hb j hj)
      have es : prodD M (j + 1) = prodD M j * ent M j j := rfl
      by_cases g : prodD M (j + 1) ≤ MOST'
      · refine ⟨_, .nx [some (.lst false [scrD M]), some (.int (prodD M (j + 1))), some (scrD M), some (.int (j : Int))], rfl, ?_, _, rfl, g⟩
        rw [e1]
        rw [es] at g ⊢
        have g2 : (1000000000000000000000000000000000000000000000000000000000000 < prodD M j * ent M j j) = False := eq_false (by unfold MOST' at g; omega)
        unfold scrD
        simp [fillA, ioA, goneA, lentA, okA, putAll, wipeE, shrAll, ioOut, isPk, pk, isiD, own, owns, shr, shrs, noL, noLs, pln, plns, noIo, tgSlots, callI, lenOk_eq, f7_b1, a, b, mk, g2]
      · have g0 := g
        refine ⟨_, .ret (.bl false) [some (.lst false [scrD M]), some (.int (prodD M (j + 1))), some (scrD M), some (.int (j : Int))], rfl, ?_, _, rfl, .inr ⟨_, rfl, fun h2 => g0 (Int.le_trans (mono (by omega) (Nat.le_refl _)) h2)⟩⟩
        rw [e1]
        rw [es] at g ⊢
        have g2 : (1000000000000000000000000000000000000000000000000000000000000 < prodD M j * ent M j j) = True := eq_true (by unfold MOST' at g; omega)
        unfold scrD
        simp [fillA, ioA, goneA, lentA, okA, putAll, wipeE, shrAll, ioOut, isPk, pk, isiD, own, owns, shr, shrs, noL, noLs, pln, plns, noIo, tgSlots, callI, lenOk_eq, f7_b1, a, b, mk, g2]
  obtain ⟨rr, e, h⟩ := l none
  have r1 : rngL [.int (m : Int)] = some (rngD 0 1 m) := rngL_nat hm
  have ln : lenD (scrD M) = some (.int (m : Int)) := by
    show some (D.int ((M.map rowD).length : Int)) = _
    rw [List.length_map, hl]
  have hb2 := f7_in ln (noL_scr M) r1 e
  rcases h with ⟨o, rfl, g⟩ | ⟨s, rfl, g⟩
  · rw [decide_eq_true g]
    exact f7_nx sh hb2
  · rw [decide_eq_false g]
    exact f7_ret sh hb2
/-- v is a screen -/
def IsScr (v : D) : Prop := ∃ n M, v = scrD M ∧ Scr n M
noncomputable instance (v : D) : Decidable (IsScr v) := Classical.propDecidable _
theorem brow_iff {n : Nat} {M : List (List Int)} {i : Nat} : brow n M i = true ↔ 1 ≤ ent M i i ∧ (∀ j, j < i → ent M i j = 0) ∧ ∀ j, i < j → j < n → 0 ≤ ent M i j ∧ ent M i j < ent M j j := by
  unfold brow
  simp only [Bool.and_eq_true, Bool.or_eq_true, decide_eq_true_eq, List.all_eq_true, List.mem_range]
  constructor
  · rintro ⟨h1, h2, h3⟩
    exact ⟨h1, h2, fun j hj hn => by rcases h3 j hn with h | h; omega; exact h⟩
  · rintro ⟨h1, h2, h3⟩
    refine ⟨h1, h2, fun j hn => ?_⟩
    by_cases h : j ≤ i
    · exact .inl h
    · exact .inr (h3 j (by omega) hn)
theorem scr_iff {n : Nat} {M : List (List Int)} (hl : M.length = n) (hr : ∀ r ∈ M, r.length = n) (h1 : 1 ≤ n) (h18 : n ≤ 18) : Scr n M ↔ ((List.range n).all (brow n M) = true ∧ prodD M n ≤ MOST') := by
  simp only [List.all_eq_true, List.mem_range, brow_iff]
  constructor
  · intro S
    exact ⟨fun i hi => ⟨S.diag i hi, fun j hj => S.low i j hi hj, fun j hj hn => S.up i j hj hn⟩, S.prod⟩
  · rintro ⟨h, hp⟩
    exact ⟨hl, hr, h1, h18, fun i hi => (h i hi).1, fun i j hi hj => (h i hi).2.1 j hj, fun i j hij hj => (h i (by omega)).2.2 j hij hj, hp⟩
theorem scrD_inj : ∀ {M N : List (List Int)}, scrD M = scrD N → M = N := by
  have rows : ∀ {a b : List Int}, a.map D.int = b.map D.int → a = b := by
    intro a
    induction a with
    | nil => intro b h; cases b; rfl; simp at h
    | cons x a ih => intro b h; cases b; simp at h; simp only [List.map_cons, List.cons.injEq, D.int.injEq] at h; rw [h.1, ih h.2]
  have go : ∀ {M N : List (List Int)}, M.map rowD = N.map rowD → M = N := by
    intro M
    induction M with
    | nil => intro N h; cases N; rfl; simp at h
    | cons x M ih =>
      intro N h
      cases N
      · simp at h
      · simp only [List.map_cons, List.cons.injEq, rowD, D.tup.injEq] at h
        rw [rows h.1, ih h.2]
  intro M N h
  unfold scrD at h
  exact go (D.tup.inj h)
theorem isScr_sq {v : D} (h : IsScr v) : sqD' v = true := by
  obtain ⟨n, M, rfl, S⟩ := h
  have h1 := S.n1
  have h2 := S.n18
  have h3 := S.len
  simp only [scrD, sqD', List.length_map, Bool.and_eq_true, decide_eq_true_eq, List.all_eq_true]
  refine ⟨⟨by omega, by omega⟩, fun r hr => ?_⟩
  obtain ⟨q, hq, rfl⟩ := List.mem_map.mp hr
  simp only [rowD, rowOk, List.length_map, Bool.and_eq_true, decide_eq_true_eq, List.all_eq_true]
  refine ⟨by rw [S.rows q hq]; exact h3.symm, fun e he => ?_⟩
  obtain ⟨i, _, rfl⟩ := List.mem_map.mp he
  rfl
theorem fine_ent {m : Nat} {M : List (List Int)} (hl : M.length = m) (hr : ∀ r ∈ M, r.length = m) (h : fine (scrD M) = true) {i j : Nat} (hi : i < m) (hj : j < m) : (ent M i j).natAbs < 2 ^ 2000 := by
  simp only [scrD, fine, Bool.and_eq_true] at h
  have hi' : i < M.length := by omega
  have e : rowA M i = M[i] := by unfold rowA; rw [List.getD_eq_getElem?_getD, List.getElem?_eq_getElem hi']; rfl
  have f1 := fine_mem h.1 (List.mem_map.mpr ⟨M[i], List.getElem_mem hi', rfl⟩)
  simp only [rowD, fine, Bool.and_eq_true] at f1
  have hj' : j < (M[i]).length := by rw [hr _ (List.getElem_mem hi')]; exact hj
  have f2 := fine_mem f1.1 (List.mem_map.mpr ⟨(M[i])[j], List.getElem_mem hj', rfl⟩)
  have e2 : ent M i j = (M[i])[j] := by
    unfold ent
    rw [show M.getD i [] = M[i] from e, List.getD_eq_getElem?_getD, List.getElem?_eq_getElem hj']
    rfl
  rw [e2]
  simp only [fine, decide_eq_true_eq] at f2
  by_cases h0 : ((M[i])[j]).natAbs = 0
  · rw [h0]; exact Nat.pow_pos (by decide)
  · exact Nat.lt_of_lt_of_le ((Nat.log2_lt h0).mp f2) (Nat.pow_le_pow_right (by decide) (by decide))
theorem isScreen_run {n : Nat} (hn : 3 ≤ n) {v : D} (hv : fine v = true) (hf : flat2 v) : runD (tbOf defs) pr n 8 [shr v] = .ok (.bl (decide (IsScr v))) [] := by
  obtain ⟨k, rfl⟩ : ∃ k, n = k + 1 := ⟨n - 1, by omega⟩
  rw [F8.run rfl]
  have sq := square_run (n := k) (by omega) hv hf
  cases hs : sqD' v with
  | false =>
    rw [hs] at sq
    rw [decide_eq_false fun h => by rw [isScr_sq h] at hs; cases hs]
    simp [fillA, ioA, goneA, lentA, okA, putAll, wipeE, shrAll, ioOut, isPk, pk, isiD, own, owns, shr, shrs, noL, noLs, pln, plns, noIo, tgSlots, callI, lenOk_eq, f8F, sq]
  | true =>
    rw [hs] at sq
    cases v with
    | tup rs =>
      simp only [sqD', Bool.and_eq_true, decide_eq_true_eq] at hs
      obtain ⟨⟨h1, h2⟩, h3⟩ := hs
      obtain ⟨M, rfl, hM⟩ := rows_of _ rs h3
      have hl : M.length = M.length := rfl
      rw [List.length_map] at h1 h2 hM
      have sv : (D.tup (M.map rowD)) = scrD M := rfl
      rw [sv] at sq hv ⊢
      rw [shr_scr] at sq ⊢
      have iff : IsScr (scrD M) ↔ ((List.range M.length).all (brow M.length M) = true ∧ prodD M M.length ≤ MOST') := by
        rw [← scr_iff rfl hM h1 h2]
        constructor
        · rintro ⟨m, N, e, S⟩
          have := scrD_inj e
          subst this
          have := S.len
          subst this
          exact S
        · exact fun S => ⟨_, M, rfl, S⟩
      generalize hm : M.length = m at *
      have lc := lcL_map (turn := turnL (.nm 1) (fun s => .ok true s) (evX (runD (tbOf defs) pr k) f8_x1).val) (ws := [1]) (s := [some (scrD M), none]) (fun d => .bl (match d with
        | .int i => brow m M i.toNat
        | _ => false)) (rngD 0 1 m) [] (fun d hd => by
        obtain ⟨i, rfl, hi⟩ := rngD_nat m d hd
        have e := brow_run (n := k) (by omega) (m := m) (by omega) hm hM hi
        refine ⟨[some (scrD M), some (.int (i : Int))], ?_, rfl⟩
        simp only [Int.toNat_natCast]
        have ns : noL (scrD M) = true := noL_scr M
        have ss := shr_scr M
        simp [fillA, ioA, goneA, lentA, okA, putAll, wipeE, shrAll, ioOut, isPk, pk, isiD, own, owns, shr, shrs, noL, noLs, pln, plns, noIo, tgSlots, callI, lenOk_eq, turnL, f8_x1, ss, e]) (by rw [lenOk_eq, rngD_len, decide_eq_true_eq]; simp only [List.length_nil]; omega)
      rw [List.nil_append] at lc
      have t := ttru_map (fun d => match d with
        | .int i => brow m M i.toNat
        | _ => false) (rngD 0 1 m)
      have t2 : (((rngD 0 1 m).map fun d => match d with
        | .int i => brow m M i.toNat
        | _ => false)).all id = (List.range m).all (brow m M) := by
        unfold rngD
        rw [List.map_map, List.all_map]
        exact congrArg (fun f => (List.range m).all f) (funext fun i => by simp)
      have lm : (M.map rowD).length = m := by rw [List.length_map]; exact hm
      have r1 : rngL [.int (m : Int)] = some (rngD 0 1 m) := rngL_nat (by omega)
      have ln : (evX (runD (tbOf defs) pr k) (.bi .len (.cons (.v 0 false) .nil))).val [some (scrD M), none] = .ok (.int (m : Int)) [some (scrD M), none] := by
        unfold scrD
        simp [fillA, ioA, goneA, lentA, okA, putAll, wipeE, shrAll, ioOut, isPk, pk, isiD, own, owns, shr, shrs, noL, noLs, pln, plns, noIo, tgSlots, callI, lenOk_eq, hm]
      have ss := shr_scr M
      cases hrow : (List.range m).all (brow m M) with
      | false =>
        rw [hrow] at t2
        rw [decide_eq_false fun h => by rw [(iff.mp h).1] at hrow; cases hrow]
        simp [fillA, ioA, goneA, lentA, okA, putAll, wipeE, shrAll, ioOut, isPk, pk, isiD, own, owns, shr, shrs, noL, noLs, pln, plns, noIo, tgSlots, callI, lenOk_eq, f8F, ss, sq, ln, r1, giveR, lc, t, t2]
      | true =>
        rw [hrow] at t2
        have hd : ∀ i, i < m → 1 ≤ ent M i i := fun i hi => (brow_iff.mp (List.all_eq_true.mp hrow i (List.mem_range.mpr hi))).1
        have b := bounded_run (n := k) (by omega) (m := m) (by omega) hm hM hd fun i hi => fine_ent hm hM hv hi hi
        have : decide (IsScr (scrD M)) = decide (prodD M m ≤ MOST') := by
          rw [decide_eq_decide, iff]
          exact ⟨fun h => h.2, fun h => ⟨hrow, h⟩⟩
        rw [this]
        simp [fillA, ioA, goneA, lentA, okA, putAll, wipeE, shrAll, ioOut, isPk, pk, isiD, own, owns, shr, shrs, noL, noLs, pln, plns, noIo, tgSlots, callI, lenOk_eq, f8F, ss, sq, ln, r1, giveR, lc, t, t2, b]
    | _ => simp [sqD'] at hs
theorem chkScreen_run {n : Nat} (hn : 4 ≤ n) {v : D} (hv : fine v = true) (hf : flat2 v) : runD (tbOf defs) pr n 10 [shr v] = if IsScr v then .ok .non [] else .exc "BadScreen" [] := by
  obtain ⟨k, rfl⟩ : ∃ k, n = k + 1 := ⟨n - 1, by omega⟩
  rw [F10.run rfl]
  have e := isScreen_run (n := k) (by omega) hv hf
  by_cases h : IsScr v
  · rw [decide_eq_true h] at e; rw [if_pos h]; simp [fillA, ioA, goneA, lentA, okA, putAll, wipeE, shrAll, ioOut, isPk, pk, isiD, own, owns, shr, shrs, noL, noLs, pln, plns, noIo, tgSlots, callI, lenOk_eq, f10F, e]
  · rw [decide_eq_false h] at e; rw [if_neg h]; simp [fillA, ioA, goneA, lentA, okA, putAll, wipeE, shrAll, ioOut, isPk, pk, isiD, own, owns, shr, shrs, noL, noLs, pln, plns, noIo, tgSlots, callI, lenOk_eq, f10F, e]

end MP
set_option linter.all false
set_option maxRecDepth 100000
set_option maxHeartbeats 1000000
namespace MP
open PySem PySem.Spec PyProof.Rows L2
--import K01L3
/-! vectors -/
def vecD (n : Nat) (f : Nat → Int) : List D := (List.range n).map fun t => .int (f t)
theorem vecD_len (n : Nat) (f : Nat → Int) : (vecD n f).length = n := by simp [vecD]
theorem vecD_congr {n : Nat} {f g : Nat → Int} (h : ∀ t, t < n → f t = g t) : vecD n f = vecD n g := List.map_congr_left fun t ht => by rw [h t (List.mem_range.mp ht)]
theorem vecD_shr (n : Nat) (f : Nat → Int) : shrs (vecD n f) = vecD n f := by
  unfold vecD
  rw [shrs_map, List.map_map]
  rfl
theorem noLs_ints : ∀ l : List Nat, ∀ f : Nat → Int, noLs (l.map fun t => D.int (f t)) = true
  | [], _ => rfl
  | t :: l, f => by simp only [List.map_cons, noLs, noL, noLs_ints l f, Bool.and_self]
theorem owns_vec : ∀ l : List Nat, ∀ f : Nat → Int, owns (l.map fun t => D.int (f t)) = true
  | [], _ => rfl
  | t :: l, f => by simp only [List.map_cons, owns, own, owns_vec l f, Bool.and_self]
theorem vecD_noL (n : Nat) (f : Nat → Int) : noLs (vecD n f) = true := noLs_ints _ f
theorem vecD_own (n : Nat) (f : Nat → Int) : owns (vecD n f) = true := owns_vec _ f
theorem vecD_at {n : Nat} {f : Nat → Int} {i : Nat} (h : i < n) : atI (vecD n f) (i : Int) = some (.int (f i)) := by
  unfold vecD
  rw [atI_mapD (fun t : Nat => D.int (f t)) (List.range n) 0 (by rw [List.length_range]; exact h)]
  rw [List.getD_eq_getElem?_getD, List.getElem?_range h]
  rfl
theorem list_vec (xs : List Int) : xs.map D.int = vecD xs.length fun t => xs.getD t 0 := by
  unfold vecD
  apply List.ext_getElem?
  intro i
  rw [List.getElem?_map, List.getElem?_map]
  by_cases h : i < xs.length
  · rw [List.getElem?_range h, List.getElem?_eq_getElem h]
    simp [List.getD_eq_getElem?_getD, List.getElem?_eq_getElem h]
  · rw [List.getElem?_eq_none (by omega), List.getElem?_eq_none (by rw [List.length_range]; omega)]
    rfl
theorem row_vec {n : Nat} {M : List (List Int)} (S : Scr n M) {i : Nat} (h : i < n) : (rowA M i).map D.int = vecD n (ent M i) := by
  have l := getD_row S.rows (i := i) (by rw [S.len]; exact h)
  rw [list_vec, l]
  rfl
theorem scr_row {n : Nat} {M : List (List Int)} (S : Scr n M) {i : Nat} (h : i < n) : atI (M.map rowD) (i : Int) = some (.tup (vecD n (ent M i))) := by
  rw [atI_row (by rw [S.len]; exact h), row_vec S h]
def subD (t : Int) : D → D
  | .tup [.int a, .int b] => .int (a - t * b)
  | _ => .non
theorem zip_vec (n : Nat) (f g : Nat → Int) : List.zipWith (fun p q => D.tup [shr p, shr q]) (vecD n f) (vecD n g) = (List.range n).map fun t => .tup [.int (f t), .int (g t)] := by
  unfold vecD
  rw [List.zipWith_map, List.zipWith_self]
  rfl
theorem res_zero {M : List (List Int)} {x v : Nat → Int} : res M x v 0 = x := funext fun t => by show x t - 0 = _; omega
section
variable {n : Nat} {M : List (List Int)} {x v c : Nat → Int} (S : Scr n M) (Dc : Dec n M x v c) (hx : ∀ t, t < n → (x t).natAbs ≤ 10 ^ 60)
include S Dc hx
theorem v_small {j : Nat} (hj : j < n) : (v j).natAbs < 2 ^ 230 := by
  have h := (Dc.bound S hx n (Nat.le_refl _)).1 j hj
  have h2 : 2 ^ j ≤ 2 ^ 18 := Nat.pow_le_pow_right (by decide) (by have := S.n18; omega)
  have h3 : 2 ^ j * (10 ^ 60 + 1) ≤ 2 ^ 18 * (10 ^ 60 + 1) := Nat.mul_le_mul_right _ h2
  have h4 : (2 ^ 18 * (10 ^ 60 + 1) : Nat) < 2 ^ 230 := by decide
  omega
omit Dc hx in
theorem e_small {i j : Nat} (hi : i < n) (hj : j < n) : (ent M i j).natAbs < 2 ^ 210 := by
  have := ent_b S hi hj
  unfold MOST' at this
  omega
/-- the sum of a row taken off -/
theorem less_lc {k : Nat} {j : Nat} (hj : j < n) (pre : Env) (p : List Nat) (hp : p = [6, 7]) {X1 : X} (hX : X1 = f11_x1 ∨ X1 = f13_x1) {e0 e1 e2 e3 e4 : Option D} :
    lcL (turnL (.tp [6, 7]) (fun s => .ok true s) (evX (runD (tbOf defs) pr k) X1).val) [6, 7] ((List.range n).map fun t => .tup [.int (res M x v j t), .int (ent M j t)]) [] [e0, e1, e2, e3, e4, some (.int (v j)), none, none] = .ok (.lst true (vecD n (res M x v (j + 1)))) [e0, e1, e2, e3, e4, some (.int (v j)), none, none] := by
  have lc := lcL_map (turn := turnL (.tp [6, 7]) (fun s => .ok true s) (evX (runD (tbOf defs) pr k) X1).val) (ws := [6, 7]) (s := [e0, e1, e2, e3, e4, some (.int (v j)), none, none]) (subD (v j)) ((List.range n).map fun t => .tup [.int (res M x v j t), .int (ent M j t)]) [] (fun d hd => by
    obtain ⟨t, ht, rfl⟩ := List.mem_map.mp hd
    have ht := List.mem_range.mp ht
    have mk : mulOk (v j) (ent M j t) = true := mulOk_of 230 210 (v_small S Dc hx hj) (e_small S hj ht)
    refine ⟨[e0, e1, e2, e3, e4, some (.int (v j)), some (.int (res M x v j t)), some (.int (ent M j t))], ?_, rfl⟩
    rcases hX with rfl | rfl <;> simp [fillA, ioA, goneA, lentA, okA, putAll, wipeE, shrAll, ioOut, isPk, pk, isiD, own, owns, shr, shrs, noL, noLs, pln, plns, noIo, tgSlots, callI, lenOk_eq, turnL, tgE, f11_x1, f13_x1, mk, subD]) (by rw [lenOk_eq, List.length_map, List.length_range, decide_eq_true_eq]; have := S.n18; simp only [List.length_nil]; omega)
  rw [lc, List.nil_append, List.map_map]
  congr 2
  unfold vecD
  refine List.map_congr_left fun t ht => ?_
  show D.int (res M x v j t - v j * ent M j t) = _
  rw [res_succ]
theorem less_run {m : Nat} (hm : 1 ≤ m) : runD (tbOf defs) pr m 11 [scrD M, .tup (vecD n x), .int 0] = .ok (.tup (vecD n c)) [] := by
  obtain ⟨k, rfl⟩ : ∃ k, m = k + 1 := ⟨m - 1, by omega⟩
  rw [F11.run rfl]
  have l : ∃ rr, forL (.nm 4) (evSs (runD (tbOf defs) pr k) f11_b2 []) (rngD 0 1 n) [some (scrD M), some (.tup (vecD n x)), some (.int 0), some (.lst true (vecD n x)), none, none, none, none] = rr ∧ ∃ o b o4 o5, rr = .nx [some (scrD M), o, some (.int 0), some (.lst b (vecD n (res M x v n))), o4, o5, none, none] := by
    refine forL_rng (fun j s => ∃ o b o4 o5, s = [some (scrD M), o, some (.int 0), some (.lst b (vecD n (res M x v j))), o4, o5, none, none]) (fun rr => ∃ r', rr = r' ∧ ∃ o b o4 o5, r' = .nx [some (scrD M), o, some (.int 0), some (.lst b (vecD n (res M x v n))), o4, o5, none, none]) ?_ ?_ _ ⟨some (.tup (vecD n x)), true, none, none, by rw [res_zero]⟩
    · rintro s ⟨o, b, o4, o5, rfl⟩
      exact ⟨_, rfl, _, _, _, _, rfl⟩
    · rintro j s hj ⟨o, b, o4, o5, rfl⟩
      have e1 : (0 : Int) + (j : Int) * 1 = (j : Int) := by omega
      have a := vecD_at (f := res M x v j) hj
      have r := scr_row S hj
      have d := vecD_at (f := ent M j) hj
      have dv : divOk (ent M j j) = true := divOk_of 210 (by have := S.diag j hj; omega) (e_small S hj hj)
      have q := Dc.div S hj
      have lc := less_lc S Dc hx (k := k) hj [] [6, 7] rfl (X1 := f11_x1) (.inl rfl) (e0 := some (scrD M)) (e1 := o) (e2 := some (.int 0)) (e3 := some (.lst false (vecD n (res M x v j)))) (e4 := some (.int (j : Int)))
      by_cases h0 : v j = 0
      · refine ⟨_, .nx [some (scrD M), o, some (.int 0), some (.lst b (vecD n (res M x v (j + 1)))), some (.int (j : Int)), some (.int (v j)), none, none], rfl, ?_, o, b, some (.int (j : Int)), some (.int (v j)), rfl⟩
        have same : vecD n (res M x v (j + 1)) = vecD n (res M x v j) := vecD_congr fun t ht => by rw [res_succ, h0, Int.zero_mul, Int.sub_zero]
        rw [e1, same]
        simp only [scrD]
        simp [fillA, ioA, goneA, lentA, okA, putAll, wipeE, shrAll, ioOut, isPk, pk, isiD, own, owns, shr, shrs, noL, noLs, pln, plns, noIo, tgSlots, callI, lenOk_eq, f11_b2, a, r, d, dv, q, h0, cmpD_neI]
      · refine ⟨_, .nx [some (scrD M), o, some (.int 0), some (.lst true (vecD n (res M x v (j + 1)))), some (.int (j : Int)), some (.int (v j)), none, none], rfl, ?_, o, true, some (.int (j : Int)), some (.int (v j)), rfl⟩
        rw [e1]
        have zz := zip_vec n (res M x v j) (ent M j)
        have sv := vecD_shr n (res M x v j)
        have nr := vecD_noL n (ent M j)
        simp only [scrD] at lc ⊢
        simp [fillA, ioA, goneA, lentA, okA, putAll, wipeE, shrAll, ioOut, isPk, pk, isiD, own, owns, shr, shrs, noL, noLs, pln, plns, noIo, tgSlots, callI, lenOk_eq, f11_b2, a, r, d, dv, q, h0, cmpD_neI, sv, nr, zz, giveR, lc]
  obtain ⟨rr, e, o, b, o4, o5, rfl⟩ := l
  have r1 : rngL [.int 0, .int (n : Int)] = some (rngD 0 1 n) := by
    have := S.n18
    have e : (n : Int) - 0 = (n : Int) := by omega
    rw [rngL_2 (by decide) (by decide) (Int.le_trans (by decide) (show (0 : Int) ≤ (n : Int) by omega)) (Int.lt_of_le_of_lt (show (n : Int) ≤ 18 by omega) (by decide)), e, Int.toNat_natCast]
  have fin : vecD n (res M x v n) = vecD n c := vecD_congr fun t ht => Dc.last ht
  rw [fin] at e
  have nx := vecD_noL n x
  have nc := vecD_noL n c
  have sc := vecD_shr n c
  have lm : (M.map rowD).length = n := by rw [List.length_map]; exact S.len
  have hM := S.len
  simp only [scrD] at e ⊢
  simp [fillA, ioA, goneA, lentA, okA, putAll, wipeE, shrAll, ioOut, isPk, pk, isiD, own, owns, shr, shrs, noL, noLs, pln, plns, noIo, tgSlots, callI, lenOk_eq, f11F, nx, r1, hM, e, nc, sc]
omit S Dc in
/-- the cell's place in its bounds -/
theorem cell_vec : tw n (-MOST') (.tup (vecD n x)) = true := by
  simp only [tw, vecD_len, decide_true, Bool.true_and, List.all_eq_true]
  intro d hd
  unfold vecD at hd
  obtain ⟨t, ht, rfl⟩ := List.mem_map.mp hd
  have := hx t (List.mem_range.mp ht)
  simp only [within, Bool.and_eq_true, decide_eq_true_eq]
  unfold MOST'
  omega
omit Dc in
theorem fine_vec : fine (.tup (vecD n x)) = true := by
  have g : ∀ l : List Nat, (∀ t ∈ l, t < n) → fines (l.map fun t => D.int (x t)) = true := by
    intro l
    induction l with
    | nil => exact fun _ => rfl
    | cons t l ih =>
      intro h
      have f := fine_int (i := x t) (by have := hx t (h t (.head _)); omega)
      simp only [List.map_cons, fines, ih fun y hy => h y (.tail _ hy), f, Bool.and_self]
  have := g (List.range n) fun t ht => List.mem_range.mp ht
  have h18 := S.n18
  simp only [fine, vecD_len, lenOk_eq, Bool.and_eq_true, decide_eq_true_eq]
  exact ⟨this, by omega⟩
omit Dc hx in
theorem fine_scr : fine (scrD M) = true ∧ flat2 (scrD M) := by
  have row : ∀ r ∈ M, fine (rowD r) = true := by
    intro r hr
    obtain ⟨i, hi, rfl⟩ := List.getElem_of_mem hr
    have hi' : i < n := by rw [← S.len]; exact hi
    have e : rowD M[i] = .tup (vecD n (ent M i)) := by
      rw [← row_vec S hi']
      unfold rowD rowA
      rw [List.getD_eq_getElem?_getD, List.getElem?_eq_getElem hi]
      rfl
    rw [e]
    exact fine_vec S (x := ent M i) fun t ht => by
      have := ent_b S hi' ht
      unfold MOST' at this
      omega
  have all : ∀ N : List (List Int), (∀ r ∈ N, fine (rowD r) = true) → fines (N.map rowD) = true := by
    intro N
    induction N with
    | nil => exact fun _ => rfl
    | cons r N ih => exact fun h => by simp only [List.map_cons, fines, h r (.head _), ih fun q hq => h q (.tail _ hq), Bool.and_self]
  have h18 := S.n18
  have hl := S.len
  refine ⟨?_, fun r hr es he => ?_⟩
  · simp only [scrD, fine, all M row, List.length_map, lenOk_eq, Bool.true_and, decide_eq_true_eq]
    omega
  · obtain ⟨q, _, rfl⟩ := List.mem_map.mp hr
    have := noL_row q
    rw [he] at this
    simpa only [noL] using this
theorem reduced_run {m : Nat} (hm : 6 ≤ m) : runD (tbOf defs) pr m 12 [scrD M, .tup (vecD n x)] = .ok (.tup (vecD n c)) [] := by
  obtain ⟨k, rfl⟩ : ∃ k, m = k + 1 := ⟨m - 1, by omega⟩
  rw [F12.run rfl]
  obtain ⟨fs, fl⟩ := fine_scr S
  have e1 := chkScreen_run (n := k) (by omega) fs fl
  rw [if_pos ⟨n, M, rfl, S⟩, shr_scr] at e1
  have e2 := chkCell_run (n := k) (by omega) (d := .int (n : Int)) (v := .tup (vecD n x)) (fine_int (by have := S.n18; omega)) (fine_vec S hx)
  have wi : within (.int (n : Int)) 1 18 = true := by
    have := S.n1
    have := S.n18
    simp only [within, Bool.and_eq_true, decide_eq_true_eq]
    omega
  have ic : isCellD (.int (n : Int)) (.tup (vecD n x)) = some true := by
    simp only [isCellD, wi, if_true, Int.toNat_natCast, cell_vec hx]
  rw [ic] at e2
  simp only [shr, vecD_shr] at e2
  have e3 := less_run S Dc hx (m := k) (by omega)
  have nx := vecD_noL n x
  have sx := vecD_shr n x
  have hM := S.len
  have ss := shr_scr M
  have ln : lenD (scrD M) = some (.int (n : Int)) := by
    show some (D.int ((M.map rowD).length : Int)) = _
    rw [List.length_map, hM]
  have oc := vecD_own n c
  simp [fillA, ioA, goneA, lentA, okA, putAll, wipeE, shrAll, ioOut, isPk, pk, isiD, own, owns, shr, shrs, noL, noLs, pln, plns, noIo, tgSlots, callI, lenOk_eq, f12F, ss, e1, ln, e2, e3, sx, oc]
theorem written_run {m : Nat} (hm : 6 ≤ m) : runD (tbOf defs) pr m 13 [scrD M, .tup (vecD n x)] = if (∀ t, t < n → c t = 0) then .ok (.lst true (vecD n v)) [] else .ok .non [] := by
  obtain ⟨k, rfl⟩ : ∃ k, m = k + 1 := ⟨m - 1, by omega⟩
  rw [F13.run rfl]
  obtain ⟨fs, fl⟩ := fine_scr S
  have e1 := chkScreen_run (n := k) (by omega) fs fl
  rw [if_pos ⟨n, M, rfl, S⟩, shr_scr] at e1
  have e2 := chkCell_run (n := k) (by omega) (d := .int (n : Int)) (v := .tup (vecD n x)) (fine_int (by have := S.n18; omega)) (fine_vec S hx)
  have wi : within (.int (n : Int)) 1 18 = true := by
    have := S.n1
    have := S.n18
    simp only [within, Bool.and_eq_true, decide_eq_true_eq]
    omega
  have ic : isCellD (.int (n : Int)) (.tup (vecD n x)) = some true := by
    simp only [isCellD, wi, if_true, Int.toNat_natCast, cell_vec hx]
  rw [ic] at e2
  simp only [shr, vecD_shr] at e2
  have l : ∃ rr, forL (.nm 4) (evSs (runD (tbOf defs) pr k) f13_b2 []) (rngD 0 1 n) [some (scrD M), some (.tup (vecD n x)), some (.lst true (vecD n x)), some (.lst true []), none, none, none, none] = rr ∧ ((∃ a b o4 o5, rr = .nx [some (scrD M), some (.tup (vecD n x)), some (.lst b (vecD n a)), some (.lst true (vecD n v)), o4, o5, none, none] ∧ ∀ t, t < n → c t = 0) ∨ (∃ s, rr = .ret .non s ∧ s ≠ [] ∧ ¬ ∀ t, t < n → c t = 0)) := by
    refine forL_rng (fun j s => ∃ b o4 o5, s = [some (scrD M), some (.tup (vecD n x)), some (.lst b (vecD n (res M x v j))), some (.lst true (vecD j v)), o4, o5, none, none] ∧ ∀ t, t < j → c t = 0) (fun rr => ∃ r', rr = r' ∧ ((∃ a b o4 o5, r' = .nx [some (scrD M), some (.tup (vecD n x)), some (.lst b (vecD n a)), some (.lst true (vecD n v)), o4, o5, none, none] ∧ ∀ t, t < n → c t = 0) ∨ (∃ s, r' = .ret .non s ∧ s ≠ [] ∧ ¬ ∀ t, t < n → c t = 0))) ?_ ?_ _ ⟨true, none, none, by rw [res_zero]; rfl, fun t ht => absurd ht (Nat.not_lt_zero _)⟩
    · rintro s ⟨b, o4, o5, rfl, h⟩
      exact ⟨_, rfl, .inl ⟨_, _, _, _, rfl, h⟩⟩
    · rintro j s hj ⟨b, o4, o5, rfl, h⟩
      have e1 : (0 : Int) + (j : Int) * 1 = (j : Int) := by omega
      have a := vecD_at (f := res M x v j) hj
      have r := scr_row S hj
      have d := vecD_at (f := ent M j) hj
      have dp : 0 < ent M j j := by have := S.diag j hj; omega
      have dv : divOk (ent M j j) = true := divOk_of 210 dp (e_small S hj hj)
      have q := Dc.div S hj
      have md := Dc.mod S hj
      by_cases h0 : c j = 0
      · have lc := less_lc S Dc hx (k := k) hj [] [6, 7] rfl (X1 := f13_x1) (.inr rfl) (e0 := some (scrD M)) (e1 := some (.tup (vecD n x))) (e2 := some (.lst false (vecD n (res M x v j)))) (e3 := some (.lst true (vecD (j + 1) v))) (e4 := some (.int (j : Int)))
        refine ⟨_, .nx [some (scrD M), some (.tup (vecD n x)), some (.lst true (vecD n (res M x v (j + 1)))), some (.lst true (vecD (j + 1) v)), some (.int (j : Int)), some (.int (v j)), none, none], rfl, ?_, true, some (.int (j : Int)), some (.int (v j)), rfl, fun t ht => ?_⟩
        · rw [e1]
          have zz := zip_vec n (res M x v j) (ent M j)
          have sv := vecD_shr n (res M x v j)
          have nr := vecD_noL n (ent M j)
          have lj := vecD_len j v
          have ap : vecD j v ++ [D.int (v j)] = vecD (j + 1) v := by
            unfold vecD
            rw [List.range_succ, List.map_append]
            rfl
          have lj2 : j + 1 ≤ 16777216 := by have := S.n18; omega
          have lj3 : j ≤ 16777215 := by omega
          simp only [scrD] at lc ⊢
          simp [fillA, ioA, goneA, lentA, okA, putAll, wipeE, shrAll, ioOut, isPk, pk, isiD, own, owns, shr, shrs, noL, noLs, pln, plns, noIo, tgSlots, callI, lenOk_eq, f13_b2, a, r, d, dp, dv, q, md, h0, cmpD_neI, sv, nr, zz, lj, lj2, lj3, ap, giveR, lc]
        · by_cases e : t = j
          · rw [e]; exact h0
          · exact h t (by omega)
      · refine ⟨_, .ret .non [some (scrD M), some (.tup (vecD n x)), some (.lst b (vecD n (res M x v j))), some (.lst true (vecD j v)), some (.int (j : Int)), o5, none, none], rfl, ?_, _, rfl, .inr ⟨_, rfl, by simp, fun h => h0 (h j hj)⟩⟩
        rw [e1]
        simp only [scrD]
        simp [fillA, ioA, goneA, lentA, okA, putAll, wipeE, shrAll, ioOut, isPk, pk, isiD, own, owns, shr, shrs, noL, noLs, pln, plns, noIo, tgSlots, callI, lenOk_eq, f13_b2, a, r, d, dp, md, h0, cmpD_neI]
  obtain ⟨rr, e, h⟩ := l
  have nx := vecD_noL n x
  have sx := vecD_shr n x
  have hM := S.len
  have ss := shr_scr M
  have ln : lenD (scrD M) = some (.int (n : Int)) := by
    show some (D.int ((M.map rowD).length : Int)) = _
    rw [List.length_map, hM]
  have ov := vecD_own n v
  have r1 : rngL [.int (n : Int)] = some (rngD 0 1 n) := rngL_nat (by have := S.n18; omega)
  rcases h with ⟨a, b, o4, o5, rfl, h⟩ | ⟨s, rfl, hne, h⟩
  · rw [if_pos h]
    simp [fillA, ioA, goneA, lentA, okA, putAll, wipeE, shrAll, ioOut, isPk, pk, isiD, own, owns, shr, shrs, noL, noLs, pln, plns, noIo, tgSlots, callI, lenOk_eq, f13F, ss, e1, ln, e2, sx, nx, r1, e]
  · rw [if_neg h]
    cases s with
    | nil => exact absurd rfl hne
    | cons o s => simp [fillA, ioA, goneA, lentA, okA, putAll, wipeE, shrAll, ioOut, isPk, pk, isiD, own, owns, shr, shrs, noL, noLs, pln, plns, noIo, tgSlots, callI, lenOk_eq, f13F, ss, e1, ln, e2, sx, nx, r1, e]
end

end MP
set_option linter.all false
set_option maxRecDepth 100000
set_option maxHeartbeats 1000000
namespace MP
open PySem PySem.Spec PyProof.Rows L2
--import K01L4
/-! the calls -/
theorem sRR : cmpD .eq (.str "reduced") (.str "reduced") = some true := by decide +kernel
theorem sWR : cmpD .eq (.str "written") (.str "reduced") = some false := by decide +kernel
theorem sWW : cmpD .eq (.str "written") (.str "written") = some true := by decide +kernel
theorem sIR : cmpD .eq (.str "is_screen") (.str "reduced") = some false := by decide +kernel
theorem sIW : cmpD .eq (.str "is_screen") (.str "written") = some false := by decide +kernel
theorem sII : cmpD .eq (.str "is_screen") (.str "is_screen") = some true := by decide +kernel
theorem sKR : cmpD .eq (.str "check_screen") (.str "reduced") = some false := by decide +kernel
theorem sKW : cmpD .eq (.str "check_screen") (.str "written") = some false := by decide +kernel
theorem sKI : cmpD .eq (.str "check_screen") (.str "is_screen") = some false := by decide +kernel
theorem sKK : cmpD .eq (.str "check_screen") (.str "check_screen") = some true := by decide +kernel
theorem sCR : cmpD .eq (.str "is_cell") (.str "reduced") = some false := by decide +kernel
theorem sCW : cmpD .eq (.str "is_cell") (.str "written") = some false := by decide +kernel
theorem sCI : cmpD .eq (.str "is_cell") (.str "is_screen") = some false := by decide +kernel
theorem sCK : cmpD .eq (.str "is_cell") (.str "check_screen") = some false := by decide +kernel
theorem sCC : cmpD .eq (.str "is_cell") (.str "is_cell") = some true := by decide +kernel
theorem sDR : cmpD .eq (.str "check_cell") (.str "reduced") = some false := by decide +kernel
theorem sDW : cmpD .eq (.str "check_cell") (.str "written") = some false := by decide +kernel
theorem sDI : cmpD .eq (.str "check_cell") (.str "is_screen") = some false := by decide +kernel
theorem sDK : cmpD .eq (.str "check_cell") (.str "check_screen") = some false := by decide +kernel
theorem sDC : cmpD .eq (.str "check_cell") (.str "is_cell") = some false := by decide +kernel
/-- what a call comes to, where the callee changes nothing -/
def Flat : CR → Prop
  | .ok _ os => os = []
  | .exc _ os => os = []
  | .stk => False
theorem call_red {k : Nat} {a b : D} (h : Flat (runD (tbOf defs) pr k 12 [shr a, shr b])) : runD (tbOf defs) pr (k + 1) 37 [.str "reduced", .lst false [shr a, shr b]] = runD (tbOf defs) pr k 12 [shr a, shr b] := by
  rw [F37.run rfl]
  generalize hr : runD (tbOf defs) pr k 12 [shr a, shr b] = r at h ⊢
  cases r with
  | ok d os => cases h; by_cases hn : noL (shr a) = true <;> by_cases hn2 : noL (shr b) = true <;> simp [fillA, ioA, goneA, lentA, okA, putAll, wipeE, shrAll, ioOut, isPk, pk, isiD, own, owns, shr, shrs, noL, noLs, pln, plns, noIo, tgSlots, callI, lenOk_eq, f37F, hn, hn2, sRR, hr]
  | exc c os => cases h; by_cases hn : noL (shr a) = true <;> by_cases hn2 : noL (shr b) = true <;> simp [fillA, ioA, goneA, lentA, okA, putAll, wipeE, shrAll, ioOut, isPk, pk, isiD, own, owns, shr, shrs, noL, noLs, pln, plns, noIo, tgSlots, callI, lenOk_eq, f37F, hn, hn2, sRR, hr]
  | stk => exact h.elim
theorem call_wri {k : Nat} {a b : D} (h : Flat (runD (tbOf defs) pr k 13 [shr a, shr b])) : runD (tbOf defs) pr (k + 1) 37 [.str "written", .lst false [shr a, shr b]] = runD (tbOf defs) pr k 13 [shr a, shr b] := by
  rw [F37.run rfl]
  generalize hr : runD (tbOf defs) pr k 13 [shr a, shr b] = r at h ⊢
  cases r with
  | ok d os => cases h; by_cases hn : noL (shr a) = true <;> by_cases hn2 : noL (shr b) = true <;> simp [fillA, ioA, goneA, lentA, okA, putAll, wipeE, shrAll, ioOut, isPk, pk, isiD, own, owns, shr, shrs, noL, noLs, pln, plns, noIo, tgSlots, callI, lenOk_eq, f37F, hn, hn2, sWR, sWW, hr]
  | exc c os => cases h; by_cases hn : noL (shr a) = true <;> by_cases hn2 : noL (shr b) = true <;> simp [fillA, ioA, goneA, lentA, okA, putAll, wipeE, shrAll, ioOut, isPk, pk, isiD, own, owns, shr, shrs, noL, noLs, pln, plns, noIo, tgSlots, callI, lenOk_eq, f37F, hn, hn2, sWR, sWW, hr]
  | stk => exact h.elim
theorem call_iss {k : Nat} {a : D} (h : Flat (runD (tbOf defs) pr k 8 [shr a])) : runD (tbOf defs) pr (k + 1) 37 [.str "is_screen", .lst false [shr a]] = runD (tbOf defs) pr k 8 [shr a] := by
  rw [F37.run rfl]
  generalize hr : runD (tbOf defs) pr k 8 [shr a] = r at h ⊢
  cases r with
  | ok d os => cases h; by_cases hn : noL (shr a) = true <;> simp [fillA, ioA, goneA, lentA, okA, putAll, wipeE, shrAll, ioOut, isPk, pk, isiD, own, owns, shr, shrs, noL, noLs, pln, plns, noIo, tgSlots, callI, lenOk_eq, f37F, hn, sIR, sIW, sII, hr]
  | exc c os => cases h; by_cases hn : noL (shr a) = true <;> simp [fillA, ioA, goneA, lentA, okA, putAll, wipeE, shrAll, ioOut, isPk, pk, isiD, own, owns, shr, shrs, noL, noLs, pln, plns, noIo, tgSlots, callI, lenOk_eq, f37F, hn, sIR, sIW, sII, hr]
  | stk => exact h.elim
theorem call_chs {k : Nat} {a : D} (h : Flat (runD (tbOf defs) pr k 10 [shr a])) : runD (tbOf defs) pr (k + 1) 37 [.str "check_screen", .lst false [shr a]] = runD (tbOf defs) pr k 10 [shr a] := by
  rw [F37.run rfl]
  generalize hr : runD (tbOf defs) pr k 10 [shr a] = r at h ⊢
  cases r with
  | ok d os => cases h; by_cases hn : noL (shr a) = true <;> simp [fillA, ioA, goneA, lentA, okA, putAll, wipeE, shrAll, ioOut, isPk, pk, isiD, own, owns, shr, shrs, noL, noLs, pln, plns, noIo, tgSlots, callI, lenOk_eq, f37F, hn, sKR, sKW, sKI, sKK, hr]
  | exc c os => cases h; by_cases hn : noL (shr a) = true <;> simp [fillA, ioA, goneA, lentA, okA, putAll, wipeE, shrAll, ioOut, isPk, pk, isiD, own, owns, shr, shrs, noL, noLs, pln, plns, noIo, tgSlots, callI, lenOk_eq, f37F, hn, sKR, sKW, sKI, sKK, hr]
  | stk => exact h.elim
theorem call_isc {k : Nat} {a b : D} (h : Flat (runD (tbOf defs) pr k 4 [shr a, shr b])) : runD (tbOf defs) pr (k + 1) 37 [.str "is_cell", .lst false [shr a, shr b]] = runD (tbOf defs) pr k 4 [shr a, shr b] := by
  rw [F37.run rfl]
  generalize hr : runD (tbOf defs) pr k 4 [shr a, shr b] = r at h ⊢
  cases r with
  | ok d os => cases h; by_cases hn : noL (shr a) = true <;> by_cases hn2 : noL (shr b) = true <;> simp [fillA, ioA, goneA, lentA, okA, putAll, wipeE, shrAll, ioOut, isPk, pk, isiD, own, owns, shr, shrs, noL, noLs, pln, plns, noIo, tgSlots, callI, lenOk_eq, f37F, hn, hn2, sCR, sCW, sCI, sCK, sCC, hr]
  | exc c os => cases h; by_cases hn : noL (shr a) = true <;> by_cases hn2 : noL (shr b) = true <;> simp [fillA, ioA, goneA, lentA, okA, putAll, wipeE, shrAll, ioOut, isPk, pk, isiD, own, owns, shr, shrs, noL, noLs, pln, plns, noIo, tgSlots, callI, lenOk_eq, f37F, hn, hn2, sCR, sCW, sCI, sCK, sCC, hr]
  | stk => exact h.elim
theorem call_chc {k : Nat} {a b : D} (h : Flat (runD (tbOf defs) pr k 9 [shr a, shr b])) : runD (tbOf defs) pr (k + 1) 37 [.str "check_cell", .lst false [shr a, shr b]] = runD (tbOf defs) pr k 9 [shr a, shr b] := by
  rw [F37.run rfl]
  generalize hr : runD (tbOf defs) pr k 9 [shr a, shr b] = r at h ⊢
  cases r with
  | ok d os => cases h; by_cases hn : noL (shr a) = true <;> by_cases hn2 : noL (shr b) = true <;> simp [fillA, ioA, goneA, lentA, okA, putAll, wipeE, shrAll, ioOut, isPk, pk, isiD, own, owns, shr, shrs, noL, noLs, pln, plns, noIo, tgSlots, callI, lenOk_eq, f37F, hn, hn2, sDR, sDW, sDI, sDK, sDC, hr]
  | exc c os => cases h; by_cases hn : noL (shr a) = true <;> by_cases hn2 : noL (shr b) = true <;> simp [fillA, ioA, goneA, lentA, okA, putAll, wipeE, shrAll, ioOut, isPk, pk, isiD, own, owns, shr, shrs, noL, noLs, pln, plns, noIo, tgSlots, callI, lenOk_eq, f37F, hn, hn2, sDR, sDW, sDI, sDK, sDC, hr]
  | stk => exact h.elim
/-! no screen, no cell -/
theorem bad_screen {what : PySem.Str} {m : Nat} (hm : 7 ≤ m) (hw : what = "reduced" ∨ what = "written") {v x : D} (hv : fine v = true) (hf : flat2 v) (hb : ¬ IsScr v) : runD (tbOf defs) pr m 37 [.str what, .lst false [shr v, shr x]] = .exc "BadScreen" [] := by
  obtain ⟨k, rfl⟩ : ∃ k, m = k + 2 := ⟨m - 2, by omega⟩
  have e := chkScreen_run (n := k) (by omega) hv hf
  rw [if_neg hb] at e
  have r12 : runD (tbOf defs) pr (k + 1) 12 [shr v, shr x] = .exc "BadScreen" [] := by
    rw [F12.run rfl]
    simp [fillA, ioA, goneA, lentA, okA, putAll, wipeE, shrAll, ioOut, isPk, pk, isiD, own, owns, shr, shrs, noL, noLs, pln, plns, noIo, tgSlots, callI, lenOk_eq, f12F, e]
  have r13 : runD (tbOf defs) pr (k + 1) 13 [shr v, shr x] = .exc "BadScreen" [] := by
    rw [F13.run rfl]
    simp [fillA, ioA, goneA, lentA, okA, putAll, wipeE, shrAll, ioOut, isPk, pk, isiD, own, owns, shr, shrs, noL, noLs, pln, plns, noIo, tgSlots, callI, lenOk_eq, f13F, e]
  rcases hw with rfl | rfl
  · rw [call_red (by rw [r12]; rfl), r12]
  · rw [call_wri (by rw [r13]; rfl), r13]
theorem bad_cell {what : PySem.Str} {m : Nat} (hm : 8 ≤ m) (hw : what = "reduced" ∨ what = "written") {n : Nat} {M : List (List Int)} (S : Scr n M) {x : D} (hx : fine x = true) (hb : tw n (-MOST') x = false) : runD (tbOf defs) pr m 37 [.str what, .lst false [scrD M, shr x]] = .exc "BadCell" [] := by
  obtain ⟨k, rfl⟩ : ∃ k, m = k + 2 := ⟨m - 2, by omega⟩
  obtain ⟨fs, fl⟩ := fine_scr S
  have ss := shr_scr M
  have e1 := chkScreen_run (n := k) (by omega) fs fl
  rw [if_pos ⟨n, M, rfl, S⟩, ss] at e1
  have e2 := chkCell_run (n := k) (by omega) (d := .int (n : Int)) (v := x) (fine_int (by have := S.n18; omega)) hx
  have wi : within (.int (n : Int)) 1 18 = true := by
    have := S.n1
    have := S.n18
    simp only [within, Bool.and_eq_true, decide_eq_true_eq]
    omega
  have ic : isCellD (.int (n : Int)) x = some false := by
    simp only [isCellD, wi, if_true, Int.toNat_natCast, hb]
  rw [ic] at e2
  simp only [shr] at e2
  have ln : lenD (scrD M) = some (.int (n : Int)) := by
    show some (D.int ((M.map rowD).length : Int)) = _
    rw [List.length_map, S.len]
  have r12 : runD (tbOf defs) pr (k + 1) 12 [shr (scrD M), shr x] = .exc "BadCell" [] := by
    rw [F12.run rfl, ss]
    simp [fillA, ioA, goneA, lentA, okA, putAll, wipeE, shrAll, ioOut, isPk, pk, isiD, own, owns, shr, shrs, noL, noLs, pln, plns, noIo, tgSlots, callI, lenOk_eq, f12F, ss, e1, ln, e2]
  have r13 : runD (tbOf defs) pr (k + 1) 13 [shr (scrD M), shr x] = .exc "BadCell" [] := by
    rw [F13.run rfl, ss]
    simp [fillA, ioA, goneA, lentA, okA, putAll, wipeE, shrAll, ioOut, isPk, pk, isiD, own, owns, shr, shrs, noL, noLs, pln, plns, noIo, tgSlots, callI, lenOk_eq, f13F, ss, e1, ln, e2]
  rcases hw with rfl | rfl
  · have := call_red (a := scrD M) (b := x) (by rw [r12]; rfl)
    rw [r12, ss] at this
    exact this
  · have := call_wri (a := scrD M) (b := x) (by rw [r13]; rfl)
    rw [r13, ss] at this
    exact this

end MP
set_option linter.all false
set_option maxRecDepth 100000
set_option maxHeartbeats 1000000
namespace MP
open PySem PySem.Spec PyProof.Rows L2
--import K01L5
theorem ixN_nat {n j : Nat} (h : j < n) : ixN n (j : Int) = some j := by
  unfold ixN
  rw [if_pos (by omega), if_pos (by omega), Int.toNat_natCast]
theorem vecD_set {n : Nat} {f : Nat → Int} {j : Nat} {y : Int} (h : j < n) : (vecD n f).set j (.int y) = vecD n fun t => if t = j then y else f t := by
  unfold vecD
  apply List.ext_getElem?
  intro i
  rw [List.getElem?_set, List.getElem?_map, List.getElem?_map, List.length_map, List.length_range]
  by_cases hi : i < n
  · rw [List.getElem?_range hi]
    by_cases e : j = i
    · subst e
      simp [hi]
    · have e2 : ¬ i = j := fun h => e h.symm
      simp [e, e2]
  · have : (List.range n)[i]? = none := List.getElem?_eq_none (by rw [List.length_range]; omega)
    rw [this]
    by_cases e : j = i
    · omega
    · simp [e]
section
variable {n : Nat} {M : List (List Int)} (S : Scr n M)
include S
theorem len_scr : lenD (scrD M) = some (.int (n : Int)) := by
  show some (D.int ((M.map rowD).length : Int)) = _
  rw [List.length_map, S.len]
theorem rngn : rngL [.int (n : Int)] = some (rngD 0 1 n) := rngL_nat (by have := S.n18; omega)
theorem index_run {m : Nat} (hm : 1 ≤ m) : runD (tbOf defs) pr m 30 [scrD M] = .ok (.int (prodD M n)) [] := by
  obtain ⟨k, rfl⟩ : ∃ k, m = k + 1 := ⟨m - 1, by omega⟩
  rw [F30.run rfl]
  have l : ∃ rr, forL (.nm 2) (evSs (runD (tbOf defs) pr k) f30_b1 []) (rngD 0 1 n) [some (scrD M), some (.int 1), none] = rr ∧ ∃ o, rr = .nx [some (scrD M), some (.int (prodD M n)), o] := by
    refine forL_rng (fun j s => ∃ o, s = [some (scrD M), some (.int (prodD M j)), o]) (fun rr => ∃ r', rr = r' ∧ ∃ o, r' = .nx [some (scrD M), some (.int (prodD M n)), o]) ?_ ?_ _ ⟨none, rfl⟩
    · rintro s ⟨o, rfl⟩
      exact ⟨_, rfl, _, rfl⟩
    · rintro j s hj ⟨o, rfl⟩
      have e1 : (0 : Int) + (j : Int) * 1 = (j : Int) := by omega
      have r := scr_row S hj
      have d := vecD_at (f := ent M j) hj
      have p := prodD_mono S (m := n) (k := j) (by omega) (Nat.le_refl _)
      have p1 := prodD_pos S j (by omega)
      have pm := S.prod
      have mk : mulOk (prodD M j) (ent M j j) = true := mulOk_of 250 210 (by unfold MOST' at pm; omega) (e_small S hj hj)
      refine ⟨_, .nx [some (scrD M), some (.int (prodD M (j + 1))), some (.int (j : Int))], rfl, ?_, _, rfl⟩
      rw [e1, show prodD M (j + 1) = prodD M j * ent M j j from rfl]
      simp only [scrD]
      simp [fillA, ioA, goneA, lentA, okA, putAll, wipeE, shrAll, ioOut, isPk, pk, isiD, own, owns, shr, shrs, noL, noLs, pln, plns, noIo, tgSlots, callI, lenOk_eq, f30_b1, r, d, mk]
  obtain ⟨rr, e, o, rfl⟩ := l
  have ln := len_scr S
  have r1 := rngn S
  simp [fillA, ioA, goneA, lentA, okA, putAll, wipeE, shrAll, ioOut, isPk, pk, isiD, own, owns, shr, shrs, noL, noLs, pln, plns, noIo, tgSlots, callI, lenOk_eq, f30F, ln, r1, e]
/-- a corner by a number -/
theorem cornerAt_run {m : Nat} (hm : 1 ≤ m) (x : Int) : ∃ c : Nat → Int, runD (tbOf defs) pr m 32 [scrD M, .int x] = .ok (.tup (vecD n c)) [] ∧ ∀ t, t < n → 0 ≤ c t ∧ c t < ent M t t := by
  obtain ⟨k, rfl⟩ : ∃ k, m = k + 1 := ⟨m - 1, by omega⟩
  rw [F32.run rfl]
  have ln := len_scr S
  have r1 := rngn S
  have l : ∃ rr, forL (.nm 3) (evSs (runD (tbOf defs) pr k) f32_b2 []) (rngD 0 1 n) [some (scrD M), some (.int x), some (.lst true (vecD n fun _ => 0)), none, none] = rr ∧ ∃ c o p q, rr = .nx [some (scrD M), o, some (.lst true (vecD n c)), p, q] ∧ ∀ t, t < n → 0 ≤ c t ∧ c t < ent M t t := by
    refine forL_rng (fun j s => ∃ (y : Int) (c : Nat → Int) (p q : Option D), s = [some (scrD M), some (.int y), some (.lst true (vecD n c)), p, q] ∧ ∀ t, n - j ≤ t → t < n → 0 ≤ c t ∧ c t < ent M t t) (fun rr => ∃ r', rr = r' ∧ ∃ c o p q, r' = .nx [some (scrD M), o, some (.lst true (vecD n c)), p, q] ∧ ∀ t, t < n → 0 ≤ c t ∧ c t < ent M t t) ?_ ?_ _ ⟨x, fun _ => 0, none, none, rfl, fun t h1 h2 => by omega⟩
    · rintro s ⟨y, c, p, q, rfl, h⟩
      exact ⟨_, rfl, c, _, _, _, rfl, fun t ht => h t (by omega) ht⟩
    · rintro j s hj ⟨y, c, p, q, rfl, h⟩
      have e1 : (0 : Int) + (j : Int) * 1 = (j : Int) := by omega
      have e2 : (n : Int) - 1 - (j : Int) = ((n - 1 - j : Nat) : Int) := by omega
      generalize hi : n - 1 - j = i at e2
      have hin : i < n := by omega
      have r := scr_row S hin
      have d := vecD_at (f := ent M i) hin
      have nv := vecD_noL n (ent M i)
      have dp : 0 < ent M i i := by have := S.diag i hin; omega
      have dv : divOk (ent M i i) = true := divOk_of 210 dp (e_small S hin hin)
      have ix := ixN_nat hin
      have st := vecD_set (f := c) (y := y % ent M i i) hin
      refine ⟨_, .nx [some (scrD M), some (.int (y / ent M i i)), some (.lst true (vecD n fun t => if t = i then y % ent M i i else c t)), some (.int (j : Int)), some (.int (i : Int))], rfl, ?_, _, _, _, _, rfl, fun t h1 h2 => ?_⟩
      · rw [e1]
        have hM := S.len
        have lv := vecD_len n c
        simp only [scrD] at ln ⊢
        simp [fillA, ioA, goneA, lentA, okA, putAll, wipeE, shrAll, ioOut, isPk, pk, isiD, own, owns, shr, shrs, noL, noLs, pln, plns, noIo, tgSlots, callI, lenOk_eq, f32_b2, hM, e2, r, d, nv, dp, dv, lv, ix, st]
      · by_cases e : t = i
        · simp only [e, if_true]
          exact ⟨Int.emod_nonneg _ (by omega), Int.emod_lt_of_pos _ dp⟩
        · simp only [if_neg e]
          exact h t (by omega) h2
  obtain ⟨rr, e, c, o, p, q, rfl, h⟩ := l
  refine ⟨c, ?_, h⟩
  have lc := lcL_map (turn := turnL (.nm 3) (fun s => .ok true s) (evX (runD (tbOf defs) pr k) f32_x1).val) (ws := [3]) (s := [some (scrD M), some (.int x), none, none, none]) (fun _ => .int 0) (M.map rowD) [] (fun d hd => ⟨[some (scrD M), some (.int x), none, some d, none], by simp [fillA, ioA, goneA, lentA, okA, putAll, wipeE, shrAll, ioOut, isPk, pk, isiD, own, owns, shr, shrs, noL, noLs, pln, plns, noIo, tgSlots, callI, lenOk_eq, turnL, f32_x1], rfl⟩) (by rw [lenOk_eq, List.length_map, S.len, decide_eq_true_eq]; have := S.n18; simp only [List.length_nil]; omega)
  have z : (M.map rowD).map (fun _ => D.int 0) = vecD n fun _ => 0 := by
    unfold vecD
    rw [List.map_map]
    apply List.ext_getElem?
    intro i
    rw [List.getElem?_map, List.getElem?_map]
    by_cases hi : i < n
    · rw [List.getElem?_range hi, List.getElem?_eq_getElem (by rw [S.len]; exact hi)]
      rfl
    · rw [List.getElem?_eq_none (by rw [S.len]; omega), List.getElem?_eq_none (by rw [List.length_range]; omega)]
      rfl
  rw [List.nil_append, z] at lc
  have hM := S.len
  have nr := noLs_rows M
  have sr := shrs_rows M
  have nc := vecD_noL n c
  simp only [scrD] at ln e lc ⊢
  simp [fillA, ioA, goneA, lentA, okA, putAll, wipeE, shrAll, ioOut, isPk, pk, isiD, own, owns, shr, shrs, noL, noLs, pln, plns, noIo, tgSlots, callI, lenOk_eq, f32F, hM, nr, sr, giveR, lc, r1, e, nc]
/-- the sum of the rows by weights -/
theorem sum_run {m : Nat} (hm : 1 ≤ m) {w : Nat → Int} (hw : ∀ t, t < n → (w t).natAbs < 2 ^ 230) : runD (tbOf defs) pr m 44 [scrD M, .lst false (vecD n w)] = .ok (.tup (vecD n fun t => sumL (fun i => w i * ent M i t) n)) [] := by
  obtain ⟨k, rfl⟩ : ∃ k, m = k + 1 := ⟨m - 1, by omega⟩
  rw [F44.run rfl]
  have ln := len_scr S
  have r1 := rngn S
  have h18 := S.n18
  have l : ∃ rr, forL (.nm 4) (evSs (runD (tbOf defs) pr k) f44_b3 []) (rngD 0 1 n) [some (scrD M), some (.lst false (vecD n w)), some (.int (n : Int)), some (.lst true (vecD n fun _ => 0)), none, none] = rr ∧ ∃ o p, rr = .nx [some (scrD M), some (.lst false (vecD n w)), some (.int (n : Int)), some (.lst true (vecD n fun t => sumL (fun i => w i * ent M i t) n)), o, p] := by
    refine forL_rng (fun j s => ∃ o, s = [some (scrD M), some (.lst false (vecD n w)), some (.int (n : Int)), some (.lst true (vecD n fun t => sumL (fun i => w i * ent M i t) j)), o, none]) (fun rr => ∃ r', rr = r' ∧ ∃ o p, r' = .nx [some (scrD M), some (.lst false (vecD n w)), some (.int (n : Int)), some (.lst true (vecD n fun t => sumL (fun i => w i * ent M i t) n)), o, p]) ?_ ?_ _ ⟨none, rfl⟩
    · rintro s ⟨o, rfl⟩
      exact ⟨_, rfl, _, _, rfl⟩
    · rintro j s hj ⟨o, rfl⟩
      have e1 : (0 : Int) + (j : Int) * 1 = (j : Int) := by omega
      have r := scr_row S hj
      have nv := vecD_noL n (ent M j)
      have wa := vecD_at (f := w) hj
      let f : Nat → Int := fun t => sumL (fun i => w i * ent M i t) j
      have lc := lcL_map (turn := turnL (.nm 5) (fun s => .ok true s) (evX (runD (tbOf defs) pr k) f44_x2).val) (ws := [5]) (s := [some (scrD M), some (.lst false (vecD n w)), some (.int (n : Int)), some (.lst true (vecD n f)), some (.int (j : Int)), none]) (fun d => match d with
        | .int t => .int (f t.toNat + w j * ent M j t.toNat)
        | _ => .non) (rngD 0 1 n) [] (fun d hd => by
        obtain ⟨t, rfl, ht⟩ := rngD_nat n d hd
        have a := vecD_at (f := f) ht
        have d := vecD_at (f := ent M j) ht
        have mk : mulOk (w j) (ent M j t) = true := mulOk_of 230 210 (hw j hj) (e_small S hj ht)
        refine ⟨[some (scrD M), some (.lst false (vecD n w)), some (.int (n : Int)), some (.lst true (vecD n f)), some (.int (j : Int)), some (.int (t : Int))], ?_, rfl⟩
        simp only [scrD, Int.toNat_natCast]
        simp [fillA, ioA, goneA, lentA, okA, putAll, wipeE, shrAll, ioOut, isPk, pk, isiD, own, owns, shr, shrs, noL, noLs, pln, plns, noIo, tgSlots, callI, lenOk_eq, turnL, f44_x2, a, d, r, wa, mk]) (by rw [lenOk_eq, rngD_len, decide_eq_true_eq]; simp only [List.length_nil]; omega)
      have z : (rngD 0 1 n).map (fun d => match d with
        | .int t => D.int (f t.toNat + w j * ent M j t.toNat)
        | _ => .non) = vecD n fun t => sumL (fun i => w i * ent M i t) (j + 1) := by
        unfold rngD vecD
        rw [List.map_map]
        refine List.map_congr_left fun t ht => ?_
        show D.int (f ((0 : Int) + (t : Int) * 1).toNat + w j * ent M j ((0 : Int) + (t : Int) * 1).toNat) = _
        rw [show ((0 : Int) + (t : Int) * 1).toNat = t by omega]
        rfl
      rw [List.nil_append, z] at lc
      refine ⟨_, .nx [some (scrD M), some (.lst false (vecD n w)), some (.int (n : Int)), some (.lst true (vecD n fun t => sumL (fun i => w i * ent M i t) (j + 1))), some (.int (j : Int)), none], rfl, ?_, _, rfl⟩
      rw [e1]
      simp [fillA, ioA, goneA, lentA, okA, putAll, wipeE, shrAll, ioOut, isPk, pk, isiD, own, owns, shr, shrs, noL, noLs, pln, plns, noIo, tgSlots, callI, lenOk_eq, f44_b3, r1, giveR, lc, f] at lc ⊢
  obtain ⟨rr, e, o, p, rfl⟩ := l
  have lc := lcL_map (turn := turnL (.nm 5) (fun s => .ok true s) (evX (runD (tbOf defs) pr k) f44_x1).val) (ws := [5]) (s := [some (scrD M), some (.lst false (vecD n w)), some (.int (n : Int)), none, none, none]) (fun _ => .int 0) (rngD 0 1 n) [] (fun d hd => ⟨[some (scrD M), some (.lst false (vecD n w)), some (.int (n : Int)), none, none, some d], by simp [fillA, ioA, goneA, lentA, okA, putAll, wipeE, shrAll, ioOut, isPk, pk, isiD, own, owns, shr, shrs, noL, noLs, pln, plns, noIo, tgSlots, callI, lenOk_eq, turnL, f44_x1], rfl⟩) (by rw [lenOk_eq, rngD_len, decide_eq_true_eq]; simp only [List.length_nil]; omega)
  have z : (rngD 0 1 n).map (fun _ => D.int 0) = vecD n fun _ => 0 := by
    unfold vecD rngD
    rw [List.map_map]
    rfl
  rw [List.nil_append, z] at lc
  have nc := vecD_noL n fun t => sumL (fun i => w i * ent M i t) n
  simp [fillA, ioA, goneA, lentA, okA, putAll, wipeE, shrAll, ioOut, isPk, pk, isiD, own, owns, shr, shrs, noL, noLs, pln, plns, noIo, tgSlots, callI, lenOk_eq, f44F, ln, r1, giveR, lc, e, nc]
/-- the law's own corner -/
theorem corner_run {m : Nat} (hm : 1 ≤ m) {x v c : Nat → Int} (Dc : Dec n M x v c) (hx : ∀ t, t < n → (x t).natAbs ≤ 10 ^ 60) : runD (tbOf defs) pr m 31 [scrD M, .tup (vecD n x)] = .ok (.tup (vecD n c)) [] := by
  obtain ⟨k, rfl⟩ : ∃ k, m = k + 1 := ⟨m - 1, by omega⟩
  rw [F31.run rfl]
  have ln := len_scr S
  have r1 := rngn S
  have h18 := S.n18
  have hM := S.len
  have inner : ∀ j, j < n → ∀ (o : Option D), ∃ rr, forL (.nm 6) (evSs (runD (tbOf defs) pr k) f31_b1 []) (rngD (j : Int) 1 (n - j)) [some (scrD M), some (.tup (vecD n x)), some (.lst true (vecD n (res M x v j))), some (.int (j : Int)), some (.tup (vecD n (ent M j))), some (.int (v j)), o] = rr ∧ ∃ o, rr = .nx [some (scrD M), some (.tup (vecD n x)), some (.lst true (vecD n (res M x v (j + 1)))), some (.int (j : Int)), some (.tup (vecD n (ent M j))), some (.int (v j)), o] := by
    intro j hj o
    let mid : Nat → Nat → Int := fun i t => if t < j + i then res M x v (j + 1) t else res M x v j t
    have same : ∀ t, t < j → res M x v (j + 1) t = res M x v j t := fun t ht => by rw [res_succ, S.low j t hj ht, Int.mul_zero, Int.sub_zero]
    have m0 : vecD n (mid 0) = vecD n (res M x v j) := vecD_congr fun t ht => by
      show (if t < j + 0 then res M x v (j + 1) t else res M x v j t) = _
      by_cases h : t < j
      · rw [if_pos (by omega), same t h]
      · rw [if_neg (by omega)]
    have mn : vecD n (mid (n - j)) = vecD n (res M x v (j + 1)) := vecD_congr fun t ht => by
      show (if t < j + (n - j) then res M x v (j + 1) t else res M x v j t) = _
      rw [if_pos (by omega)]
    refine forL_rng (fun i s => ∃ o, s = [some (scrD M), some (.tup (vecD n x)), some (.lst true (vecD n (mid i))), some (.int (j : Int)), some (.tup (vecD n (ent M j))), some (.int (v j)), o]) (fun rr => ∃ r', rr = r' ∧ ∃ o, r' = .nx [some (scrD M), some (.tup (vecD n x)), some (.lst true (vecD n (res M x v (j + 1)))), some (.int (j : Int)), some (.tup (vecD n (ent M j))), some (.int (v j)), o]) ?_ ?_ _ ⟨o, by rw [m0]⟩
    · rintro s ⟨o, rfl⟩
      exact ⟨_, rfl, _, by rw [mn]⟩
    · rintro i s hi ⟨o, rfl⟩
      have e1 : (j : Int) + (i : Int) * 1 = ((j + i : Nat) : Int) := by omega
      generalize hq : j + i = q at e1
      have hqn : q < n := by omega
      have a := vecD_at (f := mid i) hqn
      have d := vecD_at (f := ent M j) hqn
      have ix := ixN_nat hqn
      have lv := vecD_len n (mid i)
      have st := vecD_set (f := mid i) (y := mid i q - v j * ent M j q) hqn
      have mk : mulOk (v j) (ent M j q) = true := mulOk_of 230 210 (v_small S Dc hx hj) (e_small S hj hqn)
      have nx : vecD n (fun t => if t = q then mid i q - v j * ent M j q else mid i t) = vecD n (mid (i + 1)) := vecD_congr fun t ht => by
        show (if t = q then (if q < j + i then res M x v (j + 1) q else res M x v j q) - v j * ent M j q else (if t < j + i then res M x v (j + 1) t else res M x v j t)) = (if t < j + (i + 1) then res M x v (j + 1) t else res M x v j t)
        by_cases e : t = q
        · rw [if_pos e, if_neg (by omega), if_pos (by omega), e, res_succ]
        · rw [if_neg e]
          by_cases h : t < j + i
          · rw [if_pos h, if_pos (by omega)]
          · rw [if_neg h, if_neg (by omega)]
      rw [nx] at st
      refine ⟨_, .nx [some (scrD M), some (.tup (vecD n x)), some (.lst true (vecD n (mid (i + 1)))), some (.int (j : Int)), some (.tup (vecD n (ent M j))), some (.int (v j)), some (.int (q : Int))], rfl, ?_, _, rfl⟩
      rw [e1]
      generalize mid i q = y at a st
      generalize vecD n (mid i) = L at a st lv
      simp [fillA, ioA, goneA, lentA, okA, putAll, wipeE, shrAll, ioOut, isPk, pk, isiD, own, owns, shr, shrs, noL, noLs, pln, plns, noIo, tgSlots, callI, lenOk_eq, f31_b1, a, d, mk, lv, ix, st]
  have l : ∃ rr, forL (.nm 3) (evSs (runD (tbOf defs) pr k) f31_b2 []) (rngD 0 1 n) [some (scrD M), some (.tup (vecD n x)), some (.lst true (vecD n x)), none, none, none, none] = rr ∧ ∃ p q r o, rr = .nx [some (scrD M), some (.tup (vecD n x)), some (.lst true (vecD n (res M x v n))), p, q, r, o] := by
    refine forL_rng (fun j s => ∃ p q r o, s = [some (scrD M), some (.tup (vecD n x)), some (.lst true (vecD n (res M x v j))), p, q, r, o]) (fun rr => ∃ r', rr = r' ∧ ∃ p q r o, r' = .nx [some (scrD M), some (.tup (vecD n x)), some (.lst true (vecD n (res M x v n))), p, q, r, o]) ?_ ?_ _ ⟨none, none, none, none, by rw [res_zero]⟩
    · rintro s ⟨p, q, r, o, rfl⟩
      exact ⟨_, rfl, _, _, _, _, rfl⟩
    · rintro j s hj ⟨p, q, r, o, rfl⟩
      have e1 : (0 : Int) + (j : Int) * 1 = (j : Int) := by omega
      have a := vecD_at (f := res M x v j) hj
      have rw' := scr_row S hj
      have d := vecD_at (f := ent M j) hj
      have nv := vecD_noL n (ent M j)
      have dp : 0 < ent M j j := by have := S.diag j hj; omega
      have dv : divOk (ent M j j) = true := divOk_of 210 dp (e_small S hj hj)
      have qq := Dc.div S hj
      obtain ⟨rr, e2, o2, rfl⟩ := inner j hj o
      have r2 : rngL [.int (j : Int), .int (n : Int)] = some (rngD (j : Int) 1 (n - j)) := by
        have e : (n : Int) - (j : Int) = ((n - j : Nat) : Int) := by omega
        rw [rngL_2 (Int.le_trans (by decide) (show (0 : Int) ≤ (j : Int) by omega)) (Int.lt_of_le_of_lt (show (j : Int) ≤ 18 by omega) (by decide)) (Int.le_trans (by decide) (show (0 : Int) ≤ (n : Int) by omega)) (Int.lt_of_le_of_lt (show (n : Int) ≤ 18 by omega) (by decide)), e, Int.toNat_natCast]
      by_cases h0 : v j = 0
      · have same : vecD n (res M x v (j + 1)) = vecD n (res M x v j) := vecD_congr fun t ht => by rw [res_succ, h0, Int.zero_mul, Int.sub_zero]
        refine ⟨_, .nx [some (scrD M), some (.tup (vecD n x)), some (.lst true (vecD n (res M x v (j + 1)))), some (.int (j : Int)), some (.tup (vecD n (ent M j))), some (.int (v j)), o], rfl, ?_, _, _, _, _, rfl⟩
        rw [e1, same]
        simp only [scrD]
        simp [fillA, ioA, goneA, lentA, okA, putAll, wipeE, shrAll, ioOut, isPk, pk, isiD, own, owns, shr, shrs, noL, noLs, pln, plns, noIo, tgSlots, callI, lenOk_eq, f31_b2, a, rw', d, nv, dv, qq, h0, cmpD_neI]
      · refine ⟨_, .nx [some (scrD M), some (.tup (vecD n x)), some (.lst true (vecD n (res M x v (j + 1)))), some (.int (j : Int)), some (.tup (vecD n (ent M j))), some (.int (v j)), o2], rfl, ?_, _, _, _, _, rfl⟩
        rw [e1]
        simp only [scrD] at e2 ln ⊢
        simp [fillA, ioA, goneA, lentA, okA, putAll, wipeE, shrAll, ioOut, isPk, pk, isiD, own, owns, shr, shrs, noL, noLs, pln, plns, noIo, tgSlots, callI, lenOk_eq, f31_b2, a, rw', d, nv, dv, qq, h0, cmpD_neI, hM, r2, e2]
  obtain ⟨rr, e, p, q, r, o, rfl⟩ := l
  have fin : vecD n (res M x v n) = vecD n c := vecD_congr fun t ht => Dc.last ht
  rw [fin] at e
  have nx := vecD_noL n x
  have nc := vecD_noL n c
  simp [fillA, ioA, goneA, lentA, okA, putAll, wipeE, shrAll, ioOut, isPk, pk, isiD, own, owns, shr, shrs, noL, noLs, pln, plns, noIo, tgSlots, callI, lenOk_eq, f31F, ln, r1, nx, e, nc]
end

end MP
set_option linter.all false
set_option maxRecDepth 100000
set_option maxHeartbeats 1000000
namespace MP
open PySem PySem.Spec PyProof.Rows L2
--import K01L6
/-! the law's draws -/
theorem p10_60 : powOk 10 60 = true := by decide
theorem p10_9 : powOk 10 9 = true := by decide
theorem p10_8 : powOk 10 8 = true := by decide
theorem p10_4 : powOk 10 4 = true := by decide
theorem v10_60 : (10 : Int) ^ (60 : Int).toNat = 1000000000000000000000000000000000000000000000000000000000000 := by decide
theorem v10_9 : (10 : Int) ^ (9 : Int).toNat = 1000000000 := by decide
theorem v10_8 : (10 : Int) ^ (8 : Int).toNat = 100000000 := by decide
theorem v10_4 : (10 : Int) ^ (4 : Int).toNat = 10000 := by decide
section
variable {ns : List Int} (hl : ns.length ≤ 1000)
include hl
theorem take18 {n : Nat} (hn : 3 ≤ n) {m : Nat} {d : D} (h : St ns m d) (hm : m ≤ 2 ^ 80) {many : Int} (hb : many.natAbs < 2 ^ 250) :
    ∃ (v : Int) (d' : D), runD (tbOf defs) pr n 18 [d, .int many] = .ok (.int v) [d'] ∧ St ns (m + 1) d' ∧ 0 ≤ v ∧ (v < many ∨ v = 0) := take_run F15 F16 F17 F18 hn h hl hm hb
theorem from19 {n : Nat} (hn : 4 ≤ n) {m : Nat} {d : D} (h : St ns m d) (hm : m ≤ 2 ^ 80) {lo hi : Int} (h1 : lo.natAbs < 2 ^ 248) (h2 : hi.natAbs < 2 ^ 248) :
    ∃ (v : Int) (d' : D), runD (tbOf defs) pr n 19 [d, .int lo, .int hi] = .ok (.int v) [d'] ∧ St ns (m + 1) d' ∧ lo ≤ v ∧ (lo ≤ hi → v ≤ hi) := from_run F15 F16 F17 F18 F19 hn h hl hm h1 h2
theorem pick20 {n : Nat} (hn : 4 ≤ n) {m : Nat} {d : D} (h : St ns m d) (hm : m ≤ 2 ^ 80) (xs : List D) (h1 : xs ≠ []) (h2 : xs.length ≤ 1000000) :
    ∃ (x d' : D), runD (tbOf defs) pr n 20 [d, .lst false (shrs xs)] = .ok (shr x) [d'] ∧ St ns (m + 1) d' ∧ x ∈ xs := pick_run F15 F16 F17 F18 F20 hn h hl hm h1 h2
/-- one of some ints -/
theorem pickI {n : Nat} (hn : 4 ≤ n) {m : Nat} {d : D} (h : St ns m d) (hm : m ≤ 2 ^ 80) (xs : List Int) (h1 : xs ≠ []) (h2 : xs.length ≤ 1000000) :
    ∃ (x : Int) (d' : D), runD (tbOf defs) pr n 20 [d, .lst false (xs.map .int)] = .ok (.int x) [d'] ∧ St ns (m + 1) d' ∧ x ∈ xs := by
  obtain ⟨x, d', e, hs, hx⟩ := pick20 hl hn h hm (xs.map .int) (by simpa using h1) (by simpa using h2)
  obtain ⟨i, hi, rfl⟩ := List.mem_map.mp hx
  have : shrs (xs.map D.int) = xs.map D.int := by rw [shrs_map, List.map_map]; rfl
  rw [this] at e
  exact ⟨i, d', e, hs, hi⟩
/-- a number up to 10 ** 60 -/
def NumD (v : Int) : Prop := -MOST' ≤ v ∧ v ≤ MOST'
theorem num_run {n : Nat} (hn : 5 ≤ n) {m : Nat} {d : D} (h : St ns m d) (hm : m ≤ 2 ^ 70) : ∃ (v : Int) (d' : D), runD (tbOf defs) pr n 22 [d] = .ok (.int v) [d'] ∧ St ns (m + 2) d' ∧ NumD v := by
  obtain ⟨k, rfl⟩ : ∃ k, n = k + 1 := ⟨n - 1, by omega⟩
  rw [F22.run rfl]
  obtain ⟨w, d1, e1, s1, w0, w1⟩ := take18 hl (n := k) (by omega) h (by omega) (many := 8) (by decide)
  have o1 := s1.own
  by_cases g0 : w = 0
  · obtain ⟨v, d2, e2, s2, hv⟩ := pickI hl (n := k) (by omega) s1 (by omega) [0, 1, -1, 2, -2] (by simp) (by decide)
    refine ⟨v, d2, ?_, s2, ?_⟩
    · simp only [List.map_cons, List.map_nil] at e2
      simp [fillA, ioA, goneA, lentA, okA, putAll, wipeE, shrAll, ioOut, isPk, pk, isiD, own, owns, shr, shrs, noL, noLs, pln, plns, noIo, tgSlots, callI, lenOk_eq, f22F, e1, g0, e2, o1, s2.own]
    · simp only [List.mem_cons, List.not_mem_nil, or_false] at hv
      unfold NumD MOST'
      omega
  by_cases g1 : w = 1
  · obtain ⟨v, d2, e2, s2, hv⟩ := pickI hl (n := k) (by omega) s1 (by omega) [1000000000000000000000000000000000000000000000000000000000000, -1000000000000000000000000000000000000000000000000000000000000, 999999999999999999999999999999999999999999999999999999999999, -999999999999999999999999999999999999999999999999999999999999] (by simp) (by decide)
    refine ⟨v, d2, ?_, s2, ?_⟩
    · simp only [List.map_cons, List.map_nil] at e2
      simp [fillA, ioA, goneA, lentA, okA, putAll, wipeE, shrAll, ioOut, isPk, pk, isiD, own, owns, shr, shrs, noL, noLs, pln, plns, noIo, tgSlots, callI, lenOk_eq, f22F, e1, g1, e2, o1, s2.own, p10_60, v10_60]
    · simp only [List.mem_cons, List.not_mem_nil, or_false] at hv
      unfold NumD MOST'
      omega
  by_cases g2 : w = 2
  · obtain ⟨v, d2, e2, s2, h1, h2⟩ := from19 hl (n := k) (by omega) s1 (by omega) (lo := -1000000000000000000000000000000000000000000000000000000000000) (hi := 1000000000000000000000000000000000000000000000000000000000000) (by decide) (by decide)
    refine ⟨v, d2, ?_, s2, ⟨h1, h2 (by decide)⟩⟩
    simp [fillA, ioA, goneA, lentA, okA, putAll, wipeE, shrAll, ioOut, isPk, pk, isiD, own, owns, shr, shrs, noL, noLs, pln, plns, noIo, tgSlots, callI, lenOk_eq, f22F, e1, g2, e2, o1, s2.own, p10_60, v10_60]
  by_cases g3 : w = 3
  · obtain ⟨v, d2, e2, s2, h1, h2⟩ := from19 hl (n := k) (by omega) s1 (by omega) (lo := -1000000000) (hi := 1000000000) (by decide) (by decide)
    refine ⟨v, d2, ?_, s2, ?_⟩
    · simp [fillA, ioA, goneA, lentA, okA, putAll, wipeE, shrAll, ioOut, isPk, pk, isiD, own, owns, shr, shrs, noL, noLs, pln, plns, noIo, tgSlots, callI, lenOk_eq, f22F, e1, g3, e2, o1, s2.own, p10_9, v10_9]
    · have := h2 (by decide)
      unfold NumD MOST'
      omega
  · obtain ⟨v, d2, e2, s2, h1, h2⟩ := from19 hl (n := k) (by omega) s1 (by omega) (lo := -12) (hi := 12) (by decide) (by decide)
    refine ⟨v, d2, ?_, s2, ?_⟩
    · simp [fillA, ioA, goneA, lentA, okA, putAll, wipeE, shrAll, ioOut, isPk, pk, isiD, own, owns, shr, shrs, noL, noLs, pln, plns, noIo, tgSlots, callI, lenOk_eq, f22F, e1, g0, g1, g2, g3, e2, o1, s2.own]
    · have := h2 (by decide)
      unfold NumD MOST'
      omega

theorem rare21 {n : Nat} (hn : 4 ≤ n) {m : Nat} {d : D} (h : St ns m d) (hm : m ≤ 2 ^ 80) {many : Int} (h1 : many.natAbs < 2 ^ 250) : ∃ (b : Bool) (d' : D), runD (tbOf defs) pr n 21 [d, .int many] = .ok (.bl b) [d'] ∧ St ns (m + 1) d' := rare_run F15 F16 F17 F18 F21 hn h hl hm h1
theorem count_run {n : Nat} (hn : 5 ≤ n) {m : Nat} {d : D} (h : St ns m d) (hm : m ≤ 2 ^ 70) {most : Int} (h1 : 1 ≤ most) (h2 : most ≤ MOST') : ∃ (v : Int) (d' : D), runD (tbOf defs) pr n 23 [d, .int most] = .ok (.int v) [d'] ∧ St ns (m + 2) d' ∧ 1 ≤ v ∧ v ≤ most := by
  obtain ⟨k, rfl⟩ : ∃ k, n = k + 1 := ⟨n - 1, by omega⟩
  rw [F23.run rfl]
  unfold MOST' at h2
  obtain ⟨w, d1, e1, s1, w0, w1⟩ := take18 hl (n := k) (by omega) h (by omega) (many := 6) (by decide)
  have o1 := s1.own
  by_cases g0 : w = 0
  · exact ⟨1, d1, by simp [fillA, ioA, goneA, lentA, okA, putAll, wipeE, shrAll, ioOut, isPk, pk, isiD, own, owns, shr, shrs, noL, noLs, pln, plns, noIo, tgSlots, callI, lenOk_eq, f23F, e1, g0, o1], s1.mono (by omega), by omega, h1⟩
  by_cases g1 : w = 1
  · obtain ⟨t, d2, e2, s2, t0, t1⟩ := take18 hl (n := k) (by omega) s1 (by omega) (many := 2) (by decide)
    refine ⟨if 1 < most - t then most - t else 1, d2, by simp [fillA, ioA, goneA, lentA, okA, putAll, wipeE, shrAll, ioOut, isPk, pk, isiD, own, owns, shr, shrs, noL, noLs, pln, plns, noIo, tgSlots, callI, lenOk_eq, f23F, e1, g1, o1, e2, s2.own], s2, ?_, ?_⟩
    · split <;> omega
    · split <;> omega
  by_cases g2 : w = 2
  · obtain ⟨v, d2, e2, s2, v0, v1⟩ := from19 hl (n := k) (by omega) s1 (by omega) (lo := 1) (hi := most) (by decide) (by omega)
    exact ⟨v, d2, by simp [fillA, ioA, goneA, lentA, okA, putAll, wipeE, shrAll, ioOut, isPk, pk, isiD, own, owns, shr, shrs, noL, noLs, pln, plns, noIo, tgSlots, callI, lenOk_eq, f23F, e1, g2, o1, e2, s2.own], s2, v0, v1 h1⟩
  · have hmin : 1 ≤ (if (12 : Int) < most then 12 else most) ∧ (if (12 : Int) < most then 12 else most) ≤ most := by split <;> omega
    obtain ⟨v, d2, e2, s2, v0, v1⟩ := from19 hl (n := k) (by omega) s1 (by omega) (lo := 1) (hi := if (12 : Int) < most then 12 else most) (by decide) (by split <;> omega)
    refine ⟨v, d2, by simp [fillA, ioA, goneA, lentA, okA, putAll, wipeE, shrAll, ioOut, isPk, pk, isiD, own, owns, shr, shrs, noL, noLs, pln, plns, noIo, tgSlots, callI, lenOk_eq, f23F, e1, g0, g1, g2, o1, e2, s2.own], s2, v0, by have := v1 hmin.1; omega⟩
/-- places from 0 on, in any order -/
def Pl (n : Nat) (f : Nat → Int) : Prop := ∀ t, t < n → 0 ≤ f t ∧ f t < n
theorem order_run {m : Nat} (hm : 5 ≤ m) {n : Nat} (n1 : 1 ≤ n) (n18 : n ≤ 18) {q : Nat} {d : D} (h : St ns q d) (hq : q ≤ 2 ^ 70) : ∃ (f : Nat → Int) (d' : D), runD (tbOf defs) pr m 24 [d, .int (n : Int)] = .ok (.lst true (vecD n f)) [d'] ∧ St ns (q + 40) d' ∧ Pl n f := by
  obtain ⟨k, rfl⟩ : ∃ k, m = k + 1 := ⟨m - 1, by omega⟩
  rw [F24.run rfl]
  have lr : lrgD [.int (n : Int)] = some (.lst true (vecD n fun t => (t : Int))) := by
    have e : vecD n (fun t => (t : Int)) = rngD 0 1 n := by
      unfold vecD rngD
      exact List.map_congr_left fun t _ => by rw [Int.mul_one, Int.zero_add]
    rw [e]
    show (if (decide (-(2 ^ 62) ≤ (n : Int)) && decide ((n : Int) ≤ 16777216)) = true then some (D.lst true (rngD 0 1 ((n : Int)).toNat)) else none) = _
    rw [if_pos (Bool.and_eq_true_iff.mpr ⟨decide_eq_true (Int.le_trans (by decide) (Int.natCast_nonneg n)), decide_eq_true (by omega)⟩), Int.toNat_natCast]
  obtain ⟨w, d1, e1, s1, w0, w1⟩ := take18 hl (n := k) (by omega) h (by omega) (many := 6) (by decide)
  have o1 := s1.own
  have p0 : Pl n fun t => (t : Int) := fun t ht => by show 0 ≤ (t : Int) ∧ (t : Int) < n; omega
  by_cases g1 : w = 1
  · have lc := lcL_map (turn := turnL (.nm 5) (fun s => .ok true s) (evX (runD (tbOf defs) pr k) f24_x1).val) (ws := [5]) (s := [some d1, some (.int (n : Int)), some (.lst true (vecD n fun t => (t : Int))), some (.int 1), none, none, none]) (fun d => match d with
      | .int t => .int ((n : Int) - 1 - t)
      | _ => .non) (rngD 0 1 n) [] (fun d hd => by
      obtain ⟨t, rfl, ht⟩ := rngD_nat n d hd
      exact ⟨[some d1, some (.int (n : Int)), some (.lst true (vecD n fun t => (t : Int))), some (.int 1), none, some (.int (t : Int)), none], by simp [fillA, ioA, goneA, lentA, okA, putAll, wipeE, shrAll, ioOut, isPk, pk, isiD, own, owns, shr, shrs, noL, noLs, pln, plns, noIo, tgSlots, callI, lenOk_eq, turnL, f24_x1], rfl⟩) (by rw [lenOk_eq, rngD_len, decide_eq_true_eq]; simp only [List.length_nil]; omega)
    have z : (rngD 0 1 n).map (fun d => match d with
      | .int t => D.int ((n : Int) - 1 - t)
      | _ => .non) = vecD n fun t => (n : Int) - 1 - (t : Int) := by
      unfold rngD vecD
      rw [List.map_map]
      refine List.map_congr_left fun t ht => ?_
      show D.int ((n : Int) - 1 - ((0 : Int) + (t : Int) * 1)) = _
      rw [Int.mul_one, Int.zero_add]
    rw [List.nil_append, z] at lc
    have r1 : rngL [.int (n : Int)] = some (rngD 0 1 n) := rngL_nat (by omega)
    refine ⟨fun t => (n : Int) - 1 - (t : Int), d1, ?_, s1.mono (by omega), fun t ht => ?_⟩
    · subst g1
      simp [fillA, ioA, goneA, lentA, okA, putAll, wipeE, shrAll, ioOut, isPk, pk, isiD, own, owns, shr, shrs, noL, noLs, pln, plns, noIo, tgSlots, callI, lenOk_eq, f24F, lr, e1, o1, r1, giveR, lc]
    · show 0 ≤ (n : Int) - 1 - (t : Int) ∧ (n : Int) - 1 - (t : Int) < n
      omega
  by_cases g2 : w = 2
  · by_cases gn : 1 < n
    · obtain ⟨a, d2, e2, s2, a0, a1⟩ := take18 hl (n := k) (by omega) s1 (by omega) (many := (n : Int) - 1) (by omega)
      obtain ⟨a, rfl⟩ : ∃ b : Nat, a = (b : Int) := ⟨a.toNat, by omega⟩
      have ha : a + 1 < n := by omega
      have i1 := ixN_nat (n := n) (j := a) (by omega)
      have i2 := ixN_nat (n := n) (j := a + 1) ha
      rw [Int.natCast_add, Int.natCast_one] at i2
      have c1 := vecD_set (n := n) (f := fun t => (t : Int)) (j := a) (y := (a : Int) + 1) (by omega)
      have c2 := vecD_set (n := n) (f := fun t => if t = a then (a : Int) + 1 else (t : Int)) (j := a + 1) (y := (a : Int)) ha
      have lv := fun f => vecD_len n f
      refine ⟨fun t => if t = a + 1 then (a : Int) else if t = a then (a : Int) + 1 else (t : Int), d2, ?_, s2.mono (by omega), fun t ht => ?_⟩
      · have gt : ((1 : Int) < (n : Int)) = True := eq_true (by omega)
        subst g2
        simp [fillA, ioA, goneA, lentA, okA, putAll, wipeE, shrAll, ioOut, isPk, pk, isiD, own, owns, shr, shrs, noL, noLs, pln, plns, noIo, tgSlots, callI, lenOk_eq, f24F, lr, e1, o1, gt, e2, s2.own, lv, i1, i2, c1, c2]
      · show 0 ≤ (if t = a + 1 then (a : Int) else if t = a then (a : Int) + 1 else (t : Int)) ∧ (if t = a + 1 then (a : Int) else if t = a then (a : Int) + 1 else (t : Int)) < n
        split
        · omega
        · split <;> omega
    · have gt : ((1 : Int) < (n : Int)) = False := eq_false (by omega)
      refine ⟨_, d1, ?_, s1.mono (by omega), p0⟩
      subst g2
      simp [fillA, ioA, goneA, lentA, okA, putAll, wipeE, shrAll, ioOut, isPk, pk, isiD, own, owns, shr, shrs, noL, noLs, pln, plns, noIo, tgSlots, callI, lenOk_eq, f24F, lr, e1, o1, gt]
  by_cases g3 : 2 < w
  · have rm : rngL [.int ((n : Int) - 1), .int 0, .int (-1)] = some (rngD ((n : Int) - 1) (-1) (n - 1)) := by
      have e : ((n : Int) - 1 - 0).toNat = n - 1 := by omega
      have b1 : -(2 ^ 62) ≤ (n : Int) - 1 := Int.le_trans (by decide) (show (0 : Int) ≤ (n : Int) - 1 by omega)
      have b2 : (n : Int) - 1 < 2 ^ 62 := Int.lt_of_le_of_lt (show (n : Int) - 1 ≤ 18 by omega) (by decide)
      rw [← e]
      exact if_pos (Bool.and_eq_true_iff.mpr ⟨Bool.and_eq_true_iff.mpr ⟨decide_eq_true b1, decide_eq_true b2⟩, by decide⟩)
    have l : ∃ rr, forL (.nm 5) (evSs (runD (tbOf defs) pr k) f24_b2 [0]) (rngD ((n : Int) - 1) (-1) (n - 1)) [some d1, some (.int (n : Int)), some (.lst true (vecD n fun t => (t : Int))), some (.int w), none, none, none] = rr ∧ ∃ d' f o4 o5 o6, rr = .nx [some d', some (.int (n : Int)), some (.lst true (vecD n f)), some (.int w), o4, o5, o6] ∧ St ns (q + 1 + (n - 1)) d' ∧ Pl n f := by
      refine forL_rng (fun j s => ∃ d' f o4 o5 o6, s = [some d', some (.int (n : Int)), some (.lst true (vecD n f)), some (.int w), o4, o5, o6] ∧ St ns (q + 1 + j) d' ∧ Pl n f) (fun rr => ∃ r', rr = r' ∧ ∃ d' f o4 o5 o6, r' = .nx [some d', some (.int (n : Int)), some (.lst true (vecD n f)), some (.int w), o4, o5, o6] ∧ St ns (q + 1 + (n - 1)) d' ∧ Pl n f) ?_ ?_ _ ⟨d1, fun t => (t : Int), none, none, none, rfl, s1, p0⟩
      · rintro s ⟨d', f, o4, o5, o6, rfl, hs, hp⟩
        exact ⟨_, rfl, _, _, _, _, _, rfl, hs, hp⟩
      · rintro j s hj ⟨d', f, o4, o5, o6, rfl, hs, hp⟩
        have e1 : (n : Int) - 1 + (j : Int) * (-1) = ((n - 1 - j : Nat) : Int) := by omega
        generalize hi : n - 1 - j = i at e1
        have hin : i < n := by omega
        obtain ⟨a, d2, e2, s2, a0, a1⟩ := take18 hl (n := k) (by omega) hs (by omega) (many := (i : Int) + 1) (by omega)
        obtain ⟨a, rfl⟩ : ∃ b : Nat, a = (b : Int) := ⟨a.toNat, by omega⟩
        have han : a < n := by omega
        have fa := vecD_at (f := f) han
        have fi := vecD_at (f := f) hin
        have xa := ixN_nat han
        have xi := ixN_nat hin
        have c1 := vecD_set (f := f) (y := f i) han
        have c2 := vecD_set (f := fun t => if t = a then f i else f t) (y := f a) hin
        have lv := fun g => vecD_len n g
        refine ⟨_, .nx [some d2, some (.int (n : Int)), some (.lst true (vecD n fun t => if t = i then f a else if t = a then f i else f t)), some (.int w), some (.int (a : Int)), some (.int (i : Int)), none], rfl, ?_, d2, _, _, _, _, rfl, s2, fun t ht => ?_⟩
        · rw [e1]
          simp [fillA, ioA, goneA, lentA, okA, putAll, wipeE, shrAll, ioOut, isPk, pk, isiD, own, owns, shr, shrs, noL, noLs, pln, plns, noIo, tgSlots, callI, lenOk_eq, f24_b2, e2, s2.own, fa, fi, lv, xa, xi, c1, c2]
        · show 0 ≤ (if t = i then f a else if t = a then f i else f t) ∧ (if t = i then f a else if t = a then f i else f t) < n
          by_cases h1 : t = i
          · rw [if_pos h1]; exact hp a han
          · rw [if_neg h1]
            by_cases h2 : t = a
            · rw [if_pos h2]; exact hp i hin
            · rw [if_neg h2]; exact hp t ht
    obtain ⟨rr, e, d', f, o4, o5, o6, rfl, hs, hp⟩ := l
    refine ⟨f, d', ?_, hs.mono (by omega), hp⟩
    have gt : ((2 : Int) < w) = True := eq_true g3
    have n1' : (w = 1) = False := eq_false g1
    have n2' : (w = 2) = False := eq_false g2
    simp [fillA, ioA, goneA, lentA, okA, putAll, wipeE, shrAll, ioOut, isPk, pk, isiD, own, owns, shr, shrs, noL, noLs, pln, plns, noIo, tgSlots, callI, lenOk_eq, f24F, lr, e1, o1, gt, n1', n2', rm, e]
  · refine ⟨_, d1, ?_, s1.mono (by omega), p0⟩
    have : w = 0 := by omega
    subst this
    simp [fillA, ioA, goneA, lentA, okA, putAll, wipeE, shrAll, ioOut, isPk, pk, isiD, own, owns, shr, shrs, noL, noLs, pln, plns, noIo, tgSlots, callI, lenOk_eq, f24F, lr, e1, o1]
end

end MP
set_option linter.all false
set_option maxRecDepth 100000
set_option maxHeartbeats 1000000
namespace MP
open PySem PySem.Spec PyProof.Rows L2
--import K01L7
def matD (n : Nat) (E : Nat → Nat → Int) : List (List Int) := (List.range n).map fun a => (List.range n).map (E a)
theorem matD_scr (n : Nat) (E : Nat → Nat → Int) : scrD (matD n E) = .tup ((List.range n).map fun a => .tup (vecD n (E a))) := by
  unfold scrD matD
  rw [List.map_map]
  congr 1
  refine List.map_congr_left fun a _ => ?_
  show rowD ((List.range n).map (E a)) = _
  unfold rowD vecD
  rw [List.map_map]
  rfl
theorem matD_ent {n : Nat} {E : Nat → Nat → Int} {a b : Nat} (ha : a < n) (hb : b < n) : ent (matD n E) a b = E a b := by
  unfold ent matD
  have h1 : ((List.range n).map fun a => (List.range n).map (E a)).getD a [] = (List.range n).map (E a) := by
    rw [List.getD_eq_getElem?_getD, List.getElem?_map, List.getElem?_range ha]
    rfl
  rw [h1, List.getD_eq_getElem?_getD, List.getElem?_map, List.getElem?_range hb]
  rfl
def prodZ (z : Nat → Int) : Nat → Int
  | 0 => 1
  | n + 1 => prodZ z n * z n
/-- a triangle with the diagonal z -/
structure Tri (n : Nat) (z : Nat → Int) (E : Nat → Nat → Int) (i : Nat) : Prop where
  dg : ∀ a, a < i → E a a = z a
  lo : ∀ a b, a < i → b < a → E a b = 0
  up : ∀ a b, a < i → a < b → b < n → 0 ≤ E a b ∧ E a b < z b
theorem tri_scr {n : Nat} {z : Nat → Int} {E : Nat → Nat → Int} (n1 : 1 ≤ n) (n18 : n ≤ 18) (hz : ∀ t, t < n → 1 ≤ z t) (hp : prodZ z n ≤ MOST') (T : Tri n z E n) : Scr n (matD n E) := by
  have pe : ∀ k, k ≤ n → prodD (matD n E) k = prodZ z k := by
    intro k
    induction k with
    | zero => exact fun _ => rfl
    | succ k ih =>
      intro hk
      show prodD (matD n E) k * ent (matD n E) k k = prodZ z k * z k
      rw [ih (by omega), matD_ent (by omega) (by omega), T.dg k (by omega)]
  refine ⟨by simp [matD], fun r hr => ?_, n1, n18, fun i hi => ?_, fun i j hi hj => ?_, fun i j hij hj => ?_, by rw [pe n (Nat.le_refl _)]; exact hp⟩
  · unfold matD at hr
    obtain ⟨a, _, rfl⟩ := List.mem_map.mp hr
    simp
  · rw [matD_ent hi hi, T.dg i hi]; exact hz i hi
  · rw [matD_ent hi (by omega)]; exact T.lo i j hi hj
  · rw [matD_ent (by omega) hj, matD_ent hj hj, T.dg j hj]
    exact T.up i j (by omega) hij hj
theorem f33_step {k n i : Nat} {d d2 : D} {fr : Bool} {Z R V0 V1 G : List D} {zi : Int} {o5 o6 o7 : Option D} (nz : noLs Z = true) (sz : shrs Z = Z) (lz : Z.length = n) (za : atI Z (i : Int) = some (.int zi))
    (lc : lcL (turnL (.nm 7) (fun s => .ok true s) (evX (runD (tbOf defs) pr k) f33_x1).val) [7] Z [] [some d, some (.lst false Z), some (.bl fr), some (.lst true R), some (.int (i : Int)), o5, o6, none] = .ok (.lst true V0) [some d, some (.lst false Z), some (.bl fr), some (.lst true R), some (.int (i : Int)), o5, o6, none])
    (l0 : V0.length = n) (ix : ixN n (i : Int) = some i) (st : V0.set i (.int zi) = V1) (r2 : rngL [.int ((i : Int) + 1), .int (n : Int)] = some (rngD ((i : Int) + 1) 1 (n - (i + 1))))
    (e : forL (.nm 6) (evSs (runD (tbOf defs) pr k) f33_b2 [0]) (rngD ((i : Int) + 1) 1 (n - (i + 1))) [some d, some (.lst false Z), some (.bl fr), some (.lst true R), some (.int (i : Int)), some (.lst true V1), o6, none] = .nx [some d2, some (.lst false Z), some (.bl fr), some (.lst true R), some (.int (i : Int)), some (.lst true G), o7, none]) (ng : noLs G = true) (lR : R.length ≤ 16777215) :
    evSs (runD (tbOf defs) pr k) f33_b3 [0] [some d, some (.lst false Z), some (.bl fr), some (.lst true R), some (.int (i : Int)), o5, o6, none] = .nx [some d2, some (.lst false Z), some (.bl fr), some (.lst true (R ++ [.tup G])), some (.int (i : Int)), some (.lst true G), o7, none] := by
  simp [fillA, ioA, goneA, lentA, okA, putAll, wipeE, shrAll, ioOut, isPk, pk, isiD, own, owns, shr, shrs, noL, noLs, pln, plns, noIo, tgSlots, callI, lenOk_eq, f33_b3, nz, sz, giveR, lc, lz, za, l0, ix, st, r2, e, ng, lR]
section
variable {ns : List Int} (hl : ns.length ≤ 1000)
include hl
theorem filled_run {m : Nat} (hm : 5 ≤ m) {n : Nat} (n1 : 1 ≤ n) (n18 : n ≤ 18) {z : Nat → Int} (hz : ∀ t, t < n → 1 ≤ z t ∧ z t ≤ MOST') {free : Bool} {q : Nat} {d : D} (h : St ns q d) (hq : q ≤ 2 ^ 60) :
    ∃ (E : Nat → Nat → Int) (d' : D), runD (tbOf defs) pr m 33 [d, .lst false (vecD n z), .bl free] = .ok (scrD (matD n E)) [d'] ∧ St ns (q + 400) d' ∧ Tri n z E n := by
  obtain ⟨k, rfl⟩ : ∃ k, m = k + 1 := ⟨m - 1, by omega⟩
  rw [F33.run rfl]
  have ll : (evX (runD (tbOf defs) pr k) (.bi .len (.cons (.v 1 false) .nil))) = (evX (runD (tbOf defs) pr k) (.bi .len (.cons (.v 1 false) .nil))) := rfl
  have lz := vecD_len n z
  have nz := vecD_noL n z
  have sz := vecD_shr n z
  have r1 : rngL [.int (n : Int)] = some (rngD 0 1 n) := rngL_nat (by omega)
  have inner : ∀ i, i < n → ∀ (q : Nat) (d : D) (o6 : Option D) (rows : D), St ns q d → q ≤ 2 ^ 61 → ∃ rr, forL (.nm 6) (evSs (runD (tbOf defs) pr k) f33_b2 [0]) (rngD ((i : Int) + 1) 1 (n - (i + 1))) [some d, some (.lst false (vecD n z)), some (.bl free), some rows, some (.int (i : Int)), some (.lst true (vecD n fun t => if t = i then z i else 0)), o6, none] = rr ∧
      ∃ (g : Nat → Int) (d' : D) (o6 : Option D), rr = .nx [some d', some (.lst false (vecD n z)), some (.bl free), some rows, some (.int (i : Int)), some (.lst true (vecD n g)), o6, none] ∧ St ns (q + n) d' ∧ g i = z i ∧ (∀ t, t < i → g t = 0) ∧ ∀ t, i < t → t < n → 0 ≤ g t ∧ g t < z t := by
    intro i hi q d o6 rows hs hq
    refine forL_rng (fun j s => ∃ (g : Nat → Int) (d' : D) (o6 : Option D), s = [some d', some (.lst false (vecD n z)), some (.bl free), some rows, some (.int (i : Int)), some (.lst true (vecD n g)), o6, none] ∧ St ns (q + j) d' ∧ g i = z i ∧ (∀ t, t < i → g t = 0) ∧ ∀ t, i < t → t < n → 0 ≤ g t ∧ g t < z t) (fun rr => ∃ r', rr = r' ∧ ∃ (g : Nat → Int) (d' : D) (o6 : Option D), r' = .nx [some d', some (.lst false (vecD n z)), some (.bl free), some rows, some (.int (i : Int)), some (.lst true (vecD n g)), o6, none] ∧ St ns (q + n) d' ∧ g i = z i ∧ (∀ t, t < i → g t = 0) ∧ ∀ t, i < t → t < n → 0 ≤ g t ∧ g t < z t) ?_ ?_ _ ⟨fun t => if t = i then z i else 0, d, o6, rfl, hs, if_pos rfl, fun t ht => if_neg (by omega), fun t h1 h2 => ?_⟩
    · rintro s ⟨g, d', o6, rfl, hs, h1, h2, h3⟩
      exact ⟨_, rfl, g, d', o6, rfl, hs.mono (by omega), h1, h2, h3⟩
    · rintro j s hj ⟨g, d', o6, rfl, hs, h1, h2, h3⟩
      have e1 : (i : Int) + 1 + (j : Int) * 1 = ((i + 1 + j : Nat) : Int) := by omega
      generalize hp : i + 1 + j = p at e1
      have hpn : p < n := by omega
      cases free with
      | false =>
        refine ⟨_, .nx [some d', some (.lst false (vecD n z)), some (.bl false), some rows, some (.int (i : Int)), some (.lst true (vecD n g)), some (.int (p : Int)), none], rfl, ?_, g, d', _, rfl, hs.mono (by omega), h1, h2, h3⟩
        rw [e1]
        simp [fillA, ioA, goneA, lentA, okA, putAll, wipeE, shrAll, ioOut, isPk, pk, isiD, own, owns, shr, shrs, noL, noLs, pln, plns, noIo, tgSlots, callI, lenOk_eq, f33_b2]
      | true =>
        have zp := hz p hpn
        obtain ⟨y, d2, e2, s2, y0, y1⟩ := take18 hl (n := k) (by omega) hs (by omega) (many := z p) (by unfold MOST' at zp; omega)
        have za := vecD_at (f := z) hpn
        have ix := ixN_nat hpn
        have lg := vecD_len n g
        have st := vecD_set (f := g) (y := y) hpn
        refine ⟨_, .nx [some d2, some (.lst false (vecD n z)), some (.bl true), some rows, some (.int (i : Int)), some (.lst true (vecD n fun t => if t = p then y else g t)), some (.int (p : Int)), none], rfl, ?_, _, d2, _, rfl, s2, ?_, fun t ht => ?_, fun t h4 h5 => ?_⟩
        · rw [e1]
          simp [fillA, ioA, goneA, lentA, okA, putAll, wipeE, shrAll, ioOut, isPk, pk, isiD, own, owns, shr, shrs, noL, noLs, pln, plns, noIo, tgSlots, callI, lenOk_eq, f33_b2, za, e2, s2.own, lg, ix, st]
        · show (if i = p then y else g i) = z i
          rw [if_neg (by omega)]; exact h1
        · show (if t = p then y else g t) = 0
          rw [if_neg (by omega)]; exact h2 t ht
        · show 0 ≤ (if t = p then y else g t) ∧ (if t = p then y else g t) < z t
          by_cases e : t = p
          · rw [if_pos e, e]; omega
          · rw [if_neg e]; exact h3 t h4 h5
    · show 0 ≤ (if t = i then z i else 0) ∧ (if t = i then z i else 0) < z t
      rw [if_neg (by omega)]
      have := hz t h2
      omega
  have l : ∃ rr, forL (.nm 4) (evSs (runD (tbOf defs) pr k) f33_b3 [0]) (rngD 0 1 n) [some d, some (.lst false (vecD n z)), some (.bl free), some (.lst true []), none, none, none, none] = rr ∧
      ∃ (E : Nat → Nat → Int) (d' : D) (o4 o5 o6 : Option D), rr = .nx [some d', some (.lst false (vecD n z)), some (.bl free), some (.lst true ((List.range n).map fun a => .tup (vecD n (E a)))), o4, o5, o6, none] ∧ St ns (q + n * 19) d' ∧ Tri n z E n := by
    refine forL_rng (fun i s => ∃ (E : Nat → Nat → Int) (d' : D) (o4 o5 o6 : Option D), s = [some d', some (.lst false (vecD n z)), some (.bl free), some (.lst true ((List.range i).map fun a => .tup (vecD n (E a)))), o4, o5, o6, none] ∧ St ns (q + i * 19) d' ∧ Tri n z E i) (fun rr => ∃ r', rr = r' ∧ ∃ (E : Nat → Nat → Int) (d' : D) (o4 o5 o6 : Option D), r' = .nx [some d', some (.lst false (vecD n z)), some (.bl free), some (.lst true ((List.range n).map fun a => .tup (vecD n (E a)))), o4, o5, o6, none] ∧ St ns (q + n * 19) d' ∧ Tri n z E n) ?_ ?_ _ ⟨fun _ _ => 0, d, none, none, none, rfl, h, ⟨fun a ha => absurd ha (Nat.not_lt_zero _), fun a b ha => absurd ha (Nat.not_lt_zero _), fun a b ha => absurd ha (Nat.not_lt_zero _)⟩⟩
    · rintro s ⟨E, d', o4, o5, o6, rfl, hs, T⟩
      exact ⟨_, rfl, E, d', _, _, _, rfl, hs, T⟩
    · rintro i s hi ⟨E, d', o4, o5, o6, rfl, hs, T⟩
      have e1 : (0 : Int) + (i : Int) * 1 = (i : Int) := by omega
      obtain ⟨rr, e, g, d2, o6', rfl, s2, g1, g2, g3⟩ := inner i hi (q + i * 19) d' o6 (.lst true ((List.range i).map fun a => .tup (vecD n (E a)))) hs (by omega)
      have lc := fun o5 => lcL_map (turn := turnL (.nm 7) (fun s => .ok true s) (evX (runD (tbOf defs) pr k) f33_x1).val) (ws := [7]) (s := [some d', some (.lst false (vecD n z)), some (.bl free), some (.lst true ((List.range i).map fun a => .tup (vecD n (E a)))), some (.int (i : Int)), o5, o6, none]) (fun _ => .int 0) (vecD n z) [] (fun d hd => ⟨[some d', some (.lst false (vecD n z)), some (.bl free), some (.lst true ((List.range i).map fun a => .tup (vecD n (E a)))), some (.int (i : Int)), o5, o6, some d], by simp [fillA, ioA, goneA, lentA, okA, putAll, wipeE, shrAll, ioOut, isPk, pk, isiD, own, owns, shr, shrs, noL, noLs, pln, plns, noIo, tgSlots, callI, lenOk_eq, turnL, f33_x1], rfl⟩) (by rw [lenOk_eq, vecD_len, decide_eq_true_eq]; simp only [List.length_nil]; omega)
      have zz : (vecD n z).map (fun _ => D.int 0) = vecD n fun _ => 0 := by
        unfold vecD
        rw [List.map_map]
        rfl
      simp only [List.nil_append, zz] at lc
      have za := vecD_at (f := z) hi
      have ix := ixN_nat hi
      have l0 := vecD_len n fun _ => 0
      have st := vecD_set (f := fun _ => 0) (y := z i) hi
      have r2 : rngL [.int ((i : Int) + 1), .int (n : Int)] = some (rngD ((i : Int) + 1) 1 (n - (i + 1))) := by
        have e : (n : Int) - ((i : Int) + 1) = ((n - (i + 1) : Nat) : Int) := by omega
        rw [rngL_2 (Int.le_trans (by decide) (show (0 : Int) ≤ (i : Int) + 1 by omega)) (Int.lt_of_le_of_lt (show (i : Int) + 1 ≤ 1001 by omega) (by decide)) (Int.le_trans (by decide) (show (0 : Int) ≤ (n : Int) by omega)) (Int.lt_of_le_of_lt (show (n : Int) ≤ 1000 by omega) (by decide)), e, Int.toNat_natCast]
      have ng := vecD_noL n g
      have li : i ≤ 16777215 := by omega
      let E' : Nat → Nat → Int := fun a => if a = i then g else E a
      have ap : ((List.range i).map fun a => D.tup (vecD n (E a))) ++ [.tup (vecD n g)] = (List.range (i + 1)).map fun a => .tup (vecD n (E' a)) := by
        have h1 : ((List.range i).map fun a => D.tup (vecD n (E' a))) = (List.range i).map fun a => D.tup (vecD n (E a)) := List.map_congr_left fun a ha => by
          have := List.mem_range.mp ha
          show D.tup (vecD n (if a = i then g else E a)) = _
          rw [if_neg (by omega)]
        have h2 : E' i = g := if_pos rfl
        rw [List.range_succ, List.map_append, List.map_cons, List.map_nil, h1, h2]
      refine ⟨_, .nx [some d2, some (.lst false (vecD n z)), some (.bl free), some (.lst true ((List.range (i + 1)).map fun a => .tup (vecD n (E' a)))), some (.int (i : Int)), some (.lst true (vecD n g)), o6', none], rfl, ?_, E', d2, _, _, _, rfl, s2.mono (by omega), ⟨fun a ha => ?_, fun a b ha hb => ?_, fun a b ha hab hb => ?_⟩⟩
      · rw [e1]
        have lR : ((List.range i).map fun a => D.tup (vecD n (E a))).length ≤ 16777215 := by rw [List.length_map, List.length_range]; exact li
        rw [← ap]
        exact f33_step nz sz lz za (lc o5) l0 ix st r2 e ng lR
      · show (if a = i then g else E a) a = z a
        by_cases h : a = i
        · rw [if_pos h, h]; exact g1
        · rw [if_neg h]; exact T.dg a (by omega)
      · show (if a = i then g else E a) b = 0
        by_cases h : a = i
        · rw [if_pos h]; exact g2 b (by omega)
        · rw [if_neg h]; exact T.lo a b (by omega) hb
      · show 0 ≤ (if a = i then g else E a) b ∧ (if a = i then g else E a) b < z b
        by_cases h : a = i
        · rw [if_pos h]; exact g3 b (by omega) hb
        · rw [if_neg h]; exact T.up a b (by omega) hab hb
  obtain ⟨rr, e, E, d', o4, o5, o6, rfl, hs, T⟩ := l
  refine ⟨E, d', ?_, hs.mono (by omega), T⟩
  rw [matD_scr]
  have nl : noLs ((List.range n).map fun a => D.tup (vecD n (E a))) = true := by
    have := noLs_rows (matD n E)
    have e2 := matD_scr n E
    unfold scrD at e2
    rw [D.tup.inj e2] at this
    exact this
  simp [fillA, ioA, goneA, lentA, okA, putAll, wipeE, shrAll, ioOut, isPk, pk, isiD, own, owns, shr, shrs, noL, noLs, pln, plns, noIo, tgSlots, callI, lenOk_eq, f33F, lz, r1, e, nl]
end

end MP
set_option linter.all false
set_option maxRecDepth 100000
set_option maxHeartbeats 1000000
namespace MP
open PySem PySem.Spec PyProof.Rows L2
--import K01L8
theorem prodZ_pos {z : Nat → Int} : ∀ {n : Nat}, (∀ t, t < n → 1 ≤ z t) → 1 ≤ prodZ z n
  | 0, _ => Int.le_refl _
  | n + 1, h => by
    have h1 := prodZ_pos (z := z) (n := n) fun t ht => h t (by omega)
    have := Int.mul_le_mul h1 (h n (by omega)) (by decide) (by omega)
    show 1 ≤ prodZ z n * z n
    omega
theorem prodZ_congr {z y : Nat → Int} : ∀ {n : Nat}, (∀ t, t < n → z t = y t) → prodZ z n = prodZ y n
  | 0, _ => rfl
  | n + 1, h => by
    show prodZ z n * z n = prodZ y n * y n
    rw [prodZ_congr fun t ht => h t (by omega), h n (by omega)]
theorem prodZ_set {z : Nat → Int} {a : Nat} {s : Int} : ∀ {n : Nat}, a < n → prodZ (fun t => if t = a then s else z t) n * z a = prodZ z n * s
  | 0, h => absurd h (Nat.not_lt_zero _)
  | n + 1, h => by
    show prodZ (fun t => if t = a then s else z t) n * (if n = a then s else z n) * z a = prodZ z n * z n * s
    by_cases e : n = a
    · subst e
      rw [if_pos rfl, prodZ_congr (y := z) fun t ht => if_neg (by omega)]
      rw [Int.mul_assoc, Int.mul_assoc, Int.mul_comm s]
    · rw [if_neg e]
      have := prodZ_set (z := z) (a := a) (s := s) (n := n) (by omega)
      calc prodZ (fun t => if t = a then s else z t) n * z n * z a = prodZ (fun t => if t = a then s else z t) n * z a * z n := by rw [Int.mul_assoc, Int.mul_comm (z n), ← Int.mul_assoc]
        _ = prodZ z n * s * z n := by rw [this]
        _ = prodZ z n * z n * s := by rw [Int.mul_assoc, Int.mul_comm s, ← Int.mul_assoc]
theorem prodZ_le {z : Nat → Int} {n : Nat} (hz : ∀ t, t < n → 1 ≤ z t) : ∀ {a : Nat}, a < n → z a ≤ prodZ z n := by
  intro a ha
  have e := prodZ_set (z := z) (a := a) (s := 1) (n := n) ha
  have p : 1 ≤ prodZ (fun t => if t = a then 1 else z t) n := prodZ_pos fun t ht => by
    show 1 ≤ (if t = a then (1 : Int) else z t)
    split
    · exact Int.le_refl _
    · exact hz t ht
  have := Int.mul_le_mul p (Int.le_refl (z a)) (by have := hz a ha; omega) (by omega)
  omega
section
variable {ns : List Int} (hl : ns.length ≤ 1000)
include hl
theorem great_run {m : Nat} (hm : 6 ≤ m) {n : Nat} (n1 : 1 ≤ n) (n18 : n ≤ 18) {most : Int} (h1 : 1 ≤ most) (h2 : most ≤ MOST') {q : Nat} {d : D} (h : St ns q d) (hq : q ≤ 2 ^ 50) :
    ∃ (M : List (List Int)) (d' : D), runD (tbOf defs) pr m 34 [d, .int (n : Int), .int most] = .ok (scrD M) [d'] ∧ St ns (q + 1000) d' ∧ Scr n M := by
  obtain ⟨k, rfl⟩ : ∃ k, m = k + 1 := ⟨m - 1, by omega⟩
  rw [F34.run rfl]
  obtain ⟨f, d1, e1, s1, pf⟩ := order_run hl (m := k) (by omega) n1 n18 h (by omega)
  have o1 := s1.own
  have l : ∃ rr, forL (.nm 5) (evSs (runD (tbOf defs) pr k) f34_b2 [0]) (vecD n f) [some d1, some (.int (n : Int)), none, some (.lst true (vecD n fun _ => 1)), some (.int most), none, none] = rr ∧
      ∃ (z : Nat → Int) (room : Int) (d' : D) (o5 : Option D), rr = .nx [some d', some (.int (n : Int)), none, some (.lst true (vecD n z)), some (.int room), o5, none] ∧ St ns (q + 40 + n * 3) d' ∧ (∀ t, t < n → 1 ≤ z t) ∧ 1 ≤ room ∧ prodZ z n * room ≤ most := by
    refine forL_rule (fun ds s => ∃ (q' : Nat) (z : Nat → Int) (room : Int) (d' : D) (o5 : Option D), s = [some d', some (.int (n : Int)), none, some (.lst true (vecD n z)), some (.int room), o5, none] ∧ St ns q' d' ∧ q' + 3 * ds.length ≤ q + 40 + n * 3 ∧ (∀ d ∈ ds, ∃ a : Nat, d = .int (a : Int) ∧ a < n) ∧ (∀ t, t < n → 1 ≤ z t) ∧ 1 ≤ room ∧ prodZ z n * room ≤ most) (fun rr => ∃ r', rr = r' ∧ ∃ (z : Nat → Int) (room : Int) (d' : D) (o5 : Option D), r' = .nx [some d', some (.int (n : Int)), none, some (.lst true (vecD n z)), some (.int room), o5, none] ∧ St ns (q + 40 + n * 3) d' ∧ (∀ t, t < n → 1 ≤ z t) ∧ 1 ≤ room ∧ prodZ z n * room ≤ most) ?_ ?_ _ _ ⟨q + 40, fun _ => 1, most, d1, none, rfl, s1, by rw [vecD_len]; omega, fun d hd => ?_, fun t _ => Int.le_refl _, h1, ?_⟩
    · rintro s ⟨q', z, room, d', o5, rfl, hs, hle, _, hz, hr, hp⟩
      exact ⟨_, rfl, z, room, d', o5, rfl, hs.mono (by simpa using hle), hz, hr, hp⟩
    · rintro y ds s ⟨q', z, room, d', o5, rfl, hs, hle, hds, hz, hr, hp⟩
      simp only [List.length_cons] at hle
      obtain ⟨a, rfl, ha⟩ := hds y (.head _)
      obtain ⟨b, d2, e2, s2⟩ := rare21 hl (n := k) (by omega) hs (by omega) (many := 2) (by decide)
      have rm : room ≤ most := by
        have p := prodZ_pos hz
        have := Int.mul_le_mul p (Int.le_refl room) (by omega) (by omega)
        omega
      by_cases g : b = true ∨ a = 0
      · have mx : (if (1 : Int) < room then room else 1) = room := by split <;> omega
        obtain ⟨v, d3, e3, s3, v0, v1⟩ := count_run hl (n := k) (by omega) s2 (by omega) (most := room) hr (by omega)
        have ix := ixN_nat ha
        have lz := vecD_len n z
        have st := vecD_set (f := z) (y := v) ha
        have av := vecD_at (f := fun t => if t = a then v else z t) ha
        simp only [if_true] at av
        have dv : divOk v = true := divOk_of 210 (by omega) (by unfold MOST' at h2; omega)
        have r1 : 1 ≤ room / v := by
          rw [Int.le_ediv_iff_mul_le (by omega)]
          omega
        refine ⟨_, .nx [some d3, some (.int (n : Int)), none, some (.lst true (vecD n fun t => if t = a then v else z t)), some (.int (room / v)), some (.int (a : Int)), none], rfl, ?_, q' + 3, _, _, d3, _, rfl, s3.mono (by omega), by omega, fun d hd => hds d (.tail _ hd), fun t ht => ?_, r1, ?_⟩
        · have o2 := s2.own
          have o3 := s3.own
          cases b with
          | true => simp [fillA, ioA, goneA, lentA, okA, putAll, wipeE, shrAll, ioOut, isPk, pk, isiD, own, owns, shr, shrs, noL, noLs, pln, plns, noIo, tgSlots, callI, lenOk_eq, f34_b2, e2, o2, mx, e3, o3, lz, ix, st, av, dv]
          | false =>
            have a0 : a = 0 := by rcases g with h | h; cases h; exact h
            subst a0
            rw [Int.natCast_zero] at ix av
            simp [fillA, ioA, goneA, lentA, okA, putAll, wipeE, shrAll, ioOut, isPk, pk, isiD, own, owns, shr, shrs, noL, noLs, pln, plns, noIo, tgSlots, callI, lenOk_eq, f34_b2, e2, o2, mx, e3, o3, lz, ix, st, av, dv]
        · show 1 ≤ (if t = a then v else z t)
          split
          · exact v0
          · exact hz t ht
        · have e := prodZ_set (z := z) (a := a) (s := v) (n := n) ha
          have pz : 1 ≤ prodZ (fun t => if t = a then v else z t) n := prodZ_pos fun t ht => by
            show 1 ≤ (if t = a then v else z t)
            split
            · exact v0
            · exact hz t ht
          have za := hz a ha
          have p1 := Int.mul_le_mul (Int.le_refl (prodZ (fun t => if t = a then v else z t) n)) za (by decide) (by omega)
          rw [Int.mul_one, e] at p1
          have p2 := Int.mul_le_mul p1 (Int.le_refl (room / v)) (by omega) (by have := prodZ_pos hz; have := Int.mul_le_mul this v0 (by decide) (by omega); omega)
          have p3 : prodZ z n * v * (room / v) = prodZ z n * (v * (room / v)) := Int.mul_assoc _ _ _
          have p4 : v * (room / v) ≤ room := Int.mul_ediv_self_le (by omega)
          have p5 := Int.mul_le_mul (Int.le_refl (prodZ z n)) p4 (Int.mul_nonneg (by omega) (by omega)) (by have := prodZ_pos hz; omega)
          omega
      · have b0 : b = false := by cases b; rfl; exact absurd (.inl rfl) g
        have a0 : a ≠ 0 := fun h => g (.inr h)
        subst b0
        refine ⟨_, .nx [some d2, some (.int (n : Int)), none, some (.lst true (vecD n z)), some (.int room), some (.int (a : Int)), none], rfl, ?_, q' + 1, z, room, d2, _, rfl, s2, by omega, fun d hd => hds d (.tail _ hd), hz, hr, hp⟩
        simp [fillA, ioA, goneA, lentA, okA, putAll, wipeE, shrAll, ioOut, isPk, pk, isiD, own, owns, shr, shrs, noL, noLs, pln, plns, noIo, tgSlots, callI, lenOk_eq, f34_b2, e2, s2.own, a0]
    · unfold vecD at hd
      obtain ⟨t, ht, rfl⟩ := List.mem_map.mp hd
      have := pf t (List.mem_range.mp ht)
      exact ⟨(f t).toNat, by rw [Int.toNat_of_nonneg this.1], by omega⟩
    · have : prodZ (fun _ => 1) n = 1 := by
        clear hl h1 h2 h hq e1 s1 o1 pf n1 n18
        induction n with
        | zero => rfl
        | succ n ih => show prodZ (fun _ => 1) n * 1 = 1; rw [ih]; rfl
      rw [this, Int.one_mul]
      exact Int.le_refl _
  obtain ⟨rr, e, z, room, d', o5, rfl, hs, hz, hr, hp⟩ := l
  obtain ⟨b, d2, e2, s2⟩ := rare21 hl (n := k) (by omega) hs (by omega) (many := 4) (by decide)
  have pn : prodZ z n ≤ MOST' := by
    have := Int.mul_le_mul (Int.le_refl (prodZ z n)) hr (by decide) (by have := prodZ_pos hz; omega)
    omega
  have hz2 : ∀ t, t < n → 1 ≤ z t ∧ z t ≤ MOST' := fun t ht => ⟨hz t ht, by have := prodZ_le hz ht; omega⟩
  obtain ⟨E, d3, e3, s3, T⟩ := filled_run hl (m := k) (by omega) n1 n18 hz2 (free := !b) s2 (by omega)
  refine ⟨matD n E, d3, ?_, s3.mono (by omega), tri_scr n1 n18 hz pn T⟩
  have lc := lcL_map (turn := turnL (.nm 6) (fun s => .ok true s) (evX (runD (tbOf defs) pr k) f34_x1).val) (ws := [6]) (s := [some d, some (.int (n : Int)), some (.int most), none, none, none, none]) (fun _ => .int 1) (rngD 0 1 n) [] (fun x hx => ⟨[some d, some (.int (n : Int)), some (.int most), none, none, none, some x], by simp [fillA, ioA, goneA, lentA, okA, putAll, wipeE, shrAll, ioOut, isPk, pk, isiD, own, owns, shr, shrs, noL, noLs, pln, plns, noIo, tgSlots, callI, lenOk_eq, turnL, f34_x1], rfl⟩) (by rw [lenOk_eq, rngD_len, decide_eq_true_eq]; simp only [List.length_nil]; omega)
  have zz : (rngD 0 1 n).map (fun _ => D.int 1) = vecD n fun _ => 1 := by
    unfold vecD rngD
    rw [List.map_map]
    rfl
  rw [List.nil_append, zz] at lc
  have r1 : rngL [.int (n : Int)] = some (rngD 0 1 n) := rngL_nat (by omega)
  have sf := vecD_shr n f
  have sz := vecD_shr n z
  have os : own (scrD (matD n E)) = true := by
    have := noL_id (scrD (matD n E)) (noL_scr _)
    rw [shr_scr] at this
    rw [← this]
    exact own_fresh _
  simp [fillA, ioA, goneA, lentA, okA, putAll, wipeE, shrAll, ioOut, isPk, pk, isiD, own, owns, shr, shrs, noL, noLs, pln, plns, noIo, tgSlots, callI, lenOk_eq, f34F, r1, giveR, lc, e1, o1, sf, e, e2, s2.own, sz, e3, s3.own, os]
end

end MP
set_option linter.all false
set_option maxRecDepth 100000
set_option maxHeartbeats 1000000
namespace MP
open PySem PySem.Spec PyProof.Rows L2
--import K01L9
section
variable {ns : List Int}
theorem lc_draw {turn : D → Env → R (Option D)} {ws : List Nat} {mk : D → Env} {P : D → Prop} {c M : Nat} (step : ∀ it d m, St ns m d → m + c ≤ M → ∃ y d' s1, turn it (mk d) = .ok (some y) s1 ∧ wipeE s1 ws = mk d' ∧ St ns (m + c) d' ∧ P y) :
    ∀ (ds : List D) (m : Nat) (d : D) (acc : List D), St ns m d → m + c * ds.length ≤ M → acc.length + ds.length ≤ 1000 → ∃ ys d', lcL turn ws ds acc (mk d) = .ok (.lst true (acc ++ ys)) (mk d') ∧ St ns (m + c * ds.length) d' ∧ ys.length = ds.length ∧ ∀ y ∈ ys, P y
  | [], m, d, acc, h, _, _ => ⟨[], d, by simp [lcL], by simpa using h, rfl, fun _ h => nomatch h⟩
  | x :: ds, m, d, acc, h, hm, ha => by
    simp only [List.length_cons, Nat.mul_succ] at hm ha ⊢
    obtain ⟨y, d1, s1, e, w, h1, hp⟩ := step x d m h (by omega)
    obtain ⟨ys, d2, e2, h2, hl, hp2⟩ := lc_draw step ds (m + c) d1 (acc ++ [y]) h1 (by omega) (by simp only [List.length_append, List.length_cons, List.length_nil]; omega)
    refine ⟨y :: ys, d2, ?_, h2.mono (by omega), by simp only [List.length_cons, hl], fun z hz => ?_⟩
    · have l : lenOk (acc.length + 1) = true := by rw [lenOk_eq, decide_eq_true_eq]; omega
      simp only [lcL, e, l, if_true, w, e2, List.append_assoc, List.singleton_append]
    · rcases List.mem_cons.mp hz with rfl | hz
      · exact hp
      · exact hp2 z hz
end
theorem lcL_rng {turn : D → Env → R (Option D)} {ws : List Nat} {lo c : Int} {n : Nat} (I : Nat → List D → Env → Prop) (Q : R D → Prop) (nil : ∀ acc s, I n acc s → Q (.ok (.lst true acc) s))
    (step : ∀ j acc s, j < n → I j acc s → ∃ y s1, turn (.int (lo + (j : Int) * c)) s = .ok (some y) s1 ∧ lenOk (acc.length + 1) = true ∧ I (j + 1) (acc ++ [y]) (wipeE s1 ws)) (s : Env) (h : I 0 [] s) : Q (lcL turn ws (rngD lo c n) [] s) := by
  refine lcL_rule (fun ds acc s => ∃ j, j ≤ n ∧ ds = ((List.range n).drop j).map (fun (k : Nat) => D.int (lo + (k : Int) * c)) ∧ I j acc s) Q ?_ ?_ _ _ _ ⟨0, Nat.zero_le _, rfl, h⟩
  · rintro acc s ⟨j, hj, e, hi⟩
    have : j = n := by
      have := congrArg List.length e
      simp only [List.length_nil, List.length_map, List.length_drop, List.length_range] at this
      omega
    exact nil acc s (this ▸ hi)
  · rintro d ds acc s ⟨j, hj, e, hi⟩
    have hlt : j < n := by
      have := congrArg List.length e
      simp only [List.length_cons, List.length_map, List.length_drop, List.length_range] at this
      omega
    have e2 : (List.range n).drop j = j :: (List.range n).drop (j + 1) := by
      rw [List.drop_eq_getElem_cons (by rw [List.length_range]; exact hlt), List.getElem_range]
    rw [e2, List.map_cons] at e
    obtain ⟨rfl, rfl⟩ := List.cons.inj e
    obtain ⟨y, s1, h1, h2, h3⟩ := step j acc s hlt hi
    rw [h1]
    exact ⟨h2, j + 1, hlt, rfl, h3⟩
theorem ints_vec {P : Int → Prop} : ∀ ys : List D, (∀ y ∈ ys, ∃ v : Int, y = .int v ∧ P v) → ∃ w : Nat → Int, ys = vecD ys.length w ∧ ∀ t, t < ys.length → P (w t) := by
  have go : ∀ ys : List D, (∀ y ∈ ys, ∃ v : Int, y = .int v ∧ P v) → ∃ r : List Int, ys = r.map .int ∧ ∀ v ∈ r, P v := by
    intro ys
    induction ys with
    | nil => exact fun _ => ⟨[], rfl, fun _ h => nomatch h⟩
    | cons y ys ih =>
      intro h
      obtain ⟨v, rfl, hv⟩ := h y (.head _)
      obtain ⟨r, rfl, hr⟩ := ih fun z hz => h z (.tail _ hz)
      refine ⟨v :: r, rfl, fun u hu => ?_⟩
      rcases List.mem_cons.mp hu with rfl | hu
      · exact hv
      · exact hr u hu
  intro ys h
  obtain ⟨r, rfl, hr⟩ := go ys h
  refine ⟨fun t => r.getD t 0, by rw [List.length_map]; exact list_vec r, fun t ht => ?_⟩
  rw [List.length_map] at ht
  show P (r.getD t 0)
  rw [List.getD_eq_getElem?_getD, List.getElem?_eq_getElem ht]
  exact hr _ (List.getElem_mem ht)
theorem tints_map (f : Nat → Int) : ∀ l : List Nat, tints (l.map fun t => D.int (f t)) = some (l.map f)
  | [] => rfl
  | t :: l => by simp only [List.map_cons, tints, tints_map f l, Option.map_some]
theorem max_vec {n : Nat} (n1 : 1 ≤ n) (f : Nat → Int) : ∃ mx, (tints (vecD n f)).bind maxI = some mx ∧ (∀ t, t < n → f t ≤ mx) ∧ ∃ t, t < n ∧ mx = f t := by
  unfold vecD
  rw [tints_map, Option.bind_some]
  obtain ⟨m, rfl⟩ : ∃ m, n = m + 1 := ⟨n - 1, by omega⟩
  rw [List.range_succ_eq_map, List.map_cons]
  obtain ⟨h1, h2, h3⟩ := foldl_max (((List.range m).map Nat.succ).map f) (f 0)
  refine ⟨_, rfl, fun t ht => ?_, ?_⟩
  · cases t with
    | zero => exact h1
    | succ t => exact h2 _ (List.mem_map.mpr ⟨t + 1, List.mem_map.mpr ⟨t, List.mem_range.mpr (by omega), rfl⟩, rfl⟩)
  · rcases h3 with h3 | h3
    · exact ⟨0, by omega, h3⟩
    · obtain ⟨u, hu, e⟩ := List.mem_map.mp h3
      obtain ⟨t, ht, rfl⟩ := List.mem_map.mp hu
      exact ⟨t + 1, by have := List.mem_range.mp ht; omega, e.symm⟩
def absI (i : Int) : Int := if i < 0 then -i else i
/-- the greatest entry without its sign, by a comprehension -/
theorem abs_lc {k n : Nat} (n18 : n ≤ 18) {X1 : X} (hX : X1 = f45_x2 ∨ X1 = f45_x3) {f : Nat → Int} {e0 e1 e2 e3 e4 e5 e6 : Option D} :
    lcL (turnL (.nm 7) (fun s => .ok true s) (evX (runD (tbOf defs) pr k) X1).val) [7] (vecD n f) [] [e0, e1, e2, e3, e4, e5, e6, none] = .ok (.lst true (vecD n fun t => absI (f t))) [e0, e1, e2, e3, e4, e5, e6, none] := by
  have lc := lcL_map (turn := turnL (.nm 7) (fun s => .ok true s) (evX (runD (tbOf defs) pr k) X1).val) (ws := [7]) (s := [e0, e1, e2, e3, e4, e5, e6, none]) (fun d => match d with
    | .int i => .int (absI i)
    | _ => .non) (vecD n f) [] (fun d hd => by
    unfold vecD at hd
    obtain ⟨t, ht, rfl⟩ := List.mem_map.mp hd
    refine ⟨[e0, e1, e2, e3, e4, e5, e6, some (.int (f t))], ?_, rfl⟩
    rcases hX with rfl | rfl <;> simp [fillA, ioA, goneA, lentA, okA, putAll, wipeE, shrAll, ioOut, isPk, pk, isiD, own, owns, shr, shrs, noL, noLs, pln, plns, noIo, tgSlots, callI, lenOk_eq, turnL, f45_x2, f45_x3, absI]) (by rw [lenOk_eq, vecD_len, decide_eq_true_eq]; simp only [List.length_nil]; omega)
  rw [lc, List.nil_append]
  unfold vecD
  rw [List.map_map]
  rfl
section
variable {ns : List Int} (hl : ns.length ≤ 1000) {n : Nat} {M : List (List Int)} (S : Scr n M)
include hl S
/-- weights whose sum is a cell -/
theorem weights_run {m : Nat} (hm : 6 ≤ m) {q : Nat} {d : D} (h : St ns q d) (hq : q ≤ 2 ^ 50) : ∃ (w : Nat → Int) (d' : D), runD (tbOf defs) pr m 45 [d, scrD M] = .ok (.lst true (vecD n w)) [d'] ∧ St ns (q + 60) d' ∧ (∀ t, t < n → (w t).natAbs ≤ 10 ^ 60) ∧ ∀ t, t < n → (sumL (fun i => w i * ent M i t) n).natAbs ≤ 10 ^ 60 := by
  obtain ⟨k, rfl⟩ : ∃ k, m = k + 1 := ⟨m - 1, by omega⟩
  rw [F45.run rfl]
  have n1 := S.n1
  have n18 := S.n18
  have hM := S.len
  have sr := shrs_rows M
  have nr := noLs_rows M
  obtain ⟨ys, d1, el, s1, hy, hp⟩ := lc_draw (ns := ns) (turn := turnL (.nm 5) (fun s => .ok true s) (evX (runD (tbOf defs) pr k) f45_x1).val) (ws := [5]) (mk := fun d => [some d, some (scrD M), none, none, none, none, none, none]) (P := fun y => ∃ v : Int, y = .int v ∧ v.natAbs ≤ 3) (c := 1) (M := 2 ^ 60) (fun it d m h hm => by
    obtain ⟨v, d', e, hs, h1, h2⟩ := from19 hl (n := k) (by omega) h (by omega) (lo := -3) (hi := 3) (by decide) (by decide)
    refine ⟨_, d', [some d', some (scrD M), none, none, none, some it, none, none], ?_, rfl, hs, ⟨v, rfl, by have := h2 (by decide); omega⟩⟩
    simp [fillA, ioA, goneA, lentA, okA, putAll, wipeE, shrAll, ioOut, isPk, pk, isiD, own, owns, shr, shrs, noL, noLs, pln, plns, noIo, tgSlots, callI, lenOk_eq, turnL, f45_x1, e, hs.own]) (M.map rowD) q d [] h (by rw [List.length_map, hM]; omega) (by rw [List.length_map, hM]; simp only [List.length_nil]; omega)
  obtain ⟨w, e, hw⟩ := ints_vec ys hp
  rw [List.length_map, hM] at hy s1
  rw [hy] at e hw
  subst e
  rw [List.nil_append] at el
  have sm := sum_run S (m := k) (by omega) (w := w) (fun t ht => by have := hw t ht; omega)
  have ab := fun (X1 : X) (hX : X1 = f45_x2 ∨ X1 = f45_x3) (f : Nat → Int) (e0 e1 e2 e3 e4 e5 e6 : Option D) => abs_lc (k := k) (n := n) n18 (X1 := X1) hX (f := f) (e0 := e0) (e1 := e1) (e2 := e2) (e3 := e3) (e4 := e4) (e5 := e5) (e6 := e6)
  have ab2 := ab f45_x2 (.inl rfl)
  have ab3 := ab f45_x3 (.inr rfl)
  obtain ⟨mx, em, hmx, tm, htm, emx⟩ := max_vec n1 fun t => absI (sumL (fun i => w i * ent M i t) n)
  obtain ⟨b, d2, e2, s2⟩ := rare21 hl (n := k) (by omega) s1 (by omega) (many := 3) (by decide)
  have o1 := s1.own
  have o2 := s2.own
  have lsn : (M.map rowD).length = n := by rw [List.length_map]; exact hM
  have sw := vecD_shr n w
  by_cases g : b = true ∨ 1000000000000000000000000000000000000000000000000000000000000 < mx
  · obtain ⟨a, d3, e3, s3, a0, a1⟩ := take18 hl (n := k) (by omega) s2 (by omega) (many := (n : Int)) (by omega)
    obtain ⟨a, rfl⟩ : ∃ b : Nat, a = (b : Int) := ⟨a.toNat, by omega⟩
    have ha : a < n := by omega
    have o3 := s3.own
    have ra := scr_row S ha
    obtain ⟨my, emy, hmy, ty, hty, ey⟩ := max_vec n1 fun t => absI (ent M a t)
    have my1 : 1 ≤ my := by
      have h1 := hmy a ha
      have h2 := S.diag a ha
      have h3 : absI (ent M a a) = ent M a a := if_neg (by omega)
      rw [h3] at h1
      omega
    have my2 : my.natAbs < 2 ^ 210 := by
      have h1 := ent_b S ha hty
      have h3 : absI (ent M a ty) = ent M a ty := if_neg (by omega)
      rw [h3] at ey
      have := e_small S ha hty
      omega
    have dv : divOk my = true := divOk_of 210 (by omega) my2
    obtain ⟨ms, hms⟩ : ∃ ms : Int, ms = 1000000000000000000000000000000000000000000000000000000000000 / my := ⟨_, rfl⟩
    have ms0 : 0 ≤ ms := by rw [hms]; exact Int.ediv_nonneg (by decide) (by omega)
    have ms1 : my * ms ≤ 1000000000000000000000000000000000000000000000000000000000000 := by rw [hms]; exact Int.mul_ediv_self_le (by omega)
    have ms2 : ms ≤ 1000000000000000000000000000000000000000000000000000000000000 := by
      have := Int.mul_le_mul my1 (Int.le_refl ms) ms0 (by omega)
      omega
    have na := vecD_noL n (ent M a)
    have l : ∃ rr, lcL (turnL (.nm 6) (fun s => .ok true s) (evX (runD (tbOf defs) pr k) f45_x4).val) [6] (rngD 0 1 n) [] [some d3, some (scrD M), some (.lst true (vecD n w)), some (.int (a : Int)), some (.int ms), none, none, none] = rr ∧ ∃ (u : Nat → Int) (d' : D), rr = .ok (.lst true (vecD n u)) [some d', some (scrD M), some (.lst true (vecD n w)), some (.int (a : Int)), some (.int ms), none, none, none] ∧ St ns (q + n + 2 + n) d' ∧ ∀ t, t < n → (t ≠ a → u t = 0) ∧ (u t).natAbs ≤ ms.toNat := by
      refine lcL_rng (fun j acc s => ∃ (u : Nat → Int) (d' : D), acc = vecD j u ∧ s = [some d', some (scrD M), some (.lst true (vecD n w)), some (.int (a : Int)), some (.int ms), none, none, none] ∧ St ns (q + n + 2 + j) d' ∧ ∀ t, t < j → (t ≠ a → u t = 0) ∧ (u t).natAbs ≤ ms.toNat) (fun rr => ∃ r', rr = r' ∧ ∃ (u : Nat → Int) (d' : D), r' = .ok (.lst true (vecD n u)) [some d', some (scrD M), some (.lst true (vecD n w)), some (.int (a : Int)), some (.int ms), none, none, none] ∧ St ns (q + n + 2 + n) d' ∧ ∀ t, t < n → (t ≠ a → u t = 0) ∧ (u t).natAbs ≤ ms.toNat) ?_ ?_ _ ⟨fun _ => 0, d3, rfl, rfl, s3.mono (by omega), fun t ht => absurd ht (Nat.not_lt_zero _)⟩
      · rintro acc s ⟨u, d', rfl, rfl, hs, hu⟩
        exact ⟨_, rfl, u, d', rfl, hs, hu⟩
      · rintro j acc s hj ⟨u, d', rfl, rfl, hs, hu⟩
        have c1 : (0 : Int) + (j : Int) * 1 = (j : Int) := by omega
        have lo : lenOk ((vecD j u).length + 1) = true := by rw [lenOk_eq, vecD_len, decide_eq_true_eq]; omega
        have ap : ∀ y, vecD j u ++ [D.int y] = vecD (j + 1) fun t => if t = j then y else u t := fun y => by
          have h1 : vecD j u = vecD j fun t => if t = j then y else u t := vecD_congr fun t ht => by rw [if_neg (by omega)]
          rw [h1]
          unfold vecD
          rw [List.range_succ, List.map_append]
          simp only [List.map_cons, List.map_nil, if_true]
        by_cases e : j = a
        · subst e
          obtain ⟨v, d4, e4, s4, v0, v1⟩ := from19 hl (n := k) (by omega) hs (by omega) (lo := -ms) (hi := ms) (by omega) (by omega)
          refine ⟨.int v, [some d4, some (scrD M), some (.lst true (vecD n w)), some (.int (j : Int)), some (.int ms), none, some (.int (j : Int)), none], ?_, lo, fun t => if t = j then v else u t, d4, ap v, rfl, s4.mono (by omega), fun t ht => ?_⟩
          · rw [c1]
            simp [fillA, ioA, goneA, lentA, okA, putAll, wipeE, shrAll, ioOut, isPk, pk, isiD, own, owns, shr, shrs, noL, noLs, pln, plns, noIo, tgSlots, callI, lenOk_eq, turnL, f45_x4, e4, s4.own]
          · show (t ≠ j → (if t = j then v else u t) = 0) ∧ (if t = j then v else u t).natAbs ≤ ms.toNat
            have := v1 (by omega)
            by_cases h : t = j
            · rw [if_pos h]
              exact ⟨fun h2 => absurd h h2, by omega⟩
            · rw [if_neg h]
              exact hu t (by omega)
        · have ne : ((j : Int) = (a : Int)) = False := eq_false (by omega)
          refine ⟨.int 0, [some d', some (scrD M), some (.lst true (vecD n w)), some (.int (a : Int)), some (.int ms), none, some (.int (j : Int)), none], ?_, lo, fun t => if t = j then 0 else u t, d', ap 0, rfl, hs.mono (by omega), fun t ht => ?_⟩
          · rw [c1]
            simp [fillA, ioA, goneA, lentA, okA, putAll, wipeE, shrAll, ioOut, isPk, pk, isiD, own, owns, shr, shrs, noL, noLs, pln, plns, noIo, tgSlots, callI, lenOk_eq, turnL, f45_x4, ne, e]
          · show (t ≠ a → (if t = j then 0 else u t) = 0) ∧ (if t = j then 0 else u t).natAbs ≤ ms.toNat
            by_cases h : t = j
            · rw [if_pos h]
              exact ⟨fun _ => rfl, by simp⟩
            · rw [if_neg h]
              exact hu t (by omega)
    obtain ⟨rr, e4, u, d4, rfl, s4, hu⟩ := l
    refine ⟨u, d4, ?_, s4.mono (by omega), fun t ht => by have := (hu t ht).2; omega, fun t ht => ?_⟩
    · have r1 : rngL [.int (n : Int)] = some (rngD 0 1 n) := rngL_nat (by omega)
      have su := vecD_shr n u
      have ou := vecD_own n u
      have ab2' := ab2 (fun t => sumL (fun i => w i * ent M i t) n)
      have ab3' := ab3 (ent M a)
      cases b with
      | true =>
        simp only [scrD] at *
        simp [fillA, ioA, goneA, lentA, okA, putAll, wipeE, shrAll, ioOut, isPk, pk, isiD, own, owns, shr, shrs, noL, noLs, pln, plns, noIo, tgSlots, callI, lenOk_eq, f45F, vecD_shr, vecD_own, vecD_noL, sr, nr, giveR, el, sm, ab2', em, e2, o1, o2, lsn, hM, e3, o3, ra, na, ab3', emy, dv, ← hms, p10_60, v10_60, r1, e4, s4.own, sw, su, ou]
      | false =>
        have gt : (1000000000000000000000000000000000000000000000000000000000000 < mx) = True := eq_true (by rcases g with g | g; cases g; exact g)
        simp only [scrD] at *
        simp [fillA, ioA, goneA, lentA, okA, putAll, wipeE, shrAll, ioOut, isPk, pk, isiD, own, owns, shr, shrs, noL, noLs, pln, plns, noIo, tgSlots, callI, lenOk_eq, f45F, vecD_shr, vecD_own, vecD_noL, sr, nr, giveR, el, sm, ab2', em, gt, e2, o1, o2, lsn, hM, e3, o3, ra, na, ab3', emy, dv, ← hms, p10_60, v10_60, r1, e4, s4.own, sw, su, ou]
    · have one : sumL (fun i => u i * ent M i t) n = u a * ent M a t := by
        have z : ∀ m, m ≤ n → sumL (fun i => u i * ent M i t) m = if a < m then u a * ent M a t else 0 := by
          intro m
          induction m with
          | zero => exact fun _ => rfl
          | succ m ih =>
            intro hm
            show sumL (fun i => u i * ent M i t) m + u m * ent M m t = _
            rw [ih (by omega)]
            by_cases h : m = a
            · subst h
              rw [if_neg (by omega), if_pos (by omega)]
              omega
            · rw [(hu m (by omega)).1 h, Int.zero_mul]
              by_cases h2 : a < m
              · rw [if_pos h2, if_pos (by omega)]; omega
              · rw [if_neg h2, if_neg (by omega)]; rfl
        rw [z n (Nat.le_refl _), if_pos ha]
      rw [one, Int.natAbs_mul]
      have h1 := (hu a ha).2
      have h2 : (ent M a t).natAbs ≤ my.toNat := by
        have h := hmy t ht
        have h5 := ent_b S ha ht
        have h3 : absI (ent M a t) = ent M a t := if_neg (by omega)
        rw [h3] at h
        omega
      have h3 := Nat.mul_le_mul h1 h2
      have h4 : (my * ms).toNat = my.toNat * ms.toNat := Int.toNat_mul (by omega) ms0
      rw [Nat.mul_comm ms.toNat] at h3
      omega
  · have b0 : b = false := by cases b; rfl; exact absurd (.inl rfl) g
    have gt : (1000000000000000000000000000000000000000000000000000000000000 < mx) = False := eq_false fun h => g (.inr h)
    subst b0
    refine ⟨w, d2, ?_, s2.mono (by omega), fun t ht => by have := hw t ht; omega, fun t ht => ?_⟩
    · have ow := vecD_own n w
      have ab2' := ab2 (fun t => sumL (fun i => w i * ent M i t) n)
      simp only [scrD] at *
      simp [fillA, ioA, goneA, lentA, okA, putAll, wipeE, shrAll, ioOut, isPk, pk, isiD, own, owns, shr, shrs, noL, noLs, pln, plns, noIo, tgSlots, callI, lenOk_eq, f45F, vecD_shr, vecD_own, vecD_noL, sr, nr, giveR, el, sm, ab2', em, gt, e2, o1, o2, p10_60, v10_60, sw, ow]
    · have h1 := hmx t ht
      have h2 : ¬ 1000000000000000000000000000000000000000000000000000000000000 < mx := fun h => g (.inr h)
      unfold absI at h1
      split at h1 <;> omega
end

end MP
set_option linter.all false
set_option maxRecDepth 100000
set_option maxHeartbeats 1000000
namespace MP
open PySem PySem.Spec PyProof.Rows L2
--import K01L10
/-! odd values -/
theorem bnds {d w : Nat} : ∀ xs : List D, (∀ x ∈ xs, fine x = true ∧ dep x ≤ d ∧ wt x ≤ w) → fines xs = true ∧ deps xs ≤ d ∧ wts xs ≤ (w + 2) * xs.length
  | [], _ => ⟨rfl, Nat.zero_le _, Nat.zero_le _⟩
  | x :: xs, h => by
    obtain ⟨h1, h2, h3⟩ := bnds xs fun y hy => h y (.tail _ hy)
    obtain ⟨g1, g2, g3⟩ := h x (.head _)
    refine ⟨by simp only [fines, g1, h1, Bool.and_self], by simp only [deps]; omega, by simp only [wts, List.length_cons, Nat.mul_succ]; omega⟩
/-- an entry -/
def E1 (e : D) : Prop := fine e = true ∧ dep e ≤ 1 ∧ wt e ≤ 1927 ∧ noL e = true
/-- a row -/
def R1 (r : D) : Prop := fine r = true ∧ dep r ≤ 2 ∧ wt r ≤ 36655 ∧ ∀ es, r = .tup es → noLs es = true
/-- what may stand for a screen -/
def Big (v : D) : Prop := fine v = true ∧ dep v ≤ 4 ∧ wt v ≤ 700000 ∧ flat2 v
theorem row_bnds {es : List D} (hl : es.length ≤ 19) (h : ∀ e ∈ es, E1 e) : fines es = true ∧ deps es ≤ 1 ∧ wts es ≤ 36651 ∧ lenOk es.length = true ∧ noLs es = true := by
  obtain ⟨h1, h2, h3⟩ := bnds (d := 1) (w := 1927) es fun e he => ⟨(h e he).1, (h e he).2.1, (h e he).2.2.1⟩
  have := Nat.mul_le_mul_left (1927 + 2) hl
  exact ⟨h1, h2, by omega, by rw [lenOk_eq, decide_eq_true_eq]; omega, noLs_of fun e he => (h e he).2.2.2⟩
theorem R1.tup {es : List D} (hl : es.length ≤ 19) (h : ∀ e ∈ es, E1 e) : R1 (.tup es) := by
  obtain ⟨h1, h2, h3, h4, h5⟩ := row_bnds hl h
  exact ⟨by simp only [fine, h1, h4, Bool.and_self], by simp only [dep]; omega, by simp only [wt]; omega, fun fs e => by cases e; exact h5⟩
theorem R1.lst {o : Bool} {es : List D} (hl : es.length ≤ 19) (h : ∀ e ∈ es, E1 e) : R1 (.lst o es) := by
  obtain ⟨h1, h2, h3, h4, h5⟩ := row_bnds hl h
  exact ⟨by simp only [fine, h1, h4, Bool.and_self], by simp only [dep]; omega, by simp only [wt]; omega, fun fs e => by cases e⟩
theorem rows_bnds {rs : List D} (hl : rs.length ≤ 19) (h : ∀ r ∈ rs, R1 r) : fines rs = true ∧ deps rs ≤ 2 ∧ wts rs ≤ 696483 ∧ lenOk rs.length = true := by
  obtain ⟨h1, h2, h3⟩ := bnds (d := 2) (w := 36655) rs fun e he => ⟨(h e he).1, (h e he).2.1, (h e he).2.2.1⟩
  have := Nat.mul_le_mul_left (36655 + 2) hl
  exact ⟨h1, h2, by omega, by rw [lenOk_eq, decide_eq_true_eq]; omega⟩
theorem Big.tup {rs : List D} (hl : rs.length ≤ 19) (h : ∀ r ∈ rs, R1 r) : Big (.tup rs) := by
  obtain ⟨h1, h2, h3, h4⟩ := rows_bnds hl h
  exact ⟨by simp only [fine, h1, h4, Bool.and_self], by simp only [dep]; omega, by simp only [wt]; omega, fun r hr es e => (h r hr).2.2.2 es e⟩
theorem Big.lst {o : Bool} {rs : List D} (hl : rs.length ≤ 19) (h : ∀ r ∈ rs, R1 r) : Big (.lst o rs) := by
  obtain ⟨h1, h2, h3, h4⟩ := rows_bnds hl h
  exact ⟨by simp only [fine, h1, h4, Bool.and_self], by simp only [dep]; omega, by simp only [wt]; omega, trivial⟩
theorem E1.int {i : Int} (h : i.natAbs < 2 ^ 250) : E1 (.int i) := ⟨fine_int h, Nat.zero_le _, by simp only [wt]; omega, rfl⟩
theorem E1.tup1 {i : Int} (h : i.natAbs < 2 ^ 250) : E1 (.tup [.int i]) := by
  refine ⟨?_, Nat.le_refl _, Nat.le_refl _, rfl⟩
  simp only [fine, fines, Bool.and_true, lenOk_eq]
  have := fine_int h
  simp only [fine] at this
  rw [this]
  rfl
theorem E1.non : E1 .non := by unfold E1; decide
theorem E1.bl (b : Bool) : E1 (.bl b) := by unfold E1; cases b <;> decide
section
variable {n : Nat} {M : List (List Int)} (S : Scr n M)
include S
theorem row_E1 {r : List Int} (hr : r ∈ M) : ∀ e ∈ r.map D.int, E1 e := by
  intro e he
  obtain ⟨x, hx, rfl⟩ := List.mem_map.mp he
  obtain ⟨i, hi, rfl⟩ := List.getElem_of_mem hr
  obtain ⟨j, hj, rfl⟩ := List.getElem_of_mem hx
  have hi' : i < n := by rw [← S.len]; exact hi
  have hj' : j < n := by rw [← S.rows _ hr]; exact hj
  have := e_small S hi' hj'
  have e : ent M i j = M[i][j] := by
    unfold ent
    rw [List.getD_eq_getElem?_getD, List.getD_eq_getElem?_getD, List.getElem?_eq_getElem hi, Option.getD_some, List.getElem?_eq_getElem hj, Option.getD_some]
  rw [e] at this
  exact .int (by omega)
theorem row_R1 {r : List Int} (hr : r ∈ M) : R1 (rowD r) := .tup (by rw [List.length_map, S.rows r hr]; have := S.n18; omega) (row_E1 S hr)
theorem rows_R1 : ∀ r ∈ M.map rowD, R1 r := by
  intro r hr
  obtain ⟨q, hq, rfl⟩ := List.mem_map.mp hr
  exact row_R1 S hq
theorem Big.scr : Big (scrD M) := .tup (by rw [List.length_map, S.len]; have := S.n18; omega) (rows_R1 S)
theorem wt_scr : wt (scrD M) ≤ 660000 := by
  obtain ⟨h1, h2, h3⟩ := bnds (d := 2) (w := 36655) (M.map rowD) fun e he => ⟨(rows_R1 S e he).1, (rows_R1 S e he).2.1, (rows_R1 S e he).2.2.1⟩
  have h4 : (M.map rowD).length ≤ 18 := by rw [List.length_map, S.len]; exact S.n18
  have := Nat.mul_le_mul_left (36655 + 2) h4
  simp only [scrD, wt]
  omega
end
theorem not_scr {v : D} (h : sqD' v = false) : ¬ IsScr v := fun g => by rw [isScr_sq g] at h; cases h
theorem not_row {rs : List D} {r : D} (h : r ∈ rs) (hb : rowOk rs.length r = false) : ¬ IsScr (.tup rs) := fun g => by
  have := isScr_sq g
  simp only [sqD', Bool.and_eq_true, List.all_eq_true] at this
  rw [this.2 r h] at hb
  cases hb
/-- no screen, yet near one -/
def OddS (v : D) : Prop := Big v ∧ ¬ IsScr v
/-- a matrix with another entry -/
def setE (M : List (List Int)) (i j : Nat) (x : Int) : List (List Int) := M.set i ((rowA M i).set j x)
def entD (M : List (List Int)) (i j : Nat) (v : D) : D := .tup ((M.map rowD).set i (.tup (((rowA M i).map .int).set j v)))
theorem entD_int (M : List (List Int)) (i j : Nat) (x : Int) : entD M i j (.int x) = scrD (setE M i j x) := by
  unfold entD scrD setE
  rw [List.map_set]
  unfold rowD
  rw [List.map_set]
theorem ent_setE {n : Nat} {M : List (List Int)} (hl : M.length = n) (hr : ∀ r ∈ M, r.length = n) {i j : Nat} (hi : i < n) (hj : j < n) (x : Int) (a b : Nat) : ent (setE M i j x) a b = if a = i ∧ b = j then x else ent M a b := by
  have li : (rowA M i).length = n := getD_row hr (by omega)
  have row : (setE M i j x).getD a [] = if a = i then (rowA M i).set j x else M.getD a [] := by
    unfold setE
    rw [List.getD_eq_getElem?_getD, List.getElem?_set]
    by_cases h : i = a
    · subst h
      rw [if_pos rfl, if_pos (by omega), if_pos rfl]
      rfl
    · rw [if_neg h, if_neg fun g => h g.symm, ← List.getD_eq_getElem?_getD]
  unfold ent
  rw [row]
  by_cases h : a = i
  · subst h
    rw [if_pos rfl, List.getD_eq_getElem?_getD, List.getElem?_set]
    by_cases h2 : j = b
    · subst h2
      rw [if_pos rfl, if_pos (by omega), if_pos ⟨rfl, rfl⟩]
      rfl
    · rw [if_neg h2, if_neg fun h => h2 h.2.symm, ← List.getD_eq_getElem?_getD]
      rfl
  · rw [if_neg h, if_neg fun g => h g.1]
theorem setE_shape {n : Nat} {M : List (List Int)} (hl : M.length = n) (hr : ∀ r ∈ M, r.length = n) {i j : Nat} (hi : i < n) (x : Int) : (setE M i j x).length = n ∧ ∀ r ∈ setE M i j x, r.length = n := by
  have li : (rowA M i).length = n := getD_row hr (by omega)
  unfold setE
  refine ⟨by rw [List.length_set]; exact hl, fun r h => ?_⟩
  rcases List.mem_or_eq_of_mem_set h with h | h
  · exact hr r h
  · rw [h, List.length_set]; exact li
theorem isScr_of {n : Nat} {M : List (List Int)} (hl : M.length = n) (h : IsScr (scrD M)) : Scr n M := by
  obtain ⟨m, N, e, S⟩ := h
  have := scrD_inj e
  subst this
  have := S.len
  rw [hl] at this
  subst this
  exact S
section
variable {n : Nat} {M : List (List Int)} (S : Scr n M)
include S
theorem big_ent {i j : Nat} (hi : i < n) {v : D} (hv : E1 v) : Big (entD M i j v) := by
  have hl := S.len
  have hi' : i < M.length := by omega
  have em : rowA M i = M[i] := by
    unfold rowA
    rw [List.getD_eq_getElem?_getD, List.getElem?_eq_getElem hi']
    rfl
  have mem : rowA M i ∈ M := by rw [em]; exact List.getElem_mem hi'
  have h18 := S.n18
  refine .tup (by rw [List.length_set, List.length_map]; omega) fun r hr => ?_
  rcases List.mem_or_eq_of_mem_set hr with h | h
  · exact rows_R1 S r h
  · subst h
    refine .tup (by rw [List.length_set, List.length_map, S.rows _ mem]; omega) fun e he => ?_
    rcases List.mem_or_eq_of_mem_set he with h | h
    · exact row_E1 S mem e h
    · rw [h]; exact hv
/-- an entry that is no number -/
theorem odd_ent {i j : Nat} (hi : i < n) (hj : j < n) {v : D} (hv : E1 v) (hw : isW v = false) : OddS (entD M i j v) := by
  refine ⟨big_ent S hi hv, ?_⟩
  have hl := S.len
  have li : (rowA M i).length = n := getD_row S.rows (by omega)
  refine not_row (r := .tup (((rowA M i).map .int).set j v)) (List.mem_iff_getElem.mpr ⟨i, by rw [List.length_set, List.length_map]; omega, List.getElem_set_self _⟩) ?_
  simp only [rowOk, Bool.and_eq_false_iff]
  right
  rw [List.all_eq_false]
  exact ⟨v, List.mem_iff_getElem.mpr ⟨j, by rw [List.length_set, List.length_map]; omega, List.getElem_set_self _⟩, by rw [hw]; decide⟩
theorem odd_int {i j : Nat} (hi : i < n) (hj : j < n) {x : Int} (hx : x.natAbs < 2 ^ 250) (h : Scr n (setE M i j x) → (∀ a b, ent (setE M i j x) a b = if a = i ∧ b = j then x else ent M a b) → False) : OddS (entD M i j (.int x)) := by
  refine ⟨big_ent S hi (.int hx), fun g => ?_⟩
  rw [entD_int] at g
  exact h (isScr_of (setE_shape S.len S.rows hi x).1 g) fun a b => ent_setE S.len S.rows hi hj x a b
theorem odd_diag {i : Nat} (hi : i < n) {x : Int} (hx : x.natAbs < 2 ^ 250) (h : x < 1 ∨ MOST' < x) : OddS (entD M i i (.int x)) := odd_int S hi hi hx fun T e => by
  have h1 := T.diag i hi
  have h2 := diag_le T hi
  rw [e, if_pos ⟨rfl, rfl⟩] at h1 h2
  omega
theorem odd_up {i j : Nat} (hij : i < j) (hj : j < n) {x : Int} (hx : x.natAbs < 2 ^ 250) (h : x < 0 ∨ x = ent M j j) : OddS (entD M i j (.int x)) := odd_int S (by omega) hj hx fun T e => by
  have h1 := T.up i j hij hj
  rw [e, if_pos ⟨rfl, rfl⟩, e, if_neg (by omega)] at h1
  omega
theorem odd_low {i j : Nat} (hij : j < i) (hi : i < n) {x : Int} (hx : x.natAbs < 2 ^ 250) (h : x ≠ 0) : OddS (entD M i j (.int x)) := odd_int S hi (by omega) hx fun T e => by
  have h1 := T.low i j hi hij
  rw [e, if_pos ⟨rfl, rfl⟩] at h1
  exact h h1
/-- too great a product -/
theorem odd_prod {i j : Nat} (hij : i < j) (hj : j < n) : Scr n (setE (setE M i i MOST') j j 2) → False := fun T => by
  have sh := setE_shape S.len S.rows (i := i) (j := i) (by omega) MOST'
  have e := ent_setE sh.1 sh.2 hj hj 2
  have e2 := ent_setE S.len S.rows (i := i) (j := i) (by omega) (by omega) MOST'
  have h1 := prodD_mono T (m := n) (k := j + 1) hj (Nat.le_refl _)
  have h2 := prodD_mono T (m := j) (k := i + 1) hij (by omega)
  have h3 := prodD_pos T i (by omega)
  have a1 : prodD (setE (setE M i i MOST') j j 2) (j + 1) = prodD (setE (setE M i i MOST') j j 2) j * 2 := by
    show _ * ent _ j j = _
    rw [e, if_pos ⟨rfl, rfl⟩]
  have a2 : prodD (setE (setE M i i MOST') j j 2) (i + 1) = prodD (setE (setE M i i MOST') j j 2) i * MOST' := by
    show _ * ent _ i i = _
    rw [e, if_neg (by omega), e2, if_pos ⟨rfl, rfl⟩]
  have h4 := T.prod
  unfold MOST' at *
  omega
end

end MP
set_option linter.all false
set_option maxRecDepth 100000
set_option maxHeartbeats 1000000
namespace MP
open PySem PySem.Spec PyProof.Rows L2
--import K01L11
/-! the makers of odd values -/
theorem cut_to {α : Type} (xs : List α) {k : Nat} (h : k ≤ xs.length) : cutD xs none (some (k : Int)) = xs.take k := by
  unfold cutD
  rw [HT.sIx_none, HT.sIx_nat, Nat.min_eq_left h, List.drop_zero, Nat.sub_zero]
theorem cut_from {α : Type} (xs : List α) (h : 1 ≤ xs.length) : cutD xs (some 1) none = xs.drop 1 := by
  unfold cutD
  have : HT.sIx xs.length 0 (some 1) = 1 := by
    have := HT.sIx_nat xs.length 0 1
    rw [Nat.min_eq_left h] at this
    exact this
  rw [HT.sIx_none, this]
  refine List.take_of_length_le ?_
  rw [List.length_drop]
  exact Nat.le_refl _
theorem with_run {m : Nat} (hm : 1 ≤ m) {xs : List D} (hx : noLs xs = true) (hs : shrs xs = xs) {i : Nat} (hi : i < xs.length) (v : D) : runD (tbOf defs) pr m 28 [.tup xs, .int (i : Int), shr v] = .ok (.tup (xs.set i (shr v))) [] := by
  obtain ⟨k, rfl⟩ : ∃ k, m = k + 1 := ⟨m - 1, by omega⟩
  rw [F28.run rfl]
  have ix := ixN_nat hi
  have ss : shrs (xs.set i (shr v)) = xs.set i (shr v) := by
    rw [shrs_map, List.map_set, ← shrs_map, hs, shr2]
  by_cases hn : noLs (xs.set i (shr v)) = true <;> simp [fillA, ioA, goneA, lentA, okA, putAll, wipeE, shrAll, ioOut, isPk, pk, isiD, own, owns, shr, shrs, noL, noLs, pln, plns, noIo, tgSlots, callI, lenOk_eq, f28F, hx, ix, hn, ss]
section
variable {n : Nat} {M : List (List Int)} (S : Scr n M)
include S
theorem entry_run {m : Nat} (hm : 2 ≤ m) {i j : Nat} (hi : i < n) (hj : j < n) (v : D) : runD (tbOf defs) pr m 29 [scrD M, .int (i : Int), .int (j : Int), shr v] = .ok (entD M i j (shr v)) [] := by
  obtain ⟨k, rfl⟩ : ∃ k, m = k + 1 := ⟨m - 1, by omega⟩
  rw [F29.run rfl]
  have hl := S.len
  have li : (rowA M i).length = n := getD_row S.rows (by omega)
  have nr : noLs ((rowA M i).map D.int) = true := by have := noL_row (rowA M i); simpa only [rowD, noL] using this
  have sr : shrs ((rowA M i).map D.int) = (rowA M i).map D.int := by have := shr_row (rowA M i); simp only [rowD, shr] at this; exact D.tup.inj this
  have w1 := with_run (m := k) (by omega) nr sr (i := j) (by rw [List.length_map]; omega) v
  have w2 := with_run (m := k) (by omega) (noLs_rows M) (shrs_rows M) (i := i) (by rw [List.length_map]; omega) (.tup (((rowA M i).map D.int).set j (shr v)))
  have at_ := atI_row (M := M) (i := i) (by omega)
  have s2 : shrs (((rowA M i).map D.int).set j (shr v)) = ((rowA M i).map D.int).set j (shr v) := by
    rw [shrs_map, List.map_set, ← shrs_map, sr, shr2]
  simp only [shr, s2] at w2
  have rs := shrs_rows M
  have ns := noLs_rows M
  simp only [scrD, entD] at *
  simp [fillA, ioA, goneA, lentA, okA, putAll, wipeE, shrAll, ioOut, isPk, pk, isiD, own, owns, shr, shrs, noL, noLs, pln, plns, noIo, tgSlots, callI, lenOk_eq, f29F, at_, nr, sr, w1, w2, s2, rs, ns]
end

end MP
set_option linter.all false
set_option maxRecDepth 100000
set_option maxHeartbeats 1000000
namespace MP
open PySem PySem.Spec PyProof.Rows L2
--import K01L12
/-- the unit matrix of 19 -/
def rowI : D → D
  | .int j => .tup (vecD 19 fun k => if (k : Int) = j then 1 else 0)
  | _ => .non
def I19 : D := .tup ((rngD 0 1 19).map rowI)
theorem I19_odd : OddS I19 := by
  refine ⟨.tup (by rw [List.length_map, rngD_len]; omega) fun r hr => ?_, ?_⟩
  · obtain ⟨d, hd, rfl⟩ := List.mem_map.mp hr
    obtain ⟨i, rfl, hi⟩ := rngD_nat 19 d hd
    refine .tup (by rw [vecD_len]; omega) fun e he => ?_
    unfold vecD at he
    obtain ⟨t, ht, rfl⟩ := List.mem_map.mp he
    refine .int ?_
    show (if (t : Int) = (i : Int) then (1 : Int) else 0).natAbs < 2 ^ 250
    split <;> decide
  · refine not_scr ?_
    have : ¬ ((rngD 0 1 19).map rowI).length ≤ 18 := by rw [List.length_map, rngD_len]; omega
    simp only [I19, sqD', this, decide_false, Bool.and_false, Bool.false_and]
def addZ : D → D
  | .tup es => .tup (es ++ [.int 0])
  | d => d
theorem odd_flat {v : D} (hb : Big v) (h : sqD' v = false) : OddS v := ⟨hb, not_scr h⟩
section
variable {n : Nat} {M : List (List Int)} (S : Scr n M)
include S
theorem odd_wide : OddS (.tup ((M.map rowD).map addZ)) := by
  have hl := S.len
  have n1 := S.n1
  have n18 := S.n18
  refine ⟨.tup (by rw [List.length_map, List.length_map]; omega) fun r hr => ?_, ?_⟩
  · obtain ⟨d, hd, rfl⟩ := List.mem_map.mp hr
    obtain ⟨q, hq, rfl⟩ := List.mem_map.mp hd
    refine .tup (by rw [List.length_append, List.length_map, S.rows q hq]; simp only [List.length_cons, List.length_nil]; omega) fun e he => ?_
    rcases List.mem_append.mp he with he | he
    · exact row_E1 S hq e he
    · rw [List.mem_singleton.mp he]; exact .int (by decide)
  · obtain ⟨q, M', e⟩ : ∃ q M', M = q :: M' := by
      cases M with
      | nil => rw [← hl] at n1; simp at n1
      | cons q M' => exact ⟨q, M', rfl⟩
    have hq : q ∈ M := by rw [e]; exact .head _
    refine not_row (r := addZ (rowD q)) (List.mem_map.mpr ⟨_, List.mem_map.mpr ⟨q, hq, rfl⟩, rfl⟩) ?_
    have : ¬ ((q.map D.int) ++ [D.int 0]).length = ((M.map rowD).map addZ).length := by
      rw [List.length_append, List.length_map, S.rows q hq, List.length_map, List.length_map, hl]
      simp only [List.length_cons, List.length_nil]
      omega
    simp only [addZ, rowD, rowOk, Bool.and_eq_false_iff]
    left
    exact decide_eq_false this
theorem odd_cut : OddS (.tup ((M.map rowD).take (n - 1))) := by
  have hl := S.len
  have n1 := S.n1
  have n18 := S.n18
  have ll : ((M.map rowD).take (n - 1)).length = n - 1 := by rw [List.length_take, List.length_map]; omega
  refine ⟨.tup (by omega) fun r hr => rows_R1 S r (List.mem_of_mem_take hr), ?_⟩
  by_cases h1 : n = 1
  · have e : (M.map rowD).take (n - 1) = [] := by rw [h1]; rfl
    rw [e]
    exact not_scr rfl
  · have h0 : 0 < ((M.map rowD).take (n - 1)).length := by omega
    have mem := List.getElem_mem h0
    generalize ((M.map rowD).take (n - 1))[0] = r at mem
    refine not_row mem ?_
    obtain ⟨q, hq, rfl⟩ := List.mem_map.mp (List.mem_of_mem_take mem)
    rw [ll]
    simp only [rowD, rowOk, Bool.and_eq_false_iff]
    left
    refine decide_eq_false ?_
    rw [List.length_map, S.rows q hq]
    omega
theorem odd_more {a : Nat} (ha : a < n) : OddS (.tup (M.map rowD ++ [.tup (vecD n (ent M a))])) := by
  have hl := S.len
  have n1 := S.n1
  have n18 := S.n18
  have ra := row_vec S ha
  have em : rowA M a ∈ M := by
    have h' : a < M.length := by omega
    have : rowA M a = M[a] := by
      unfold rowA
      rw [List.getD_eq_getElem?_getD, List.getElem?_eq_getElem h']
      rfl
    rw [this]
    exact List.getElem_mem h'
  have e : D.tup (vecD n (ent M a)) = rowD (rowA M a) := by rw [← ra]; rfl
  rw [e]
  refine ⟨.tup (by rw [List.length_append, List.length_map]; simp only [List.length_cons, List.length_nil]; omega) fun r hr => ?_, ?_⟩
  · rcases List.mem_append.mp hr with h | h
    · exact rows_R1 S r h
    · rw [List.mem_singleton.mp h]; exact row_R1 S em
  · refine not_row (r := rowD (rowA M a)) (List.mem_append.mpr (.inr (.head _))) ?_
    simp only [rowD, rowOk, Bool.and_eq_false_iff]
    left
    refine decide_eq_false ?_
    rw [List.length_map, S.rows _ em, List.length_append, List.length_map]
    simp only [List.length_cons, List.length_nil]
    omega
theorem odd_rowl {a : Nat} (ha : a < n) : OddS (.tup ((M.map rowD).set a (.lst false ((rowA M a).map .int)))) := by
  have hl := S.len
  have n18 := S.n18
  have em : rowA M a ∈ M := by
    have h' : a < M.length := by omega
    have : rowA M a = M[a] := by
      unfold rowA
      rw [List.getD_eq_getElem?_getD, List.getElem?_eq_getElem h']
      rfl
    rw [this]
    exact List.getElem_mem h'
  refine ⟨.tup (by rw [List.length_set, List.length_map]; omega) fun r hr => ?_, ?_⟩
  · rcases List.mem_or_eq_of_mem_set hr with h | h
    · exact rows_R1 S r h
    · rw [h]
      exact .lst (by rw [List.length_map, S.rows _ em]; omega) (row_E1 S em)
  · exact not_row (r := .lst false ((rowA M a).map .int)) (List.mem_iff_getElem.mpr ⟨a, by rw [List.length_set, List.length_map]; omega, List.getElem_set_self _⟩) rfl
theorem odd_list : OddS (.lst true (M.map rowD)) := odd_flat (.lst (by rw [List.length_map, S.len]; have := S.n18; omega) (rows_R1 S)) rfl
theorem odd_within : OddS (.lst true [scrD M]) := by
  have B := Big.scr S
  have w := wt_scr S
  have d2 : dep (scrD M) ≤ 3 := by
    obtain ⟨h1, h2, h3⟩ := bnds (d := 2) (w := 36655) (M.map rowD) fun e he => ⟨(rows_R1 S e he).1, (rows_R1 S e he).2.1, (rows_R1 S e he).2.2.1⟩
    simp only [scrD, dep]
    omega
  exact odd_flat ⟨by simp only [fine, fines, B.1, Bool.and_true, Bool.true_and]; rfl, by simp only [dep, deps]; omega, by simp only [wt, wts]; omega, trivial⟩ rfl
end
theorem odd_sm {v : D} (h1 : fine v = true) (h2 : dep v ≤ 4) (h3 : wt v ≤ 700000) (h4 : flat2 v) (h5 : sqD' v = false) : OddS v := odd_flat ⟨h1, h2, h3, h4⟩ h5
theorem odd_consts : OddS .non ∧ OddS (.bl true) ∧ OddS (.int 1) ∧ OddS (.str "rows 1") ∧ OddS (.lst true []) ∧ OddS (.tup []) ∧ OddS (.tup [.int 1]) :=
  ⟨odd_sm (by decide) (by decide) (by decide) trivial rfl, odd_sm (by decide) (by decide) (by decide) trivial rfl, odd_sm (by decide) (by decide) (by decide) trivial rfl, odd_sm (by decide +kernel) (by decide) (by decide +kernel) trivial rfl, odd_sm (by decide) (by decide) (by decide) trivial rfl, odd_sm (by decide) (by decide) (by decide) (fun _ h => nomatch h) rfl, odd_sm (by decide) (by decide) (by decide) (fun r hr es e => by rw [List.mem_singleton.mp hr] at e; cases e) rfl⟩

end MP
set_option linter.all false
set_option maxRecDepth 100000
set_option maxHeartbeats 1000000
namespace MP
open PySem PySem.Spec PyProof.Rows L2
--import K01L13
theorem bop_addT {xs ys : List D} : bop .add (.tup xs) (.tup ys) = if lenOk (xs.length + ys.length) && !xs.isEmpty && !ys.isEmpty then some (.tup (xs ++ ys)) else none := Eq.trans rfl rfl
section
variable {n : Nat} {M : List (List Int)} (S : Scr n M)
include S
theorem loop4 {k a : Nat} (hk : 2 ≤ k) (ha : a < n) {d : D} {o2 o4 : Option D} : ∀ (ds : List D) (xs : List D) (o6 : Option D), (∀ v ∈ ds, shr v = v) → xs.length + ds.length ≤ 1000 → ∃ p6, forL (.nm 6) (evSs (runD (tbOf defs) pr k) f47_b4 [0]) ds [some d, some (scrD M), o2, some (.int (a : Int)), o4, some (.lst true xs), o6, none, none, none, none, none] = .nx [some d, some (scrD M), o2, some (.int (a : Int)), o4, some (.lst true (xs ++ ds.map (entD M a a))), p6, none, none, none, none, none]
  | [], xs, o6, _, _ => ⟨o6, by simp⟩
  | v :: ds, xs, o6, h, hl => by
    simp only [List.length_cons] at hl
    have hv := h v (.head _)
    obtain ⟨p6, ih⟩ := loop4 hk ha (d := d) (o2 := o2) (o4 := o4) ds (xs ++ [entD M a a v]) (some v) (fun y hy => h y (.tail _ hy)) (by simp only [List.length_append, List.length_cons, List.length_nil]; omega)
    refine ⟨p6, ?_⟩
    have e := entry_run S (m := k) hk ha ha v
    rw [hv] at e
    have ss := shr_scr M
    have lx : xs.length ≤ 16777215 := by omega
    have b : evSs (runD (tbOf defs) pr k) f47_b4 [0] [some d, some (scrD M), o2, some (.int (a : Int)), o4, some (.lst true xs), some v, none, none, none, none, none] = .nx [some d, some (scrD M), o2, some (.int (a : Int)), o4, some (.lst true (xs ++ [entD M a a v])), some v, none, none, none, none, none] := by
      simp [fillA, ioA, goneA, lentA, okA, putAll, wipeE, shrAll, ioOut, isPk, pk, isiD, own, owns, shr, shrs, noL, noLs, pln, plns, noIo, tgSlots, callI, lenOk_eq, f47_b4, ss, hv, e, lx]
    simp only [forL_cons, tgE_nm, set_S, set_0, b, ih, List.map_cons, List.append_assoc, List.singleton_append]
theorem loop5 {k i j : Nat} (hk : 2 ≤ k) (hi : i < n) (hj : j < n) {d : D} {o2 o3 o4 : Option D} : ∀ (ds : List D) (xs : List D) (o6 : Option D), (∀ v ∈ ds, shr v = v) → xs.length + ds.length ≤ 1000 → ∃ p6, forL (.nm 6) (evSs (runD (tbOf defs) pr k) f47_b5 [0]) ds [some d, some (scrD M), o2, o3, o4, some (.lst true xs), o6, some (.int (j : Int)), some (.int (i : Int)), none, none, none] = .nx [some d, some (scrD M), o2, o3, o4, some (.lst true (xs ++ ds.map (entD M i j))), p6, some (.int (j : Int)), some (.int (i : Int)), none, none, none]
  | [], xs, o6, _, _ => ⟨o6, by simp⟩
  | v :: ds, xs, o6, h, hl => by
    simp only [List.length_cons] at hl
    have hv := h v (.head _)
    obtain ⟨p6, ih⟩ := loop5 hk hi hj (d := d) (o2 := o2) (o3 := o3) (o4 := o4) ds (xs ++ [entD M i j v]) (some v) (fun y hy => h y (.tail _ hy)) (by simp only [List.length_append, List.length_cons, List.length_nil]; omega)
    refine ⟨p6, ?_⟩
    have e := entry_run S (m := k) hk hi hj v
    rw [hv] at e
    have ss := shr_scr M
    have lx : xs.length ≤ 16777215 := by omega
    have b : evSs (runD (tbOf defs) pr k) f47_b5 [0] [some d, some (scrD M), o2, o3, o4, some (.lst true xs), some v, some (.int (j : Int)), some (.int (i : Int)), none, none, none] = .nx [some d, some (scrD M), o2, o3, o4, some (.lst true (xs ++ [entD M i j v])), some v, some (.int (j : Int)), some (.int (i : Int)), none, none, none] := by
      simp [fillA, ioA, goneA, lentA, okA, putAll, wipeE, shrAll, ioOut, isPk, pk, isiD, own, owns, shr, shrs, noL, noLs, pln, plns, noIo, tgSlots, callI, lenOk_eq, f47_b5, ss, hv, e, lx]
    simp only [forL_cons, tgE_nm, set_S, set_0, b, ih, List.map_cons, List.append_assoc, List.singleton_append]
end
def odd0 (n a : Nat) (M : List (List Int)) : List D := [.non, .bl true, .int 1, .str "rows 1", .lst true [], .tup [], .lst true (M.map rowD), .tup ((M.map rowD).take (n - 1)), .tup (M.map rowD ++ [.tup (vecD n (ent M a))]), .lst true [scrD M], .tup [.int 1], I19, .tup ((M.map rowD).map addZ), .tup ((M.map rowD).set a (.lst false ((rowA M a).map .int)))]
def dsA (z : Int) : List D := [.int 0, .int (-z), .int 1000000000000000000000000000000000000000000000000000000000001, .bl (decide (z = 1)), .non, .str "1", .tup [.int z]]
def dsB (z : Int) : List D := [.int z, .int (-1), .non, .bl true]
theorem f47_lcI {k : Nat} {e0 e1 e2 e3 e4 e5 e6 e7 e8 e10 : Option D} (j : Int) : lcL (turnL (.nm 11) (fun s => .ok true s) (evX (runD (tbOf defs) pr k) f47_x1).val) [11] (rngD 0 1 19) [] [e0, e1, e2, e3, e4, e5, e6, e7, e8, some (.int j), e10, none] = .ok (.lst true (vecD 19 fun k => if (k : Int) = j then 1 else 0)) [e0, e1, e2, e3, e4, e5, e6, e7, e8, some (.int j), e10, none] := by
  have lc := lcL_map (turn := turnL (.nm 11) (fun s => .ok true s) (evX (runD (tbOf defs) pr k) f47_x1).val) (ws := [11]) (s := [e0, e1, e2, e3, e4, e5, e6, e7, e8, some (.int j), e10, none]) (fun d => match d with
    | .int i => .int (if i = j then 1 else 0)
    | _ => .non) (rngD 0 1 19) [] (fun d hd => by
    obtain ⟨t, rfl, ht⟩ := rngD_nat 19 d hd
    refine ⟨[e0, e1, e2, e3, e4, e5, e6, e7, e8, some (.int j), e10, some (.int (t : Int))], ?_, rfl⟩
    simp [fillA, ioA, goneA, lentA, okA, putAll, wipeE, shrAll, ioOut, isPk, pk, isiD, own, owns, shr, shrs, noL, noLs, pln, plns, noIo, tgSlots, callI, lenOk_eq, turnL, f47_x1]) (by rw [lenOk_eq, rngD_len, decide_eq_true_eq]; simp only [List.length_nil]; omega)
  rw [lc, List.nil_append]
  unfold rngD vecD
  rw [List.map_map]
  refine congrArg (fun x => R.ok (D.lst true x) _) (List.map_congr_left fun t _ => ?_)
  show D.int (if (0 : Int) + (t : Int) * 1 = j then 1 else 0) = _
  rw [show (0 : Int) + (t : Int) * 1 = (t : Int) by omega]
theorem f47_lcO {k : Nat} {e0 e1 e2 e3 e4 e5 e6 e7 e8 e10 : Option D} : lcL (turnL (.nm 9) (fun s => .ok true s) (evX (runD (tbOf defs) pr k) f47_x2).val) [9] (rngD 0 1 19) [] [e0, e1, e2, e3, e4, e5, e6, e7, e8, none, e10, none] = .ok (.lst true ((rngD 0 1 19).map rowI)) [e0, e1, e2, e3, e4, e5, e6, e7, e8, none, e10, none] := by
  have lc := lcL_map (turn := turnL (.nm 9) (fun s => .ok true s) (evX (runD (tbOf defs) pr k) f47_x2).val) (ws := [9]) (s := [e0, e1, e2, e3, e4, e5, e6, e7, e8, none, e10, none]) rowI (rngD 0 1 19) [] (fun d hd => by
    obtain ⟨t, rfl, ht⟩ := rngD_nat 19 d hd
    refine ⟨[e0, e1, e2, e3, e4, e5, e6, e7, e8, some (.int (t : Int)), e10, none], ?_, rfl⟩
    have r1 : rngL [.int 19] = some (rngD 0 1 19) := rngL_nat (k := 19) (by omega)
    have li := f47_lcI (k := k) (e0 := e0) (e1 := e1) (e2 := e2) (e3 := e3) (e4 := e4) (e5 := e5) (e6 := e6) (e7 := e7) (e8 := e8) (e10 := e10) (t : Int)
    simp [fillA, ioA, goneA, lentA, okA, putAll, wipeE, shrAll, ioOut, isPk, pk, isiD, own, owns, shr, shrs, noL, noLs, pln, plns, noIo, tgSlots, callI, lenOk_eq, turnL, f47_x2, r1, giveR, li, rowI]) (by rw [lenOk_eq, rngD_len, decide_eq_true_eq]; simp only [List.length_nil]; omega)
  rw [lc, List.nil_append]
theorem f47_lcZ {k : Nat} {M : List (List Int)} (h1 : ∀ r ∈ M, r ≠ []) (h2 : ∀ r ∈ M, r.length ≤ 1000) (hm : M.length ≤ 1000) {e0 e1 e2 e3 e4 e5 e6 e7 e8 e9 : Option D} : lcL (turnL (.nm 10) (fun s => .ok true s) (evX (runD (tbOf defs) pr k) f47_x3).val) [10] (M.map rowD) [] [e0, e1, e2, e3, e4, e5, e6, e7, e8, e9, none, none] = .ok (.lst true ((M.map rowD).map addZ)) [e0, e1, e2, e3, e4, e5, e6, e7, e8, e9, none, none] := by
  have lc := lcL_map (turn := turnL (.nm 10) (fun s => .ok true s) (evX (runD (tbOf defs) pr k) f47_x3).val) (ws := [10]) (s := [e0, e1, e2, e3, e4, e5, e6, e7, e8, e9, none, none]) addZ (M.map rowD) [] (fun d hd => by
    obtain ⟨r, hr, rfl⟩ := List.mem_map.mp hd
    refine ⟨[e0, e1, e2, e3, e4, e5, e6, e7, e8, e9, some (rowD r), none], ?_, rfl⟩
    have n1 := h1 r hr
    have n2 : r.length ≤ 16777215 := by have := h2 r hr; omega
    have nr : noLs (r.map D.int) = true := by have := noL_row r; simpa only [rowD, noL] using this
    simp [fillA, ioA, goneA, lentA, okA, putAll, wipeE, shrAll, ioOut, isPk, pk, isiD, own, owns, shr, shrs, noL, noLs, pln, plns, noIo, tgSlots, callI, lenOk_eq, turnL, f47_x3, rowD, addZ, bop_addT, n1, n2, nr]) (by rw [lenOk_eq, List.length_map, decide_eq_true_eq]; simp only [List.length_nil]; omega)
  rw [lc, List.nil_append]

end MP
set_option linter.all false
set_option maxRecDepth 100000
set_option maxHeartbeats 1000000
namespace MP
open PySem PySem.Spec PyProof.Rows L2
--import K01L14
theorem shr_dsA (z : Int) : ∀ v ∈ dsA z, shr v = v := by
  intro v hv
  simp only [dsA, List.mem_cons, List.not_mem_nil, or_false] at hv
  rcases hv with rfl | rfl | rfl | rfl | rfl | rfl | rfl <;> simp [shr, shrs]
theorem shr_dsB (z : Int) : ∀ v ∈ dsB z, shr v = v := by
  intro v hv
  simp only [dsB, List.mem_cons, List.not_mem_nil, or_false] at hv
  rcases hv with rfl | rfl | rfl | rfl <;> simp [shr]
theorem E1.str1 : E1 (.str "1") := by
  unfold E1
  refine ⟨by decide +kernel, by decide, by decide +kernel, rfl⟩
section
variable {n : Nat} {M : List (List Int)} (S : Scr n M)
include S
theorem all_odd0 {a : Nat} (ha : a < n) : ∀ x ∈ odd0 n a M, OddS x := by
  obtain ⟨c1, c2, c3, c4, c5, c6, c7⟩ := odd_consts
  intro v hv
  simp only [odd0, List.mem_cons, List.not_mem_nil, or_false] at hv
  rcases hv with rfl | rfl | rfl | rfl | rfl | rfl | rfl | rfl | rfl | rfl | rfl | rfl | rfl | rfl
  · exact c1
  · exact c2
  · exact c3
  · exact c4
  · exact c5
  · exact c6
  · exact odd_list S
  · exact odd_cut S
  · exact odd_more S ha
  · exact odd_within S
  · exact c7
  · exact I19_odd
  · exact odd_wide S
  · exact odd_rowl S ha
theorem all_dsA {a : Nat} (ha : a < n) : ∀ x ∈ (dsA (ent M a a)).map (entD M a a), OddS x := by
  have d1 := S.diag a ha
  have d2 := diag_le S ha
  intro v hv
  obtain ⟨y, hy, rfl⟩ := List.mem_map.mp hv
  simp only [dsA, List.mem_cons, List.not_mem_nil, or_false] at hy
  unfold MOST' at d2
  rcases hy with rfl | rfl | rfl | rfl | rfl | rfl | rfl
  · exact odd_diag S ha (by decide) (.inl (by decide))
  · exact odd_diag S ha (by omega) (.inl (by omega))
  · exact odd_diag S ha (by decide) (.inr (by decide))
  · exact odd_ent S ha ha (.bl _) rfl
  · exact odd_ent S ha ha .non rfl
  · exact odd_ent S ha ha .str1 rfl
  · exact odd_ent S ha ha (.tup1 (by omega)) rfl
theorem all_dsB {i j : Nat} (hij : i < j) (hj : j < n) : ∀ x ∈ (dsB (ent M j j)).map (entD M i j), OddS x := by
  have d1 := S.diag j hj
  have d2 := diag_le S hj
  intro v hv
  obtain ⟨y, hy, rfl⟩ := List.mem_map.mp hv
  simp only [dsB, List.mem_cons, List.not_mem_nil, or_false] at hy
  unfold MOST' at d2
  rcases hy with rfl | rfl | rfl | rfl
  · exact odd_up S hij hj (by omega) (.inr rfl)
  · exact odd_up S hij hj (by decide) (.inl (by decide))
  · exact odd_ent S (by omega) hj .non rfl
  · exact odd_ent S (by omega) hj (.bl _) rfl
/-- two entries too great -/
theorem odd_two {i j : Nat} (hij : i < j) (hj : j < n) : OddS (entD (setE M i i MOST') j j (.int 2)) := by
  have sh := setE_shape S.len S.rows (i := i) (j := i) (by omega) MOST'
  have n18 := S.n18
  refine ⟨?_, fun g => ?_⟩
  · rw [entD_int]
    have sh2 := setE_shape sh.1 sh.2 (i := j) (j := j) hj 2
    have e1 := ent_setE S.len S.rows (i := i) (j := i) (by omega) (by omega) MOST'
    have e2 := ent_setE sh.1 sh.2 hj hj 2
    refine .tup (by rw [List.length_map, sh2.1]; omega) fun r hr => ?_
    obtain ⟨q, hq, rfl⟩ := List.mem_map.mp hr
    refine .tup (by rw [List.length_map, sh2.2 q hq]; omega) fun e he => ?_
    obtain ⟨x, hx, rfl⟩ := List.mem_map.mp he
    obtain ⟨a, ha, rfl⟩ := List.getElem_of_mem hq
    obtain ⟨b, hb, rfl⟩ := List.getElem_of_mem hx
    have ha' : a < n := by rw [← sh2.1]; exact ha
    have hb' : b < n := by rw [← sh2.2 _ hq]; exact hb
    have e3 : ent (setE (setE M i i MOST') j j 2) a b = (setE (setE M i i MOST') j j 2)[a][b] := by
      unfold ent
      rw [List.getD_eq_getElem?_getD, List.getD_eq_getElem?_getD, List.getElem?_eq_getElem ha, Option.getD_some, List.getElem?_eq_getElem hb, Option.getD_some]
    rw [e2, e1] at e3
    refine .int ?_
    rw [← e3]
    split
    · decide
    · split
      · decide
      · have := e_small S ha' hb'
        omega
  · rw [entD_int] at g
    exact odd_prod S hij hj (isScr_of (setE_shape sh.1 sh.2 hj 2).1 g)
end
/-- an entry of a matrix that is no screen -/
theorem entry_run' {m : Nat} (hm : 2 ≤ m) {n : Nat} {M : List (List Int)} (hl : M.length = n) (hr : ∀ r ∈ M, r.length = n) {i j : Nat} (hi : i < n) (hj : j < n) (v : D) : runD (tbOf defs) pr m 29 [scrD M, .int (i : Int), .int (j : Int), shr v] = .ok (entD M i j (shr v)) [] := by
  obtain ⟨k, rfl⟩ : ∃ k, m = k + 1 := ⟨m - 1, by omega⟩
  rw [F29.run rfl]
  have li : (rowA M i).length = n := getD_row hr (by omega)
  have nr : noLs ((rowA M i).map D.int) = true := by have := noL_row (rowA M i); simpa only [rowD, noL] using this
  have sr : shrs ((rowA M i).map D.int) = (rowA M i).map D.int := by have := shr_row (rowA M i); simp only [rowD, shr] at this; exact D.tup.inj this
  have w1 := with_run (m := k) (by omega) nr sr (i := j) (by rw [List.length_map]; omega) v
  have w2 := with_run (m := k) (by omega) (noLs_rows M) (shrs_rows M) (i := i) (by rw [List.length_map]; omega) (.tup (((rowA M i).map D.int).set j (shr v)))
  have at_ := atI_row (M := M) (i := i) (by omega)
  have s2 : shrs (((rowA M i).map D.int).set j (shr v)) = ((rowA M i).map D.int).set j (shr v) := by
    rw [shrs_map, List.map_set, ← shrs_map, sr, shr2]
  simp only [shr, s2] at w2
  have rs := shrs_rows M
  have ns := noLs_rows M
  simp only [scrD, entD] at *
  simp [fillA, ioA, goneA, lentA, okA, putAll, wipeE, shrAll, ioOut, isPk, pk, isiD, own, owns, shr, shrs, noL, noLs, pln, plns, noIo, tgSlots, callI, lenOk_eq, f29F, at_, nr, sr, w1, w2, s2, rs, ns]
section
variable {ns : List Int} (hl : ns.length ≤ 1000) {n : Nat} {M : List (List Int)} (S : Scr n M)
include hl S
theorem odds_run {m : Nat} (hm : 6 ≤ m) {q : Nat} {d : D} (h : St ns q d) (hq : q ≤ 2 ^ 50) : ∃ (xs : List D) (d' : D), runD (tbOf defs) pr m 47 [d, scrD M] = .ok (.lst true xs) [d'] ∧ St ns (q + 10) d' ∧ (∀ x ∈ xs, OddS x) ∧ xs.length ≤ 100 := by
  obtain ⟨k, rfl⟩ : ∃ k, m = k + 1 := ⟨m - 1, by omega⟩
  rw [F47.run rfl]
  have n1 := S.n1
  have n18 := S.n18
  have hM := S.len
  have sr := shrs_rows M
  have nr := noLs_rows M
  obtain ⟨a, d1, e1, s1, a0, a1⟩ := take18 hl (n := k) (by omega) h (by omega) (many := (n : Int)) (by omega)
  obtain ⟨a, rfl⟩ : ∃ b : Nat, a = (b : Int) := ⟨a.toNat, by omega⟩
  have ha : a < n := by omega
  have o1 := s1.own
  have ra := scr_row S ha
  have va := vecD_at (f := ent M a) ha
  have lz : (M.map rowD).length = n := by rw [List.length_map]; exact hM
  have cut : slD (.tup (M.map rowD)) none (some ((n : Int) - 1)) = some (.tup ((M.map rowD).take (n - 1))) := by
    have e : (n : Int) - 1 = ((n - 1 : Nat) : Int) := by omega
    have l2 : ((M.map rowD).take (n - 1)).length < (M.map rowD).length := by rw [List.length_take, lz]; omega
    show (if decide ((cutD (M.map rowD) none (some ((n : Int) - 1))).length < (M.map rowD).length) then some (D.tup (cutD (M.map rowD) none (some ((n : Int) - 1)))) else none) = _
    rw [e, cut_to _ (by omega), decide_eq_true l2]
    rfl
  have ne : M ≠ [] := by intro e; rw [e] at hM; simp at hM; omega
  have b0 : bop .add (.tup (M.map rowD)) (.tup [.tup (vecD n (ent M a))]) = some (.tup (M.map rowD ++ [.tup (vecD n (ent M a))])) := by
    have l2 : lenOk ((M.map rowD).length + [D.tup (vecD n (ent M a))].length) = true := by rw [lenOk_eq, lz, decide_eq_true_eq]; simp only [List.length_cons, List.length_nil]; omega
    have ne2 : (M.map rowD).isEmpty = false := by cases M with
      | nil => exact absurd rfl ne
      | cons _ _ => rfl
    rw [bop_addT, l2, ne2]
    rfl
  have na := vecD_noL n (ent M a)
  have rl : rowA M a ∈ M := by
    have h' : a < M.length := by omega
    have : rowA M a = M[a] := by
      unfold rowA
      rw [List.getD_eq_getElem?_getD, List.getElem?_eq_getElem h']
      rfl
    rw [this]
    exact List.getElem_mem h'
  have w1 := with_run (m := k) (by omega) nr sr (i := a) (by omega) (.lst false (vecD n (ent M a)))
  simp only [shr, vecD_shr] at w1
  have r1 : rngL [.int 19] = some (rngD 0 1 19) := rngL_nat (k := 19) (by omega)
  have lo := fun e0 e1 e2 e3 e4 e5 e6 e7 e8 e10 => f47_lcO (k := k) (e0 := e0) (e1 := e1) (e2 := e2) (e3 := e3) (e4 := e4) (e5 := e5) (e6 := e6) (e7 := e7) (e8 := e8) (e10 := e10)
  have lzz := fun e0 e1 e2 e3 e4 e5 e6 e7 e8 e9 => f47_lcZ (k := k) (M := M) (fun r hr e => by have := S.rows r hr; rw [e] at this; simp at this; omega) (fun r hr => by rw [S.rows r hr]; omega) (by omega) (e0 := e0) (e1 := e1) (e2 := e2) (e3 := e3) (e4 := e4) (e5 := e5) (e6 := e6) (e7 := e7) (e8 := e8) (e9 := e9)
  have i19 : D.tup ((rngD 0 1 19).map rowI) = I19 := rfl
  have ss := shr_scr M
  have rv := row_vec S ha
  have v0 : odd0 n a M = [.non, .bl true, .int 1, .str "rows 1", .lst true [], .tup [], .lst true (M.map rowD), .tup ((M.map rowD).take (n - 1)), .tup (M.map rowD ++ [.tup (vecD n (ent M a))]), .lst true [.tup (M.map rowD)], .tup [.int 1], I19, .tup ((M.map rowD).map addZ), .tup ((M.map rowD).set a (.lst false (vecD n (ent M a))))] := by
    unfold odd0
    rw [rv]
    rfl
  have f0 := all_odd0 S ha
  have f1 := all_dsA S ha
  obtain ⟨p6, l4⟩ := loop4 S (k := k) (by omega) ha (d := d1) (o2 := some (.int (n : Int))) (o4 := some (.int (ent M a a))) (dsA (ent M a a)) (odd0 n a M) none (shr_dsA _) (by simp [odd0, dsA])
  by_cases gn : 1 < n
  · have gt : ((1 : Int) < (n : Int)) = True := eq_true (by omega)
    obtain ⟨v, d2, e2, s2, v0', v1'⟩ := take18 hl (n := k) (by omega) s1 (by omega) (many := (n : Int) - 1) (by omega)
    obtain ⟨j, ej⟩ : ∃ j : Nat, 1 + v = (j : Int) := ⟨(1 + v).toNat, by omega⟩
    have hj : j < n := by omega
    have hj1 : 1 ≤ j := by omega
    obtain ⟨i, d3, e3, s3, i0, i1⟩ := take18 hl (n := k) (by omega) s2 (by omega) (many := (j : Int)) (by omega)
    obtain ⟨i, rfl⟩ : ∃ b : Nat, i = (b : Int) := ⟨i.toNat, by omega⟩
    have hij : i < j := by omega
    obtain ⟨xs1, hx1⟩ : ∃ xs1, xs1 = odd0 n a M ++ (dsA (ent M a a)).map (entD M a a) := ⟨_, rfl⟩
    have lx1 : xs1.length = 21 := by rw [hx1]; simp [odd0, dsA]
    have rj := scr_row S hj
    have vj := vecD_at (f := ent M j) hj
    have nj := vecD_noL n (ent M j)
    obtain ⟨p6', l5⟩ := loop5 S (k := k) (i := i) (j := j) (by omega) (by omega) hj (d := d3) (o2 := some (.int (n : Int))) (o3 := some (.int (a : Int))) (o4 := some (.int (ent M a a))) (dsB (ent M j j)) xs1 p6 (shr_dsB _) (by rw [lx1]; simp [dsB])
    obtain ⟨xs2, hx2⟩ : ∃ xs2, xs2 = xs1 ++ (dsB (ent M j j)).map (entD M i j) := ⟨_, rfl⟩
    have lx2 : xs2.length = 25 := by rw [hx2]; simp [dsB, lx1]
    have g1 := entry_run S (m := k) (by omega) hj (j := i) (by omega) (.int 1)
    have g2 := entry_run S (m := k) (by omega) hj (j := i) (by omega) (.bl false)
    have g3 := entry_run S (m := k) (by omega) (i := i) (j := i) (by omega) (by omega) (.int 1000000000000000000000000000000000000000000000000000000000000)
    have sh := setE_shape S.len S.rows (i := i) (j := i) (by omega) 1000000000000000000000000000000000000000000000000000000000000
    have g4 := entry_run' (m := k) (by omega) sh.1 sh.2 hj hj (.int 2)
    simp only [shr] at g1 g2 g3 g4
    rw [entD_int] at g3
    have f2 := all_dsB S hij hj
    have f3 : OddS (entD M j i (.int 1)) := odd_low S hij hj (by decide) (by decide)
    have f4 : OddS (entD M j i (.bl false)) := odd_ent S hj (by omega) (.bl _) rfl
    have f5 := odd_two S hij hj
    have s5 := shr_scr (setE M i i 1000000000000000000000000000000000000000000000000000000000000)
    refine ⟨xs2 ++ [entD M j i (.int 1), entD M j i (.bl false), entD (setE M i i MOST') j j (.int 2)], d3, ?_, s3.mono (by omega), fun x hx => ?_, ?_⟩
    · rw [← hx1, v0] at l4
      rw [← hx2] at l5
      simp only [dsA, dsB] at l4 l5
      unfold MOST'
      have gj : ((j : Int) = 0) = False := eq_false (by omega)
      simp only [scrD] at e1 ra cut b0 w1 lzz ss l4 rj l5
      have sq : shr (scrD M) = scrD M := shr_scr M
      have fo : D.tup (M.map rowD) = scrD M := rfl
      simp only [← fo] at g1 g2 g3 ⊢
      generalize hW : scrD (setE M i i 1000000000000000000000000000000000000000000000000000000000000) = W at g3 g4 s5
      simp [fillA, ioA, goneA, lentA, okA, putAll, wipeE, shrAll, ioOut, isPk, pk, isiD, own, owns, shr, shrs, noL, noLs, pln, plns, noIo, tgSlots, callI, lenOk_eq, f47F, -List.map_map, -forL_cons, vecD_shr, sr, nr, giveR, lz, hM, e1, o1, ra, va, na, cut, evo, b0, r1, lo, lzz, w1, ss, gt, l4, p10_60, v10_60, i19, e2, s2.own, ej, e3, s3.own, rj, vj, nj, l5, lx2, g1, g2, g3, g4, s5]
    · rcases List.mem_append.mp hx with hx | hx
      · rw [hx2, hx1] at hx
        rcases List.mem_append.mp hx with hx | hx
        · rcases List.mem_append.mp hx with hx | hx
          · exact f0 x hx
          · exact f1 x hx
        · exact f2 x hx
      · simp only [List.mem_cons, List.not_mem_nil, or_false] at hx
        rcases hx with rfl | rfl | rfl
        · exact f3
        · exact f4
        · exact f5
    · rw [List.length_append, lx2]
      simp
  · have gt : ((1 : Int) < (n : Int)) = False := eq_false (by omega)
    refine ⟨odd0 n a M ++ (dsA (ent M a a)).map (entD M a a), d1, ?_, s1.mono (by omega), fun x hx => ?_, ?_⟩
    · rw [v0] at l4 ⊢
      simp only [dsA] at l4 ⊢
      simp only [scrD] at *
      simp [fillA, ioA, goneA, lentA, okA, putAll, wipeE, shrAll, ioOut, isPk, pk, isiD, own, owns, shr, shrs, noL, noLs, pln, plns, noIo, tgSlots, callI, lenOk_eq, f47F, -List.map_map, -forL_cons, vecD_shr, sr, nr, giveR, lz, hM, e1, o1, ra, va, na, cut, evo, b0, r1, lo, lzz, w1, ss, gt, l4, p10_60, v10_60, i19]
    · rcases List.mem_append.mp hx with hx | hx
      · exact f0 x hx
      · exact f1 x hx
    · simp [odd0, dsA]
end

end MP
set_option linter.all false
set_option maxRecDepth 100000
set_option maxHeartbeats 1000000
namespace MP
open PySem PySem.Spec PyProof.Rows L2
--import K01L15
/-- no cell of n directions -/
def OddC (n : Nat) (y : D) : Prop := fine y = true ∧ dep y ≤ 3 ∧ wt y ≤ 80000 ∧ tw n (-MOST') y = false
theorem vec_E1 {n : Nat} {x : Nat → Int} (hx : ∀ t, t < n → (x t).natAbs ≤ 10 ^ 60) : ∀ e ∈ vecD n x, E1 e := by
  intro e he
  unfold vecD at he
  obtain ⟨t, ht, rfl⟩ := List.mem_map.mp he
  have := hx t (List.mem_range.mp ht)
  exact .int (by omega)
theorem R1.odd {n : Nat} {y : D} (h : R1 y) (ht : tw n (-MOST') y = false) : OddC n y := ⟨h.1, Nat.le_trans h.2.1 (by decide), Nat.le_trans h.2.2.1 (by decide), ht⟩
theorem E1.odd {n : Nat} {y : D} (h : E1 y) (ht : tw n (-MOST') y = false) : OddC n y := ⟨h.1, Nat.le_trans h.2.1 (by decide), Nat.le_trans h.2.2.1 (by decide), ht⟩
theorem tw_len {n : Nat} {ys : List D} (h : ys.length ≠ n) : tw n (-MOST') (.tup ys) = false := by
  simp only [tw, h, decide_false, Bool.false_and]
theorem tw_mem {n : Nat} {ys : List D} {y : D} (h : y ∈ ys) (hb : within y (-MOST') MOST' = false) : tw n (-MOST') (.tup ys) = false := by
  simp only [tw, Bool.and_eq_false_iff]
  right
  rw [List.all_eq_false]
  exact ⟨y, h, by rw [hb]; decide⟩
def cells0 (n : Nat) (x : Nat → Int) : List D := [.tup (vecD n x ++ [.int 0]), .tup ((vecD n x).drop 1), .lst true (vecD n x), .non, .bl true, .int 0, .str "0", .lst true [.tup (vecD n x)], .tup [.tup (vecD n x)]]
def dsC (z : Int) : List D := [.int 1000000000000000000000000000000000000000000000000000000000001, .int (-1000000000000000000000000000000000000000000000000000000000001), .non, .bl (decide (z = 1)), .str "0", .tup [.int 0]]
def withD (n : Nat) (x : Nat → Int) (a : Nat) (v : D) : D := .tup ((vecD n x).set a v)
theorem E1.str0 : E1 (.str "0") := by
  unfold E1
  refine ⟨by decide +kernel, by decide, by decide +kernel, rfl⟩
section
variable {n : Nat} {x : Nat → Int} (n1 : 1 ≤ n) (n18 : n ≤ 18) (hx : ∀ t, t < n → (x t).natAbs ≤ 10 ^ 60)
include n1 n18 hx
theorem cell_R1 : R1 (.tup (vecD n x)) := .tup (by rw [vecD_len]; omega) (vec_E1 hx)
theorem all_cells0 : ∀ y ∈ cells0 n x, OddC n y := by
  have R := cell_R1 n1 n18 hx
  intro v hv
  simp only [cells0, List.mem_cons, List.not_mem_nil, or_false] at hv
  rcases hv with rfl | rfl | rfl | rfl | rfl | rfl | rfl | rfl | rfl
  · refine R1.odd (.tup (by rw [List.length_append, vecD_len]; simp only [List.length_cons, List.length_nil]; omega) fun e he => ?_) (tw_len (by rw [List.length_append, vecD_len]; simp only [List.length_cons, List.length_nil]; omega))
    rcases List.mem_append.mp he with he | he
    · exact vec_E1 hx e he
    · rw [List.mem_singleton.mp he]; exact .int (by decide)
  · exact R1.odd (.tup (by rw [List.length_drop, vecD_len]; omega) fun e he => vec_E1 hx e (List.mem_of_mem_drop he)) (tw_len (by rw [List.length_drop, vecD_len]; omega))
  · exact R1.odd (.lst (by rw [vecD_len]; omega) (vec_E1 hx)) rfl
  · exact E1.odd .non rfl
  · exact E1.odd (.bl _) rfl
  · exact E1.odd (.int (by decide)) rfl
  · exact E1.odd .str0 rfl
  · refine ⟨by have r1 := R.1; simp only [fine] at r1; simp only [fine, fines, r1, Bool.and_true, Bool.true_and]; rfl, ?_, ?_, rfl⟩
    · have := R.2.1; simp only [dep, deps] at this ⊢; omega
    · have := R.2.2.1; simp only [wt, wts] at this ⊢; omega
  · refine ⟨by have r1 := R.1; simp only [fine] at r1; simp only [fine, fines, r1, Bool.and_true, Bool.true_and]; rfl, ?_, ?_, tw_mem (.head _) rfl⟩
    · have := R.2.1; simp only [dep, deps] at this ⊢; omega
    · have := R.2.2.1; simp only [wt, wts] at this ⊢; omega
theorem all_dsC {a : Nat} (ha : a < n) (z : Int) : ∀ y ∈ (dsC z).map (withD n x a), OddC n y := by
  intro v hv
  obtain ⟨y, hy, rfl⟩ := List.mem_map.mp hv
  have q : E1 y ∧ within y (-MOST') MOST' = false := by
    simp only [dsC, List.mem_cons, List.not_mem_nil, or_false] at hy
    rcases hy with rfl | rfl | rfl | rfl | rfl | rfl
    · exact ⟨.int (by decide), by decide⟩
    · exact ⟨.int (by decide), by decide⟩
    · exact ⟨.non, rfl⟩
    · exact ⟨.bl _, rfl⟩
    · exact ⟨.str0, rfl⟩
    · exact ⟨.tup1 (by decide), rfl⟩
  refine R1.odd (.tup (by rw [List.length_set, vecD_len]; omega) fun e he => ?_) (tw_mem (y := y) (List.mem_iff_getElem.mpr ⟨a, by rw [List.length_set, vecD_len]; omega, List.getElem_set_self _⟩) q.2)
  rcases List.mem_or_eq_of_mem_set he with h | h
  · exact vec_E1 hx e h
  · rw [h]; exact q.1
omit n1 n18 hx in
theorem loopC {k a : Nat} (hk : 1 ≤ k) (ha : a < n) {d : D} : ∀ (ds : List D) (xs : List D) (o4 : Option D), (∀ v ∈ ds, shr v = v) → xs.length + ds.length ≤ 1000 → ∃ p4, forL (.nm 4) (evSs (runD (tbOf defs) pr k) f48_b1 [0]) ds [some d, some (.tup (vecD n x)), some (.int (a : Int)), some (.lst true xs), o4] = .nx [some d, some (.tup (vecD n x)), some (.int (a : Int)), some (.lst true (xs ++ ds.map (withD n x a))), p4]
  | [], xs, o4, _, _ => ⟨o4, by simp⟩
  | v :: ds, xs, o4, h, hl => by
    simp only [List.length_cons] at hl
    have hv := h v (.head _)
    obtain ⟨p4, ih⟩ := loopC hk ha (d := d) ds (xs ++ [withD n x a v]) (some v) (fun y hy => h y (.tail _ hy)) (by simp only [List.length_append, List.length_cons, List.length_nil]; omega)
    refine ⟨p4, ?_⟩
    have e := with_run (m := k) (by omega) (vecD_noL n x) (vecD_shr n x) (i := a) (by rw [vecD_len]; exact ha) v
    rw [hv] at e
    have lx : xs.length ≤ 16777215 := by omega
    have b : evSs (runD (tbOf defs) pr k) f48_b1 [0] [some d, some (.tup (vecD n x)), some (.int (a : Int)), some (.lst true xs), some v] = .nx [some d, some (.tup (vecD n x)), some (.int (a : Int)), some (.lst true (xs ++ [withD n x a v])), some v] := by
      simp [fillA, ioA, goneA, lentA, okA, putAll, wipeE, shrAll, ioOut, isPk, pk, isiD, own, owns, shr, shrs, noL, noLs, pln, plns, noIo, tgSlots, callI, lenOk_eq, f48_b1, vecD_shr, hv, e, lx, withD]
    simp only [forL_cons, tgE_nm, set_S, set_0, b, ih, List.map_cons, List.append_assoc, List.singleton_append]
theorem cells_run {ns : List Int} (hl : ns.length ≤ 1000) {m : Nat} (hm : 6 ≤ m) {q : Nat} {d : D} (h : St ns q d) (hq : q ≤ 2 ^ 50) : ∃ (ys : List D) (d' : D), runD (tbOf defs) pr m 48 [d, .tup (vecD n x)] = .ok (.lst true ys) [d'] ∧ St ns (q + 10) d' ∧ (∀ y ∈ ys, OddC n y) ∧ ys.length ≤ 100 ∧ ys ≠ [] := by
  obtain ⟨k, rfl⟩ : ∃ k, m = k + 1 := ⟨m - 1, by omega⟩
  rw [F48.run rfl]
  obtain ⟨a, d1, e1, s1, a0, a1⟩ := take18 hl (n := k) (by omega) h (by omega) (many := (n : Int)) (by omega)
  obtain ⟨a, rfl⟩ : ∃ b : Nat, a = (b : Int) := ⟨a.toNat, by omega⟩
  have ha : a < n := by omega
  have o1 := s1.own
  have va := vecD_at (f := x) ha
  have lv := vecD_len n x
  have nx := vecD_noL n x
  have cut : slD (.tup (vecD n x)) (some 1) none = some (.tup ((vecD n x).drop 1)) := by
    have l2 : ((vecD n x).drop 1).length < (vecD n x).length := by rw [List.length_drop, lv]; omega
    show (if decide ((cutD (vecD n x) (some 1) none).length < (vecD n x).length) then some (D.tup (cutD (vecD n x) (some 1) none)) else none) = _
    rw [cut_from _ (by omega), decide_eq_true l2]
    rfl
  have b0 : bop .add (.tup (vecD n x)) (.tup [.int 0]) = some (.tup (vecD n x ++ [.int 0])) := by
    have l2 : lenOk ((vecD n x).length + [D.int 0].length) = true := by rw [lenOk_eq, lv, decide_eq_true_eq]; simp only [List.length_cons, List.length_nil]; omega
    have ne2 : (vecD n x).isEmpty = false := by
      cases e : vecD n x with
      | nil => rw [e] at lv; simp at lv; omega
      | cons _ _ => rfl
    rw [bop_addT, l2, ne2]
    rfl
  have sv : ∀ v ∈ dsC (x a), shr v = v := by
    intro v hv
    simp only [dsC, List.mem_cons, List.not_mem_nil, or_false] at hv
    rcases hv with rfl | rfl | rfl | rfl | rfl | rfl <;> simp [shr, shrs]
  obtain ⟨p4, l4⟩ := loopC (k := k) (n := n) (x := x) (by omega) ha (d := d1) (dsC (x a)) (cells0 n x) none sv (by simp [cells0, dsC])
  refine ⟨cells0 n x ++ (dsC (x a)).map (withD n x a), d1, ?_, s1.mono (by omega), fun y hy => ?_, by simp [cells0, dsC], by simp [cells0]⟩
  · simp only [cells0, dsC] at l4 ⊢
    simp [fillA, ioA, goneA, lentA, okA, putAll, wipeE, shrAll, ioOut, isPk, pk, isiD, own, owns, shr, shrs, noL, noLs, pln, plns, noIo, tgSlots, callI, lenOk_eq, f48F, -List.map_map, -forL_cons, -List.drop_one, vecD_shr, lv, nx, e1, o1, va, cut, evo, b0, l4, p10_60, v10_60]
  · rcases List.mem_append.mp hy with h | h
    · exact all_cells0 n1 n18 hx y h
    · exact all_dsC n1 n18 hx ha _ y h
end

end MP
set_option linter.all false
set_option maxRecDepth 100000
set_option maxHeartbeats 1000000
namespace MP
open PySem PySem.Spec PyProof.Rows L2
--import K01L16
/-! what the law asks of odd values -/
/-- what may stand for a cell -/
def Med (c : D) : Prop := fine c = true ∧ dep c ≤ 3 ∧ wt c ≤ 80000
theorem nice_big {v : D} (h : Big v) : nice (.lst true [v]) = true := by
  obtain ⟨h1, h2, h3, _⟩ := h
  simp only [nice, Bool.and_eq_true, decide_eq_true_eq]
  refine ⟨⟨?_, ?_⟩, ?_⟩
  · simp only [fine, fines, h1, Bool.and_true, Bool.true_and]; rfl
  · simp only [dep, deps]; omega
  · simp only [wt, wts]; omega
theorem nice_two {v c : D} (h : fine v = true ∧ dep v ≤ 4 ∧ wt v ≤ 700000) (hc : Med c) : nice (.lst true [v, c]) = true := by
  obtain ⟨h1, h2, h3⟩ := h
  obtain ⟨g1, g2, g3⟩ := hc
  simp only [nice, Bool.and_eq_true, decide_eq_true_eq]
  refine ⟨⟨?_, ?_⟩, ?_⟩
  · simp only [fine, fines, h1, g1, Bool.and_true, Bool.true_and]; rfl
  · simp only [dep, deps]; omega
  · simp only [wt, wts]; omega
theorem tots_one {v : D} (h : Big v) : tots [v] ≤ 710000 := by
  have := tot_wt v h.1
  have := h.2.2.1
  simp only [tots]
  omega
theorem tots_two {v c : D} (h : fine v = true ∧ dep v ≤ 4 ∧ wt v ≤ 700000) (hc : Med c) : tots [v, c] ≤ 790000 := by
  have := tot_wt v h.1
  have := tot_wt c hc.1
  have := h.2.2
  have := hc.2.2
  simp only [tots]
  omega
theorem OddC.med {n : Nat} {y : D} (h : OddC n y) : Med y := ⟨h.1, h.2.1, h.2.2.1⟩
section
variable {k : Nat} (hk : 20 ≤ k)
include hk
theorem ansIss {v : D} (h : Big v) {b : Bool} (hb : decide (IsScr v) = b) : runD (tbOf defs) pr k 42 [.str "is_screen", .lst false [shr v], .bl b] = .ok (.bl true) [] :=
  answers_run F25 F39 Tt Ts F41 F42 (n := k) (by omega) (what := "is_screen") (args := [v]) (due := .bl b) (r := .bl b) (fun m hm => by
    obtain ⟨m, rfl⟩ : ∃ j, m = j + 1 := ⟨m - 1, by omega⟩
    have e := isScreen_run (n := m) (by omega) h.1 h.2.2.2
    rw [hb] at e
    have := call_iss (k := m) (a := v) (by rw [e]; rfl)
    rw [e] at this
    exact this) (nice_big h) (by cases b <;> decide) rfl (by have := tots_one h; simp only [tot]; omega) rfl rfl (sOk_of _)
theorem ansChs {v : D} (h : Big v) (hb : IsScr v) : runD (tbOf defs) pr k 42 [.str "check_screen", .lst false [shr v], .non] = .ok (.bl true) [] :=
  answers_run F25 F39 Tt Ts F41 F42 (n := k) (by omega) (what := "check_screen") (args := [v]) (due := .non) (r := .non) (fun m hm => by
    obtain ⟨m, rfl⟩ : ∃ j, m = j + 1 := ⟨m - 1, by omega⟩
    have e := chkScreen_run (n := m) (by omega) h.1 h.2.2.2
    rw [if_pos hb] at e
    have := call_chs (k := m) (a := v) (by rw [e]; rfl)
    rw [e] at this
    exact this) (nice_big h) (by decide) rfl (by have := tots_one h; simp only [tot]; omega) rfl rfl (sOk_of _)
theorem refChs {v : D} (h : OddS v) : runD (tbOf defs) pr k 43 [.str "check_screen", .lst false [shr v], .str "BadScreen"] = .ok (.bl true) [] :=
  refuses_run F25 F39 Tt F43 (args := [v]) (by omega) (fun m hm => by
    obtain ⟨m, rfl⟩ : ∃ j, m = j + 1 := ⟨m - 1, by omega⟩
    have e := chkScreen_run (n := m) (by omega) h.1.1 h.1.2.2.2
    rw [if_neg h.2] at e
    have := call_chs (k := m) (a := v) (by rw [e]; rfl)
    rw [e] at this
    exact this) (by decide +kernel) (nice_big h.1) (sOk_of _)
theorem refScr {v c : D} (h : OddS v) (hc : Med c) {what : PySem.Str} (hw : what = "reduced" ∨ what = "written") : runD (tbOf defs) pr k 43 [.str what, .lst false [shr v, shr c], .str "BadScreen"] = .ok (.bl true) [] :=
  refuses_run F25 F39 Tt F43 (args := [v, c]) (by omega) (fun m hm => bad_screen (by omega) hw h.1.1 h.1.2.2.2 h.2) (by decide +kernel) (nice_two ⟨h.1.1, h.1.2.1, h.1.2.2.1⟩ hc) (sOk_of _)
section
variable {n : Nat} {M : List (List Int)} (S : Scr n M)
include S
theorem isCell_n {y : D} : isCellD (.int (n : Int)) y = some (tw n (-MOST') y) := by
  have wi : within (.int (n : Int)) 1 18 = true := by
    have := S.n1
    have := S.n18
    simp only [within, Bool.and_eq_true, decide_eq_true_eq]
    omega
  simp only [isCellD, wi, if_true, Int.toNat_natCast]
omit hk in
theorem int_n : fine (.int (n : Int)) = true ∧ dep (.int (n : Int)) ≤ 4 ∧ wt (.int (n : Int)) ≤ 700000 := ⟨fine_int (by have := S.n18; omega), Nat.zero_le _, by simp only [wt]; omega⟩
theorem ansIsc {y : D} (h : Med y) {b : Bool} (hb : tw n (-MOST') y = b) : runD (tbOf defs) pr k 42 [.str "is_cell", .lst false [.int (n : Int), shr y], .bl b] = .ok (.bl true) [] :=
  answers_run F25 F39 Tt Ts F41 F42 (n := k) (by omega) (what := "is_cell") (args := [.int (n : Int), y]) (due := .bl b) (r := .bl b) (fun m hm => by
    obtain ⟨m, rfl⟩ : ∃ j, m = j + 1 := ⟨m - 1, by omega⟩
    have e := cell_run (n := m) (by omega) (int_n S).1 h.1
    rw [isCell_n hk S, hb] at e
    have := call_isc (k := m) (a := .int (n : Int)) (b := y) (by rw [e]; rfl)
    rw [e] at this
    exact this) (nice_two (int_n S) h) (by cases b <;> decide) rfl (by have := tots_two (int_n S) h; simp only [tot]; omega) rfl rfl (sOk_of _)
theorem ansChc {y : D} (h : Med y) (hb : tw n (-MOST') y = true) : runD (tbOf defs) pr k 42 [.str "check_cell", .lst false [.int (n : Int), shr y], .non] = .ok (.bl true) [] :=
  answers_run F25 F39 Tt Ts F41 F42 (n := k) (by omega) (what := "check_cell") (args := [.int (n : Int), y]) (due := .non) (r := .non) (fun m hm => by
    obtain ⟨m, rfl⟩ : ∃ j, m = j + 1 := ⟨m - 1, by omega⟩
    have e := chkCell_run (n := m) (by omega) (int_n S).1 h.1
    rw [isCell_n hk S, hb] at e
    have := call_chc (k := m) (a := .int (n : Int)) (b := y) (by rw [e]; rfl)
    rw [e] at this
    exact this) (nice_two (int_n S) h) (by decide) rfl (by have := tots_two (int_n S) h; simp only [tot]; omega) rfl rfl (sOk_of _)
theorem refChc {y : D} (h : OddC n y) : runD (tbOf defs) pr k 43 [.str "check_cell", .lst false [.int (n : Int), shr y], .str "BadCell"] = .ok (.bl true) [] :=
  refuses_run F25 F39 Tt F43 (args := [.int (n : Int), y]) (by omega) (fun m hm => by
    obtain ⟨m, rfl⟩ : ∃ j, m = j + 1 := ⟨m - 1, by omega⟩
    have e := chkCell_run (n := m) (by omega) (int_n S).1 h.1
    rw [isCell_n hk S, h.2.2.2] at e
    have := call_chc (k := m) (a := .int (n : Int)) (b := y) (by rw [e]; rfl)
    rw [e] at this
    exact this) (by decide +kernel) (nice_two (int_n S) h.med) (sOk_of _)
omit hk in
theorem scr3 : fine (scrD M) = true ∧ dep (scrD M) ≤ 4 ∧ wt (scrD M) ≤ 700000 := ⟨(Big.scr S).1, (Big.scr S).2.1, (Big.scr S).2.2.1⟩
theorem refCel {y : D} (h : OddC n y) {what : PySem.Str} (hw : what = "reduced" ∨ what = "written") : runD (tbOf defs) pr k 43 [.str what, .lst false [scrD M, shr y], .str "BadCell"] = .ok (.bl true) [] := by
  have := refuses_run F25 F39 Tt F43 (n := k) (what := what) (c := "BadCell") (args := [scrD M, y]) (by omega) (fun m hm => by
    have := bad_cell (m := m) (by omega) hw S h.1 h.2.2.2
    simp only [shrs, shr_scr]
    exact this) (by decide +kernel) (nice_two (scr3 S) h.med) (sOk_of _)
  simp only [shrs, shr_scr] at this
  exact this
end
theorem refNum {d c : D} (hd : fine d = true ∧ dep d ≤ 4 ∧ wt d ≤ 700000) (hc : Med c) (hw : within d 1 18 = false) {what : PySem.Str} (hwh : what = "is_cell" ∨ what = "check_cell") : runD (tbOf defs) pr k 43 [.str what, .lst false [shr d, shr c], .str "BadNumber"] = .ok (.bl true) [] :=
  refuses_run F25 F39 Tt F43 (args := [d, c]) (by omega) (fun m hm => by
    obtain ⟨m, rfl⟩ : ∃ j, m = j + 1 := ⟨m - 1, by omega⟩
    have ic : isCellD d c = none := by
      unfold isCellD
      cases d with
      | int i => simp only [hw]; rfl
      | _ => rfl
    rcases hwh with rfl | rfl
    · have e := cell_run (n := m) (by omega) hd.1 hc.1
      rw [ic] at e
      have := call_isc (k := m) (a := d) (b := c) (by rw [e]; rfl)
      rw [e] at this
      exact this
    · have e := chkCell_run (n := m) (by omega) hd.1 hc.1
      rw [ic] at e
      have := call_chc (k := m) (a := d) (b := c) (by rw [e]; rfl)
      rw [e] at this
      exact this) (by decide +kernel) (nice_two hd hc) (sOk_of _)
end

end MP
set_option linter.all false
set_option maxRecDepth 100000
set_option maxHeartbeats 1000000
namespace MP
open PySem PySem.Spec PyProof.Rows L2
--import K01L17
theorem xRD : cmpD .eq (.str "reduced") (.str "check_cell") = some false := by decide +kernel
theorem xWD : cmpD .eq (.str "written") (.str "check_cell") = some false := by decide +kernel
theorem xDD : cmpD .eq (.str "check_cell") (.str "check_cell") = some true := by decide +kernel
theorem pc_all {zs ys : List D} (h : shrs zs = shrs ys) : shrs (shrs zs) = shrs ys := by rw [shrs2]; exact h
def numsD : List D := [.non, .bl true, .bl false, .str "", .str "1", .lst true [], .tup [], .lst true [.int 1], .tup [.int 1], .int 0, .int 19]
theorem nums_run {m : Nat} (hm : 2 ≤ m) : runD (tbOf defs) pr m 36 [.int 1, .int 18] = .ok (.lst true numsD) [] := by
  obtain ⟨k, rfl⟩ : ∃ k, m = k + 2 := ⟨m - 2, by omega⟩
  rw [F36.run rfl]
  have e : runD (tbOf defs) pr (k + 1) 35 [] = .ok (.lst true [.non, .bl true, .bl false, .str "", .str "1", .lst true [], .tup [], .lst true [.int 1], .tup [.int 1]]) [] := by
    rw [F35.run rfl]
    rfl
  simp [fillA, ioA, goneA, lentA, okA, putAll, wipeE, shrAll, ioOut, isPk, pk, isiD, own, owns, shr, shrs, noL, noLs, pln, plns, noIo, tgSlots, callI, lenOk_eq, f36F, e, numsD]
theorem nums_all : ∀ y ∈ numsD, (fine y = true ∧ dep y ≤ 4 ∧ wt y ≤ 700000) ∧ within y 1 18 = false := by
  intro v hv
  simp only [numsD, List.mem_cons, List.not_mem_nil, or_false] at hv
  rcases hv with rfl | rfl | rfl | rfl | rfl | rfl | rfl | rfl | rfl | rfl | rfl <;> exact ⟨⟨by decide +kernel, by decide +kernel, by decide +kernel⟩, by decide⟩
section
variable {ns : List Int} (hl : ns.length ≤ 1000) {n : Nat} {M : List (List Int)} (S : Scr n M) {x : Nat → Int} (hx : ∀ t, t < n → (x t).natAbs ≤ 10 ^ 60) {k : Nat} (hk : 20 ≤ k) {ys : List D} (hy : ∀ y ∈ ys, OddC n y) (y1 : ys ≠ []) (y2 : ys.length ≤ 100)
include hl S hx hk hy y1 y2
theorem b2_run {q : Nat} {d : D} (h : St ns q d) (hq : q ≤ 2 ^ 60) {v : D} (hv : OddS v) {b : Bool} {zs : List D} (hz : shrs zs = shrs ys) {o4 o6 o7 o8 : Option D} :
    ∃ (d' : D) (b' : Bool) (zs' : List D) (o6' o7' : Option D), evSs (runD (tbOf defs) pr k) f49_b2 [0] [some d, some (scrD M), some (.tup (vecD n x)), some (.lst b zs), o4, some (shr v), o6, o7, o8] = .nx [some d', some (scrD M), some (.tup (vecD n x)), some (.lst b' zs'), o4, some (shr v), o6', o7', o8] ∧ St ns (q + 2) d' ∧ shrs zs' = shrs ys := by
  have a1 := ansIss hk hv.1 (decide_eq_false hv.2)
  have a2 := refChs hk hv
  have cm : Med (.tup (vecD n x)) := by
    have R := cell_R1 S.n1 S.n18 hx
    exact ⟨R.1, Nat.le_trans R.2.1 (by decide), Nat.le_trans R.2.2.1 (by decide)⟩
  have nx := vecD_noL n x
  obtain ⟨t, d1, e1, s1⟩ := rare21 hl (n := k) (by omega) h (by omega) (many := 2) (by decide)
  have o1 := s1.own
  cases t with
  | true =>
    have r1 := refScr hk hv cm (what := "reduced") (.inl rfl)
    have r2 := refScr hk hv cm (what := "written") (.inr rfl)
    simp only [shr, vecD_shr] at r1 r2
    refine ⟨d1, b, zs, some (.tup (vecD n x)), some (.str "written"), ?_, s1.mono (by omega), hz⟩
    by_cases hn : noL v = true <;> simp [fillA, ioA, goneA, lentA, okA, putAll, wipeE, shrAll, ioOut, isPk, pk, isiD, own, owns, shr, shrs, noL, noLs, pln, plns, noIo, tgSlots, callI, lenOk_eq, f49_b2, f49_b1, noL_shr, vecD_shr, vecD_noL, hn, a1, a2, e1, o1, r1, r2]
  | false =>
    obtain ⟨c, d2, e2, s2, hc⟩ := pick20 hl (n := k) (by omega) s1 (by omega) ys y1 (by omega)
    have o2 := s2.own
    have r1 := refScr hk hv (hy c hc).med (what := "reduced") (.inl rfl)
    have r2 := refScr hk hv (hy c hc).med (what := "written") (.inr rfl)
    rw [← hz] at e2
    by_cases ho : own (shr c) = true
    · refine ⟨d2, b, zs, some (shr c), some (.str "written"), ?_, s2, hz⟩
      by_cases hn : noL v = true <;> by_cases hn2 : noL c = true <;> simp [fillA, ioA, goneA, lentA, okA, putAll, wipeE, shrAll, ioOut, isPk, pk, isiD, own, owns, shr, shrs, noL, noLs, pln, plns, noIo, tgSlots, callI, lenOk_eq, f49_b2, f49_b1, noL_shr, hn, hn2, a1, a2, e1, o1, e2, o2, ho, r1, r2]
    · refine ⟨d2, false, shrs zs, some (shr c), some (.str "written"), ?_, s2, pc_all hz⟩
      by_cases hn : noL v = true <;> by_cases hn2 : noL c = true <;> simp [fillA, ioA, goneA, lentA, okA, putAll, wipeE, shrAll, ioOut, isPk, pk, isiD, own, owns, shr, shrs, noL, noLs, pln, plns, noIo, tgSlots, callI, lenOk_eq, f49_b2, f49_b1, noL_shr, hn, hn2, a1, a2, e1, o1, e2, o2, ho, r1, r2]
theorem b4_run {d : D} {y : D} (h : OddC n y) {o3 o4 o6 o7 o8 : Option D} :
    ∃ (o7' : Option D), evSs (runD (tbOf defs) pr k) f49_b4 [0] [some d, some (scrD M), some (.tup (vecD n x)), o3, o4, some (shr y), o6, o7, o8] = .nx [some d, some (scrD M), some (.tup (vecD n x)), o3, o4, some (shr y), o6, o7', o8] := by
  have a1 := ansIsc hk S h.med h.2.2.2
  have r1 := refCel hk S h (what := "reduced") (.inl rfl)
  have r2 := refCel hk S h (what := "written") (.inr rfl)
  have r3 := refChc hk S h
  have lv := vecD_len n x
  have ns := noL_scr M
  have ss := shr_scr M
  refine ⟨some (.str "check_cell"), ?_⟩
  by_cases hn : noL y = true <;> simp [fillA, ioA, goneA, lentA, okA, putAll, wipeE, shrAll, ioOut, isPk, pk, isiD, own, owns, shr, shrs, noL, noLs, pln, plns, noIo, tgSlots, callI, lenOk_eq, f49_b4, f49_b3, noL_shr, lv, ns, ss, hn, a1, r1, r2, r3, xRD, xWD, xDD]
theorem b5_run {q : Nat} {d : D} (h : St ns q d) (hq : q ≤ 2 ^ 60) {v : D} (hv : (fine v = true ∧ dep v ≤ 4 ∧ wt v ≤ 700000) ∧ within v 1 18 = false) {b : Bool} {zs : List D} (hz : shrs zs = shrs ys) {o4 o6 o7 o8 : Option D} :
    ∃ (d' : D) (b' : Bool) (zs' : List D), evSs (runD (tbOf defs) pr k) f49_b5 [0] [some d, some (scrD M), some (.tup (vecD n x)), some (.lst b zs), o4, some (shr v), o6, o7, o8] = .nx [some d', some (scrD M), some (.tup (vecD n x)), some (.lst b' zs'), o4, none, o6, o7, none] ∧ St ns (q + 2) d' ∧ shrs zs' = shrs ys := by
  have cm : Med (.tup (vecD n x)) := by
    have R := cell_R1 S.n1 S.n18 hx
    exact ⟨R.1, Nat.le_trans R.2.1 (by decide), Nat.le_trans R.2.2.1 (by decide)⟩
  obtain ⟨t, d1, e1, s1⟩ := rare21 hl (n := k) (by omega) h (by omega) (many := 2) (by decide)
  have o1 := s1.own
  cases t with
  | true =>
    have r1 := refNum hk hv.1 cm hv.2 (what := "is_cell") (.inl rfl)
    have r2 := refNum hk hv.1 cm hv.2 (what := "check_cell") (.inr rfl)
    simp only [shr, vecD_shr] at r1 r2
    refine ⟨d1, b, zs, ?_, s1.mono (by omega), hz⟩
    by_cases hn : noL v = true <;> simp [fillA, ioA, goneA, lentA, okA, putAll, wipeE, shrAll, ioOut, isPk, pk, isiD, own, owns, shr, shrs, noL, noLs, pln, plns, noIo, tgSlots, callI, lenOk_eq, f49_b5, noL_shr, vecD_shr, vecD_noL, hn, e1, o1, r1, r2]
  | false =>
    obtain ⟨c, d2, e2, s2, hc⟩ := pick20 hl (n := k) (by omega) s1 (by omega) ys y1 (by omega)
    have o2 := s2.own
    have r1 := refNum hk hv.1 (hy c hc).med hv.2 (what := "is_cell") (.inl rfl)
    have r2 := refNum hk hv.1 (hy c hc).med hv.2 (what := "check_cell") (.inr rfl)
    rw [← hz] at e2
    by_cases ho : own (shr c) = true
    · refine ⟨d2, b, zs, ?_, s2, hz⟩
      by_cases hn : noL v = true <;> by_cases hn2 : noL c = true <;> simp [fillA, ioA, goneA, lentA, okA, putAll, wipeE, shrAll, ioOut, isPk, pk, isiD, own, owns, shr, shrs, noL, noLs, pln, plns, noIo, tgSlots, callI, lenOk_eq, f49_b5, noL_shr, hn, hn2, e1, o1, e2, o2, ho, r1, r2]
    · refine ⟨d2, false, shrs zs, ?_, s2, pc_all hz⟩
      by_cases hn : noL v = true <;> by_cases hn2 : noL c = true <;> simp [fillA, ioA, goneA, lentA, okA, putAll, wipeE, shrAll, ioOut, isPk, pk, isiD, own, owns, shr, shrs, noL, noLs, pln, plns, noIo, tgSlots, callI, lenOk_eq, f49_b5, noL_shr, hn, hn2, e1, o1, e2, o2, ho, r1, r2]
end

end MP
set_option linter.all false
set_option maxRecDepth 100000
set_option maxHeartbeats 1000000
namespace MP
open PySem PySem.Spec PyProof.Rows L2
--import K01L18
section
variable {ns : List Int} (hl : ns.length ≤ 1000) {n : Nat} {M : List (List Int)} (S : Scr n M) {x : Nat → Int} (hx : ∀ t, t < n → (x t).natAbs ≤ 10 ^ 60) {k : Nat} (hk : 20 ≤ k)
include hl S hx hk
section
variable {ys : List D} (hy : ∀ y ∈ ys, OddC n y) (y1 : ys ≠ []) (y2 : ys.length ≤ 100)
include hy y1 y2
theorem loop2 : ∀ (ds : List D) (q : Nat) (d : D) (b : Bool) (zs : List D) (o4 o5 o6 o7 o8 : Option D), St ns q d → q + 2 * ds.length ≤ 2 ^ 60 → (∀ y ∈ ds, OddS y) → shrs zs = shrs ys →
    ∃ (d' : D) (b' : Bool) (zs' : List D) (o5' o6' o7' : Option D), forL (.nm 5) (evSs (runD (tbOf defs) pr k) f49_b2 [0]) (shrs ds) [some d, some (scrD M), some (.tup (vecD n x)), some (.lst b zs), o4, o5, o6, o7, o8] = .nx [some d', some (scrD M), some (.tup (vecD n x)), some (.lst b' zs'), o4, o5', o6', o7', o8] ∧ St ns (q + 2 * ds.length) d' ∧ shrs zs' = shrs ys
  | [], q, d, b, zs, o4, o5, o6, o7, o8, h, _, _, hz => ⟨d, b, zs, o5, o6, o7, by simp [shrs], h, hz⟩
  | v :: ds, q, d, b, zs, o4, o5, o6, o7, o8, h, hq, hd, hz => by
    simp only [List.length_cons] at hq ⊢
    obtain ⟨d1, b1, zs1, p6, p7, e1, s1, z1⟩ := b2_run hl S hx hk hy y1 y2 h (by omega) (hd v (.head _)) (b := b) hz (o4 := o4) (o6 := o6) (o7 := o7) (o8 := o8)
    obtain ⟨d2, b2, zs2, q5, q6, q7, e2, s2, z2⟩ := loop2 ds (q + 2) d1 b1 zs1 o4 (some (shr v)) p6 p7 o8 s1 (by omega) (fun y h => hd y (.tail _ h)) z1
    refine ⟨d2, b2, zs2, q5, q6, q7, ?_, s2.mono (by omega), z2⟩
    simp only [shrs, forL_cons, tgE_nm, set_S, set_0, e1, e2]
theorem loop6 : ∀ (ds : List D) (q : Nat) (d : D) (b : Bool) (zs : List D) (o4 o5 o6 o7 o8 : Option D), St ns q d → q + 2 * ds.length ≤ 2 ^ 60 → (∀ v ∈ ds, (fine v = true ∧ dep v ≤ 4 ∧ wt v ≤ 700000) ∧ within v 1 18 = false) → shrs zs = shrs ys →
    ∃ (d' : D) (b' : Bool) (zs' : List D) (o5' o8' : Option D), forL (.nm 5) (evSs (runD (tbOf defs) pr k) f49_b5 [0]) (shrs ds) [some d, some (scrD M), some (.tup (vecD n x)), some (.lst b zs), o4, o5, o6, o7, o8] = .nx [some d', some (scrD M), some (.tup (vecD n x)), some (.lst b' zs'), o4, o5', o6, o7, o8'] ∧ St ns (q + 2 * ds.length) d' ∧ shrs zs' = shrs ys
  | [], q, d, b, zs, o4, o5, o6, o7, o8, h, _, _, hz => ⟨d, b, zs, o5, o8, by simp [shrs], h, hz⟩
  | v :: ds, q, d, b, zs, o4, o5, o6, o7, o8, h, hq, hd, hz => by
    simp only [List.length_cons] at hq ⊢
    obtain ⟨d1, b1, zs1, e1, s1, z1⟩ := b5_run hl S hx hk hy y1 y2 h (by omega) (hd v (.head _)) (b := b) hz (o4 := o4) (o6 := o6) (o7 := o7) (o8 := o8)
    obtain ⟨d2, b2, zs2, q5, q8, e2, s2, z2⟩ := loop6 ds (q + 2) d1 b1 zs1 o4 none o6 o7 none s1 (by omega) (fun y h => hd y (.tail _ h)) z1
    refine ⟨d2, b2, zs2, q5, q8, ?_, s2.mono (by omega), z2⟩
    simp only [shrs, forL_cons, tgE_nm, set_S, set_0, e1, e2]
theorem loop4' : ∀ (ds : List D) (d : D) (o3 o4 o5 o6 o7 o8 : Option D), (∀ y ∈ ds, OddC n y) →
    ∃ (o5' o7' : Option D), forL (.nm 5) (evSs (runD (tbOf defs) pr k) f49_b4 [0]) (shrs ds) [some d, some (scrD M), some (.tup (vecD n x)), o3, o4, o5, o6, o7, o8] = .nx [some d, some (scrD M), some (.tup (vecD n x)), o3, o4, o5', o6, o7', o8]
  | [], d, o3, o4, o5, o6, o7, o8, _ => ⟨o5, o7, by simp [shrs]⟩
  | v :: ds, d, o3, o4, o5, o6, o7, o8, hd => by
    obtain ⟨p7, e1⟩ := b4_run hl S hx hk hy y1 y2 (d := d) (hd v (.head _)) (o3 := o3) (o4 := o4) (o6 := o6) (o7 := o7) (o8 := o8)
    obtain ⟨q5, q7, e2⟩ := loop4' ds d o3 o4 (some (shr v)) o6 p7 o8 (fun y h => hd y (.tail _ h))
    refine ⟨q5, q7, ?_⟩
    simp only [shrs, forL_cons, tgE_nm, set_S, set_0, e1, e2]
end
theorem turned_run {q : Nat} {d : D} (h : St ns q d) (hq : q ≤ 2 ^ 49) : ∃ d', runD (tbOf defs) pr (k + 1) 49 [d, scrD M, .tup (vecD n x)] = .ok (.bl true) [d'] ∧ St ns (q + 1000) d' := by
  rw [F49.run rfl]
  obtain ⟨ys, d1, e1, s1, hy, y2, y1⟩ := cells_run S.n1 S.n18 hx hl (m := k) (by omega) h (by omega)
  obtain ⟨xs, d2, e2, s2, hxs, x2⟩ := odds_run hl S (m := k) (by omega) s1 (by omega)
  obtain ⟨d3, b3, zs3, p5, p6, p7, e3, s3, z3⟩ := loop2 hl S hx hk hy y1 y2 xs (q + 10 + 10) d2 true ys (some (.lst false (shrs xs))) none none none none s2 (by omega) hxs rfl
  obtain ⟨q5, q7, e4⟩ := loop4' hl S hx hk hy y1 y2 ys d3 (some (.lst false (shrs ys))) (some (.lst false (shrs xs))) p5 p6 p7 none hy
  obtain ⟨d5, b5, zs5, r5, r8, e5, s5, z5⟩ := loop6 hl S hx hk hy y1 y2 numsD (q + 10 + 10 + 2 * xs.length) d3 false (shrs ys) (some (.lst false (shrs xs))) q5 p6 q7 none s3 (by simp only [numsD, List.length_cons, List.length_nil]; omega) nums_all (by rw [shrs2])
  refine ⟨d5, ?_, s5.mono (by simp only [numsD, List.length_cons, List.length_nil]; omega)⟩
  have e36 := nums_run (m := k) (by omega)
  have ss := shr_scr M
  simp [fillA, ioA, goneA, lentA, okA, putAll, wipeE, shrAll, ioOut, isPk, pk, isiD, own, owns, shr, shrs, noL, noLs, pln, plns, noIo, tgSlots, callI, lenOk_eq, f49F, vecD_shr, e1, s1.own, e2, s2.own, ss, e3, z3, e4, e36, e5, s5.own]
end

end MP
set_option linter.all false
set_option maxRecDepth 100000
set_option maxHeartbeats 1000000
namespace MP
open PySem PySem.Spec PyProof.Rows L2
--import K01L19
theorem ttru_vec (f : Nat → Int) : ∀ l : List Nat, ttru (l.map fun t => D.int (f t)) = some (l.map fun t => f t != 0)
  | [] => rfl
  | t :: l => by simp only [List.map_cons, ttru, ttru_vec f l, Option.map_some]
def anyC (n : Nat) (c : Nat → Int) : Bool := ((List.range n).map fun t => c t != 0).any id
theorem ttru_any (n : Nat) (c : Nat → Int) : (ttru (vecD n c)).map (fun bs => D.bl (bs.any id)) = some (.bl (anyC n c)) := by
  unfold vecD
  rw [ttru_vec]
  rfl
theorem anyC_false {n : Nat} {c : Nat → Int} : anyC n c = false ↔ ∀ t, t < n → c t = 0 := by
  unfold anyC
  rw [List.any_map, List.any_eq_false]
  constructor
  · intro h t ht
    have := h t (List.mem_range.mpr ht)
    simpa using this
  · intro h t ht
    have := h t (List.mem_range.mp ht)
    simp [this]
theorem whole26 {m : Nat} (hm : 1 ≤ m) (i : Int) : runD (tbOf defs) pr m 26 [.int i] = .ok (.bl true) [] := by
  obtain ⟨k, rfl⟩ : ∃ k, m = k + 1 := ⟨m - 1, by omega⟩
  rw [F26.run rfl]
  simp [fillA, ioA, goneA, lentA, okA, putAll, wipeE, shrAll, ioOut, isPk, pk, isiD, own, owns, shr, shrs, noL, noLs, pln, plns, noIo, tgSlots, callI, lenOk_eq, f26F]
theorem cell27 {m : Nat} (hm : 2 ≤ m) {n : Nat} (n18 : n ≤ 18) (f : Nat → Int) : runD (tbOf defs) pr m 27 [.int (n : Int), .tup (vecD n f)] = .ok (.bl true) [] := by
  obtain ⟨k, rfl⟩ : ∃ k, m = k + 1 := ⟨m - 1, by omega⟩
  rw [F27.run rfl]
  have lc := lcL_map (turn := turnL (.nm 2) (fun s => .ok true s) (evX (runD (tbOf defs) pr k) f27_x1).val) (ws := [2]) (s := [some (.int (n : Int)), some (.tup (vecD n f)), none]) (fun _ => .bl true) (vecD n f) [] (fun d hd => by
    unfold vecD at hd
    obtain ⟨t, ht, rfl⟩ := List.mem_map.mp hd
    have e := whole26 (m := k) (by omega) (f t)
    refine ⟨[some (.int (n : Int)), some (.tup (vecD n f)), some (.int (f t))], ?_, rfl⟩
    simp [fillA, ioA, goneA, lentA, okA, putAll, wipeE, shrAll, ioOut, isPk, pk, isiD, own, owns, shr, shrs, noL, noLs, pln, plns, noIo, tgSlots, callI, lenOk_eq, turnL, f27_x1, e]) (by rw [lenOk_eq, vecD_len, decide_eq_true_eq]; simp only [List.length_nil]; omega)
  have t : ttru ((vecD n f).map fun _ => .bl true) = some ((vecD n f).map fun _ => true) := ttru_map (fun _ => true) _
  have t2 : (((vecD n f).map fun _ => true)).all id = true := by rw [List.all_map]; exact List.all_eq_true.mpr fun _ _ => rfl
  rw [List.nil_append] at lc
  simp [fillA, ioA, goneA, lentA, okA, putAll, wipeE, shrAll, ioOut, isPk, pk, isiD, own, owns, shr, shrs, noL, noLs, pln, plns, noIo, tgSlots, callI, lenOk_eq, f27F, -List.map_const, -List.map_const', -List.all_map, -List.all_replicate, vecD_shr, vecD_noL, vecD_len, giveR, lc, t, t2]
section
variable {n : Nat} {M : List (List Int)} (S : Scr n M) {k : Nat} (hk : 20 ≤ k)
include S
theorem med_vec {x : Nat → Int} (hx : ∀ t, t < n → (x t).natAbs < 2 ^ 250) : Med (.tup (vecD n x)) ∧ Med (.lst true (vecD n x)) := by
  have E : ∀ e ∈ vecD n x, E1 e := by
    intro e he
    unfold vecD at he
    obtain ⟨t, ht, rfl⟩ := List.mem_map.mp he
    exact .int (hx t (List.mem_range.mp ht))
  have l : (vecD n x).length ≤ 19 := by rw [vecD_len]; have := S.n18; omega
  have R := R1.tup l E
  have L := R1.lst (o := true) l E
  exact ⟨⟨R.1, Nat.le_trans R.2.1 (by decide), Nat.le_trans R.2.2.1 (by decide)⟩, ⟨L.1, Nat.le_trans L.2.1 (by decide), Nat.le_trans L.2.2.1 (by decide)⟩⟩
omit S in
theorem med_nice {c : D} (h : Med c) : nice c = true ∧ tot c ≤ 80000 := by
  obtain ⟨g1, g2, g3⟩ := h
  have := tot_wt c g1
  simp only [nice, g1, Bool.true_and, Bool.and_eq_true, decide_eq_true_eq]
  exact ⟨⟨by omega, by omega⟩, by omega⟩
theorem cor_small {c : Nat → Int} (h : ∀ t, t < n → 0 ≤ c t ∧ c t < ent M t t) : ∀ t, t < n → (c t).natAbs ≤ 10 ^ 60 := by
  intro t ht
  have h1 := h t ht
  have h2 := diag_le S ht
  unfold MOST' at h2
  omega
include hk
theorem ansRed {x v c : Nat → Int} (Dc : Dec n M x v c) (hx : ∀ t, t < n → (x t).natAbs ≤ 10 ^ 60) : runD (tbOf defs) pr k 42 [.str "reduced", .lst false [scrD M, .tup (vecD n x)], .tup (vecD n c)] = .ok (.bl true) [] := by
  have mx := (med_vec S (x := x) fun t ht => by have := hx t ht; omega).1
  have mc := (med_vec S (x := c) fun t ht => by have := cor_small S (fun t ht => ⟨Dc.c0 t ht, Dc.c1 t ht⟩) t ht; omega).1
  have nc := med_nice mc
  have := answers_run F25 F39 Tt Ts F41 F42 (n := k) (by omega) (what := "reduced") (args := [scrD M, .tup (vecD n x)]) (due := .tup (vecD n c)) (r := .tup (vecD n c)) (fun m hm => by
    obtain ⟨m, rfl⟩ : ∃ j, m = j + 1 := ⟨m - 1, by omega⟩
    have e := reduced_run S Dc hx (m := m) (by omega)
    have := call_red (k := m) (a := scrD M) (b := .tup (vecD n x)) (by simp only [shr_scr, shr, vecD_shr]; rw [e]; rfl)
    simp only [shr_scr, shr, vecD_shr, shrs] at this ⊢
    rw [e] at this
    exact this) (nice_two (scr3 S) mx) nc.1 (vecD_own n c) (by have := tots_two (scr3 S) mx; have := nc.2; omega) rfl (pln_fine _ (nice_fine nc.1)) (sOk_of _)
  simp only [shr_scr, shr, vecD_shr, shrs] at this
  exact this
theorem wri_call {x v c : Nat → Int} (Dc : Dec n M x v c) (hx : ∀ t, t < n → (x t).natAbs ≤ 10 ^ 60) {m : Nat} (hm : 7 ≤ m) : runD (tbOf defs) pr m 37 [.str "written", .lst false (shrs [scrD M, .tup (vecD n x)])] = .ok (if (∀ t, t < n → c t = 0) then .lst true (vecD n v) else .non) [] := by
  obtain ⟨m, rfl⟩ : ∃ j, m = j + 1 := ⟨m - 1, by omega⟩
  have e := written_run S Dc hx (m := m) (by omega)
  have e2 : runD (tbOf defs) pr m 13 [scrD M, .tup (vecD n x)] = .ok (if (∀ t, t < n → c t = 0) then .lst true (vecD n v) else .non) [] := by
    rw [e]
    by_cases h : (∀ t, t < n → c t = 0)
    · rw [if_pos h, if_pos h]
    · rw [if_neg h, if_neg h]
  have := call_wri (k := m) (a := scrD M) (b := .tup (vecD n x)) (by simp only [shr_scr, shr, vecD_shr]; rw [e2]; rfl)
  simp only [shr_scr, shr, vecD_shr, shrs] at this ⊢
  rw [e2] at this
  exact this
theorem wri_med {x v c : Nat → Int} (Dc : Dec n M x v c) (hx : ∀ t, t < n → (x t).natAbs ≤ 10 ^ 60) : Med (if (∀ t, t < n → c t = 0) then .lst true (vecD n v) else .non) := by
  by_cases h : (∀ t, t < n → c t = 0)
  · rw [if_pos h]
    exact (med_vec S (x := v) fun t ht => by have := v_small S Dc hx ht; omega).2
  · rw [if_neg h]
    exact ⟨by decide, by decide, by decide⟩
theorem ansWri {x v c : Nat → Int} (Dc : Dec n M x v c) (hx : ∀ t, t < n → (x t).natAbs ≤ 10 ^ 60) : runD (tbOf defs) pr k 42 [.str "written", .lst false [scrD M, .tup (vecD n x)], if (∀ t, t < n → c t = 0) then .lst false (vecD n v) else .non] = .ok (.bl true) [] := by
  have mx := (med_vec S (x := x) fun t ht => by have := hx t ht; omega).1
  have mr := wri_med S hk Dc hx
  have nc := med_nice mr
  have := answers_run F25 F39 Tt Ts F41 F42 (n := k) (by omega) (what := "written") (args := [scrD M, .tup (vecD n x)]) (due := if (∀ t, t < n → c t = 0) then .lst true (vecD n v) else .non) (r := if (∀ t, t < n → c t = 0) then .lst true (vecD n v) else .non) (fun m hm => wri_call S hk Dc hx (by omega)) (nice_two (scr3 S) mx) nc.1 (by split; exact (by simp only [own, vecD_own, Bool.and_self]); rfl) (by have := tots_two (scr3 S) mx; have := nc.2; omega) rfl (pln_fine _ (nice_fine nc.1)) (sOk_of _)
  have e : shr (if (∀ t, t < n → c t = 0) then .lst true (vecD n v) else .non) = if (∀ t, t < n → c t = 0) then .lst false (vecD n v) else .non := by
    split
    · simp only [shr, vecD_shr]
    · rfl
  rw [e] at this
  simp only [shr_scr, shr, vecD_shr, shrs] at this
  exact this
theorem askWri {x v : Nat → Int} (Dc : Dec n M x v fun _ => 0) (hx : ∀ t, t < n → (x t).natAbs ≤ 10 ^ 60) : runD (tbOf defs) pr k 41 [.str "written", .lst false [scrD M, .tup (vecD n x)]] = .ok (.lst true [.lst false (vecD n v)]) [] := by
  have mx := (med_vec S (x := x) fun t ht => by have := hx t ht; omega).1
  have mr := wri_med S hk Dc hx
  rw [if_pos fun _ _ => rfl] at mr
  have nc := med_nice mr
  have := asked_run F25 F39 Tt Ts F41 (n := k) (by omega) (what := "written") (args := [scrD M, .tup (vecD n x)]) (r := .lst true (vecD n v)) (fun m hm => by
    have := wri_call S hk Dc hx (m := m) (by omega)
    rw [if_pos fun _ _ => rfl] at this
    exact this) (nice_two (scr3 S) mx) nc.1 (by simp only [own, vecD_own, Bool.and_self]) (by have := tots_two (scr3 S) mx; have := nc.2; omega)
  simp only [shr_scr, shr, vecD_shr, shrs] at this
  exact this
end

end MP
set_option linter.all false
set_option maxRecDepth 100000
set_option maxHeartbeats 1000000
namespace MP
open PySem PySem.Spec PyProof.Rows L2
--import K01L20
theorem sumL_zero {f : Nat → Int} : ∀ {n : Nat}, sumL (fun i => 0 * f i) n = 0
  | 0 => rfl
  | n + 1 => by
    show sumL (fun i => 0 * f i) n + 0 * f n = 0
    rw [sumL_zero, Int.zero_mul]
    rfl
theorem abs46 {k n : Nat} (n18 : n ≤ 18) (f : Nat → Int) (e0 e1 e2 e3 e4 e5 e6 e7 : Option D) :
    lcL (turnL (.nm 8) (fun s => .ok true s) (evX (runD (tbOf defs) pr k) f46_x3).val) [8] (vecD n f) [] [e0, e1, e2, e3, e4, e5, e6, e7, none] = .ok (.lst true (vecD n fun t => absI (f t))) [e0, e1, e2, e3, e4, e5, e6, e7, none] := by
  have lc := lcL_map (turn := turnL (.nm 8) (fun s => .ok true s) (evX (runD (tbOf defs) pr k) f46_x3).val) (ws := [8]) (s := [e0, e1, e2, e3, e4, e5, e6, e7, none]) (fun d => match d with
    | .int i => .int (absI i)
    | _ => .non) (vecD n f) [] (fun d hd => by
    unfold vecD at hd
    obtain ⟨t, ht, rfl⟩ := List.mem_map.mp hd
    refine ⟨[e0, e1, e2, e3, e4, e5, e6, e7, some (.int (f t))], ?_, rfl⟩
    simp [fillA, ioA, goneA, lentA, okA, putAll, wipeE, shrAll, ioOut, isPk, pk, isiD, own, owns, shr, shrs, noL, noLs, pln, plns, noIo, tgSlots, callI, lenOk_eq, turnL, f46_x3, absI]) (by rw [lenOk_eq, vecD_len, decide_eq_true_eq]; simp only [List.length_nil]; omega)
  rw [lc, List.nil_append]
  unfold vecD
  rw [List.map_map]
  rfl
theorem sub46 {k n : Nat} (n18 : n ≤ 18) (x c : Nat → Int) (e0 e1 e4 e5 e6 e8 : Option D) :
    lcL (turnL (.nm 7) (fun s => .ok true s) (evX (runD (tbOf defs) pr k) f46_x2).val) [7] (rngD 0 1 n) [] [e0, e1, some (.tup (vecD n x)), some (.tup (vecD n c)), e4, e5, e6, none, e8] = .ok (.lst true (vecD n fun t => x t - c t)) [e0, e1, some (.tup (vecD n x)), some (.tup (vecD n c)), e4, e5, e6, none, e8] := by
  have lc := lcL_map (turn := turnL (.nm 7) (fun s => .ok true s) (evX (runD (tbOf defs) pr k) f46_x2).val) (ws := [7]) (s := [e0, e1, some (.tup (vecD n x)), some (.tup (vecD n c)), e4, e5, e6, none, e8]) (fun d => match d with
    | .int i => .int (x i.toNat - c i.toNat)
    | _ => .non) (rngD 0 1 n) [] (fun d hd => by
    obtain ⟨t, rfl, ht⟩ := rngD_nat n d hd
    have a := vecD_at (f := x) ht
    have b := vecD_at (f := c) ht
    refine ⟨[e0, e1, some (.tup (vecD n x)), some (.tup (vecD n c)), e4, e5, e6, some (.int (t : Int)), e8], ?_, rfl⟩
    simp [fillA, ioA, goneA, lentA, okA, putAll, wipeE, shrAll, ioOut, isPk, pk, isiD, own, owns, shr, shrs, noL, noLs, pln, plns, noIo, tgSlots, callI, lenOk_eq, turnL, f46_x2, a, b]) (by rw [lenOk_eq, rngD_len, decide_eq_true_eq]; simp only [List.length_nil]; omega)
  rw [lc, List.nil_append]
  unfold rngD vecD
  rw [List.map_map]
  refine congrArg (fun x => R.ok (D.lst true x) _) (List.map_congr_left fun t _ => ?_)
  show D.int (x ((0 : Int) + (t : Int) * 1).toNat - c ((0 : Int) + (t : Int) * 1).toNat) = _
  rw [show ((0 : Int) + (t : Int) * 1).toNat = t by omega]
theorem abs_le {n : Nat} {f : Nat → Int} {mx : Int} (h : ∀ t, t < n → absI (f t) ≤ mx) (hm : ¬ 1000000000000000000000000000000000000000000000000000000000000 < mx) : ∀ t, t < n → (f t).natAbs ≤ 10 ^ 60 := by
  intro t ht
  have h1 := h t ht
  unfold absI at h1
  split at h1 <;> omega
theorem eq_self {d : D} (h : nice d = true) : cmpD .eq d d = some true := by
  show (if shaped d && shaped d then some (eqD d d) else none) = _
  rw [nice_shaped h, eq_congr h rfl]
  rfl
section
variable {ns : List Int} (hl : ns.length ≤ 1000) {n : Nat} {M : List (List Int)} (S : Scr n M) {k : Nat} (hk : 20 ≤ k)
include hl S hk
theorem free_run {q : Nat} {d : D} (h : St ns q d) (hq : q ≤ 2 ^ 49) : ∃ d', runD (tbOf defs) pr (k + 1) 46 [d, scrD M] = .ok (.bl true) [d'] ∧ St ns (q + 100) d' := by
  rw [F46.run rfl]
  have n1 := S.n1
  have n18 := S.n18
  have hM := S.len
  obtain ⟨xs, d1, el, s1, hxl, hp⟩ := lc_draw (ns := ns) (turn := turnL (.nm 6) (fun s => .ok true s) (evX (runD (tbOf defs) pr k) f46_x1).val) (ws := [6]) (mk := fun d => [some d, some (scrD M), none, none, none, none, none, none, none]) (P := fun y => ∃ v : Int, y = .int v ∧ NumD v) (c := 2) (M := 2 ^ 60) (fun it d m h hm => by
    obtain ⟨v, d', e, hs, hv⟩ := num_run hl (n := k) (by omega) h (by omega)
    refine ⟨_, d', [some d', some (scrD M), none, none, none, none, some it, none, none], ?_, rfl, hs, ⟨v, rfl, hv⟩⟩
    simp [fillA, ioA, goneA, lentA, okA, putAll, wipeE, shrAll, ioOut, isPk, pk, isiD, own, owns, shr, shrs, noL, noLs, pln, plns, noIo, tgSlots, callI, lenOk_eq, turnL, f46_x1, e, hs.own]) (M.map rowD) q d [] h (by rw [List.length_map, hM]; omega) (by rw [List.length_map, hM]; simp only [List.length_nil]; omega)
  obtain ⟨x, e, hx0⟩ := ints_vec xs hp
  rw [List.length_map, hM] at hxl s1
  rw [hxl] at e hx0
  subst e
  rw [List.nil_append] at el
  have hx : ∀ t, t < n → (x t).natAbs ≤ 10 ^ 60 := fun t ht => by
    have := hx0 t ht
    unfold NumD MOST' at this
    omega
  obtain ⟨v, c, Dc⟩ := dec_ex S x
  have cs := cor_small S fun t ht => ⟨Dc.c0 t ht, Dc.c1 t ht⟩
  have D0 : Dec n M c (fun _ => 0) c := ⟨fun t ht => by rw [sumL_zero]; omega, Dc.c0, Dc.c1⟩
  have e31 := corner_run S (m := k) (by omega) Dc hx
  have a1 := ansRed S hk Dc hx
  have a2 := ansRed S hk D0 cs
  have a3 := ansWri S hk Dc hx
  have ta := ttru_any n c
  have sr := shrs_rows M
  have nr := noLs_rows M
  have ss := shr_scr M
  have r1 : rngL [.int (n : Int)] = some (rngD 0 1 n) := rngL_nat (by omega)
  have l2 := sub46 (k := k) n18 x c
  have l3 := abs46 (k := k) n18 fun t => x t - c t
  obtain ⟨mx, em, hmx, tm, htm, emx⟩ := max_vec n1 fun t => absI (x t - c t)
  have hk1 : cmpD .eq (.bl true) (.bl true) = some true := rfl
  refine ⟨d1, ?_, s1.mono (by omega)⟩
  have o1 := s1.own
  have ow : own (.tup (vecD n c)) = true := vecD_own n c
  have a3' : anyC n c = true → runD (tbOf defs) pr k 42 [.str "written", .lst false [scrD M, .tup (vecD n x)], .non] = .ok (.bl true) [] := fun h => by
    rw [if_neg fun g => by rw [anyC_false.mpr g] at h; cases h] at a3
    exact a3
  by_cases gt : 1000000000000000000000000000000000000000000000000000000000000 < mx
  · simp only [scrD] at *
    cases ha : anyC n c with
    | true =>
      have a3 := a3' ha
      rw [ha] at ta
      simp [fillA, ioA, goneA, lentA, okA, putAll, wipeE, shrAll, ioOut, isPk, pk, isiD, own, owns, shr, shrs, noL, noLs, pln, plns, noIo, tgSlots, callI, lenOk_eq, f46F, -Option.map_eq_map, vecD_shr, vecD_noL, vecD_own, vecD_len, sr, nr, giveR, el, e31, o1, a1, a2, a3, ta, r1, l2, l3, em, gt, p10_60, v10_60]
    | false =>
      rw [ha] at ta
      simp [fillA, ioA, goneA, lentA, okA, putAll, wipeE, shrAll, ioOut, isPk, pk, isiD, own, owns, shr, shrs, noL, noLs, pln, plns, noIo, tgSlots, callI, lenOk_eq, f46F, -Option.map_eq_map, vecD_shr, vecD_noL, vecD_own, vecD_len, sr, nr, giveR, el, e31, o1, a1, a2, ta, r1, l2, l3, em, gt, p10_60, v10_60]
  · have tk := abs_le hmx gt
    have Dt : Dec n M (fun t => x t - c t) v fun _ => 0 := ⟨fun t ht => by have := Dc.eq t ht; omega, fun t ht => Int.le_refl _, fun t ht => by have := S.diag t ht; show (0 : Int) < ent M t t; omega⟩
    have a4 := askWri S hk Dt tk
    have c27 := cell27 (m := k) (by omega) n18 v
    have sm := sum_run S (m := k) (by omega) (w := v) fun t ht => v_small S Dc hx ht
    have eqv : vecD n (fun t => sumL (fun i => v i * ent M i t) n) = vecD n fun t => x t - c t := vecD_congr fun t ht => by have := Dc.eq t ht; omega
    rw [eqv] at sm
    have nt := (med_nice (med_vec S (x := fun t => x t - c t) fun t ht => by have := tk t ht; omega).1).1
    have ee := eq_self nt
    simp only [scrD] at *
    cases ha : anyC n c with
    | true =>
      have a3 := a3' ha
      rw [ha] at ta
      simp [fillA, ioA, goneA, lentA, okA, putAll, wipeE, shrAll, ioOut, isPk, pk, isiD, own, owns, shr, shrs, noL, noLs, pln, plns, noIo, tgSlots, callI, lenOk_eq, f46F, -Option.map_eq_map, vecD_shr, vecD_noL, vecD_own, vecD_len, sr, nr, giveR, el, e31, o1, a1, a2, a3, ta, r1, l2, l3, em, gt, p10_60, v10_60, a4, c27, sm, ee]
    | false =>
      rw [ha] at ta
      simp [fillA, ioA, goneA, lentA, okA, putAll, wipeE, shrAll, ioOut, isPk, pk, isiD, own, owns, shr, shrs, noL, noLs, pln, plns, noIo, tgSlots, callI, lenOk_eq, f46F, -Option.map_eq_map, vecD_shr, vecD_noL, vecD_own, vecD_len, sr, nr, giveR, el, e31, o1, a1, a2, ta, r1, l2, l3, em, gt, p10_60, v10_60, a4, c27, sm, ee]
end

end MP
set_option linter.all false
set_option maxRecDepth 100000
set_option maxHeartbeats 1000000
namespace MP
open PySem PySem.Spec PyProof.Rows L2
--import K01L21
def f50_t2 : Ss := (.cons (.iff (.bor (.bnot (.call 42 (.val (.k (.str "reduced")) (.val (.lst (.cons (.v 4 false) (.cons (.v 8 false) .nil))) (.lent 7 .nil))) [])) (.bnot (.call 42 (.val (.k (.str "written")) (.val (.lst (.cons (.v 4 false) (.cons (.v 6 true) .nil))) (.lent 5 .nil))) []))) (.cons (.ret (.k (.bl false))) .nil) .nil) (.cons (.iff (.bnot (.call 42 (.val (.k (.str "written")) (.val (.lst (.cons (.v 4 false) (.cons (.v 8 false) .nil))) (.val (.ife (.bi .any (.cons (.bi .list (.cons (.v 7 false) .nil)) .nil)) (.k (.non)) (.v 5 false)) .nil))) [])) (.cons (.ret (.k (.bl false))) .nil) .nil) (.cons (.iff (.bor (.bnot (.call 42 (.val (.k (.str "is_screen")) (.val (.lst (.cons (.v 4 false) .nil)) (.val (.k (.bl true)) .nil))) [])) (.bnot (.call 42 (.val (.k (.str "check_screen")) (.val (.lst (.cons (.v 4 false) .nil)) (.val (.k (.non)) .nil))) []))) (.cons (.ret (.k (.bl false))) .nil) .nil) (.cons (.iff (.bor (.bnot (.call 42 (.val (.k (.str "is_cell")) (.val (.lst (.cons (.v 3 false) (.cons (.v 8 false) .nil))) (.val (.k (.bl true)) .nil))) [])) (.bnot (.call 42 (.val (.k (.str "check_cell")) (.val (.lst (.cons (.v 3 true) (.cons (.v 8 false) .nil))) (.val (.k (.non)) .nil))) []))) (.cons (.ret (.k (.bl false))) .nil) .nil) (.cons (.ret (.band (.call 46 (.io 1 (.lent 4 .nil)) []) (.call 49 (.io 1 (.lent 4 (.lent 8 .nil))) []))) .nil)))))
def f50_t : Ss := (.cons (.set 4 (.call 34 (.io 1 (.lent 3 (.val (.ife (.v 2 false) (.bin .pow (.k (.int 10)) (.k (.int 60))) (.k (.int 60))) .nil))) [])) (.cons (.set 5 (.call 45 (.io 1 (.lent 4 .nil)) [])) (.cons (.set 6 (.call 44 (.lent 4 (.lent 5 .nil)) [])) (.cons (.set 7 (.call 32 (.lent 4 (.val (.call 18 (.io 1 (.val (.call 30 (.lent 4 .nil) []) .nil)) []) .nil)) [])) (.cons (.set 8 (.bi .tuple (.cons (.lc (f50_x1) (.nm 9) (.rng (.cons (.v 3 false) .nil)) .none [9]) .nil))) (.cons (.iff (.cmp .gt (.bi .max1 (.cons (.lc (f50_x2) (.nm 10) (.lent 8) .none [10]) .nil)) (.bin .pow (.k (.int 10)) (.k (.int 60)))) (.cons (.set 8 (.v 6 false)) (.cons (.set 7 (.bi .tuple (.cons (.lc (f50_x3) (.nm 9) (.rng (.cons (.v 3 false) .nil)) .none [9]) .nil))) .nil)) .nil) f50_t2))))))
theorem f50_body : f50F.body = (.cons (.set 1 (.call 14 (.lent 0 .nil) [])) (.cons (.set 2 (.call 21 (.io 1 (.val (.k (.int 2)) .nil)) [])) (.cons (.set 3 (.bin .add (.k (.int 1)) (.call 18 (.io 1 (.val (.ife (.band (.v 2 false) (.call 21 (.io 1 (.val (.k (.int 3)) .nil)) [])) (.k (.int 18)) (.k (.int 4))) .nil)) []))) f50_t))) := rfl
theorem f50_io : f50F.io = [] := rfl
theorem f50_np : f50F.np = 1 := rfl
theorem f50_ns : f50F.ns = 11 := rfl
theorem add50 {k n : Nat} (n18 : n ≤ 18) (x c : Nat → Int) (e0 e1 e2 e3 e4 e5 e8 e10 : Option D) :
    lcL (turnL (.nm 9) (fun s => .ok true s) (evX (runD (tbOf defs) pr k) f50_x1).val) [9] (rngD 0 1 n) [] [e0, e1, e2, e3, e4, e5, some (.tup (vecD n x)), some (.tup (vecD n c)), e8, none, e10] = .ok (.lst true (vecD n fun t => x t + c t)) [e0, e1, e2, e3, e4, e5, some (.tup (vecD n x)), some (.tup (vecD n c)), e8, none, e10] := by
  have lc := lcL_map (turn := turnL (.nm 9) (fun s => .ok true s) (evX (runD (tbOf defs) pr k) f50_x1).val) (ws := [9]) (s := [e0, e1, e2, e3, e4, e5, some (.tup (vecD n x)), some (.tup (vecD n c)), e8, none, e10]) (fun d => match d with
    | .int i => .int (x i.toNat + c i.toNat)
    | _ => .non) (rngD 0 1 n) [] (fun d hd => by
    obtain ⟨t, rfl, ht⟩ := rngD_nat n d hd
    have a := vecD_at (f := x) ht
    have b := vecD_at (f := c) ht
    refine ⟨[e0, e1, e2, e3, e4, e5, some (.tup (vecD n x)), some (.tup (vecD n c)), e8, some (.int (t : Int)), e10], ?_, rfl⟩
    simp [fillA, ioA, goneA, lentA, okA, putAll, wipeE, shrAll, ioOut, isPk, pk, isiD, own, owns, shr, shrs, noL, noLs, pln, plns, noIo, tgSlots, callI, lenOk_eq, turnL, f50_x1, a, b]) (by rw [lenOk_eq, rngD_len, decide_eq_true_eq]; simp only [List.length_nil]; omega)
  rw [lc, List.nil_append]
  unfold rngD vecD
  rw [List.map_map]
  refine congrArg (fun x => R.ok (D.lst true x) _) (List.map_congr_left fun t _ => ?_)
  show D.int (x ((0 : Int) + (t : Int) * 1).toNat + c ((0 : Int) + (t : Int) * 1).toNat) = _
  rw [show ((0 : Int) + (t : Int) * 1).toNat = t by omega]
theorem abs50 {k n : Nat} (n18 : n ≤ 18) (f : Nat → Int) (e0 e1 e2 e3 e4 e5 e6 e7 e8 e9 : Option D) :
    lcL (turnL (.nm 10) (fun s => .ok true s) (evX (runD (tbOf defs) pr k) f50_x2).val) [10] (vecD n f) [] [e0, e1, e2, e3, e4, e5, e6, e7, e8, e9, none] = .ok (.lst true (vecD n fun t => absI (f t))) [e0, e1, e2, e3, e4, e5, e6, e7, e8, e9, none] := by
  have lc := lcL_map (turn := turnL (.nm 10) (fun s => .ok true s) (evX (runD (tbOf defs) pr k) f50_x2).val) (ws := [10]) (s := [e0, e1, e2, e3, e4, e5, e6, e7, e8, e9, none]) (fun d => match d with
    | .int i => .int (absI i)
    | _ => .non) (vecD n f) [] (fun d hd => by
    unfold vecD at hd
    obtain ⟨t, ht, rfl⟩ := List.mem_map.mp hd
    refine ⟨[e0, e1, e2, e3, e4, e5, e6, e7, e8, e9, some (.int (f t))], ?_, rfl⟩
    simp [fillA, ioA, goneA, lentA, okA, putAll, wipeE, shrAll, ioOut, isPk, pk, isiD, own, owns, shr, shrs, noL, noLs, pln, plns, noIo, tgSlots, callI, lenOk_eq, turnL, f50_x2, absI]) (by rw [lenOk_eq, vecD_len, decide_eq_true_eq]; simp only [List.length_nil]; omega)
  rw [lc, List.nil_append]
  unfold vecD
  rw [List.map_map]
  rfl
theorem zero50 {k n : Nat} (n18 : n ≤ 18) (e0 e1 e2 e3 e4 e5 e6 e7 e8 e10 : Option D) :
    lcL (turnL (.nm 9) (fun s => .ok true s) (evX (runD (tbOf defs) pr k) f50_x3).val) [9] (rngD 0 1 n) [] [e0, e1, e2, e3, e4, e5, e6, e7, e8, none, e10] = .ok (.lst true (vecD n fun _ => 0)) [e0, e1, e2, e3, e4, e5, e6, e7, e8, none, e10] := by
  have lc := lcL_map (turn := turnL (.nm 9) (fun s => .ok true s) (evX (runD (tbOf defs) pr k) f50_x3).val) (ws := [9]) (s := [e0, e1, e2, e3, e4, e5, e6, e7, e8, none, e10]) (fun _ => .int 0) (rngD 0 1 n) [] (fun d hd => by
    refine ⟨[e0, e1, e2, e3, e4, e5, e6, e7, e8, some d, e10], ?_, rfl⟩
    simp [fillA, ioA, goneA, lentA, okA, putAll, wipeE, shrAll, ioOut, isPk, pk, isiD, own, owns, shr, shrs, noL, noLs, pln, plns, noIo, tgSlots, callI, lenOk_eq, turnL, f50_x3]) (by rw [lenOk_eq, rngD_len, decide_eq_true_eq]; simp only [List.length_nil]; omega)
  rw [lc, List.nil_append]
  unfold rngD vecD
  rw [List.map_map]
  rfl
section
variable {ns : List Int} (hl : ns.length ≤ 1000) {n : Nat} {M : List (List Int)} (S : Scr n M)
include hl S
theorem law_tail2 {q : Nat} {d : D} (h : St ns q d) (hq : q ≤ 2 ^ 48) {x w c : Nat → Int} (Dc : Dec n M x w c) (hx : ∀ t, t < n → (x t).natAbs ≤ 10 ^ 60) (hm : ∀ t, t < n → (sumL (fun i => w i * ent M i t) n).natAbs ≤ 10 ^ 60) {o2 : Option D} :
    outC [] (evSs (runD (tbOf defs) pr 59) f50_t2 [] [some (.scr ns), some d, o2, some (.int (n : Int)), some (scrD M), some (.lst true (vecD n w)), some (.tup (vecD n fun t => sumL (fun i => w i * ent M i t) n)), some (.tup (vecD n c)), some (.tup (vecD n x)), none, none]) = .ok (.bl true) [] := by
  have n18 := S.n18
  have D0 : Dec n M (fun t => sumL (fun i => w i * ent M i t) n) w fun _ => 0 := ⟨fun t ht => by omega, fun t ht => Int.le_refl _, fun t ht => by have := S.diag t ht; show (0 : Int) < ent M t t; omega⟩
  have a1 := ansRed S (k := 59) (by omega) Dc hx
  have a2 := ansWri S (k := 59) (by omega) D0 hm
  rw [if_pos fun _ _ => rfl] at a2
  have a3 := ansWri S (k := 59) (by omega) Dc hx
  have ta := ttru_any n c
  have ss := shr_scr M
  have sr := shrs_rows M
  have nr := noLs_rows M
  have a4 := ansIss (k := 59) (by omega) (Big.scr S) (b := true) (decide_eq_true (⟨n, M, rfl, S⟩))
  have a5 := ansChs (k := 59) (by omega) (Big.scr S) (⟨n, M, rfl, S⟩)
  have mc := (med_vec S (x := x) fun t ht => by have := hx t ht; omega).1
  have tw1 := cell_vec hx
  have a6 := ansIsc (k := 59) (by omega) S mc tw1
  have a7 := ansChc (k := 59) (by omega) S mc tw1
  obtain ⟨d1, e1, s1⟩ := free_run hl S (k := 58) (by omega) h (by omega)
  obtain ⟨d2, e2, s2⟩ := turned_run hl S hx (k := 58) (by omega) s1 (by omega)
  simp only [Nat.reduceAdd] at e1 e2
  simp only [ss, shr, vecD_shr] at a4 a5 a6 a7
  have o1 := s1.own
  have o2 := s2.own
  have a3' : anyC n c = true → runD (tbOf defs) pr 59 42 [.str "written", .lst false [scrD M, .tup (vecD n x)], .non] = .ok (.bl true) [] := fun h => by
    rw [if_neg fun g => by rw [anyC_false.mpr g] at h; cases h] at a3
    exact a3
  have a3'' : anyC n c = false → runD (tbOf defs) pr 59 42 [.str "written", .lst false [scrD M, .tup (vecD n x)], .lst false (vecD n w)] = .ok (.bl true) [] := fun h => by
    rw [if_pos (anyC_false.mp h)] at a3
    exact a3
  clear a3
  simp only [scrD] at *
  cases ha : anyC n c with
  | true =>
    have a3 := a3' ha
    rw [ha] at ta
    simp [fillA, ioA, goneA, lentA, okA, putAll, wipeE, shrAll, ioOut, isPk, pk, isiD, own, owns, shr, shrs, noL, noLs, pln, plns, noIo, tgSlots, callI, lenOk_eq, f50_t2, -Option.map_eq_map, vecD_shr, vecD_noL, vecD_own, vecD_len, sr, nr, giveR, o1, o2, a1, a2, a3, a4, a5, a6, a7, ta, e1, e2]
  | false =>
    have a3 := a3'' ha
    rw [ha] at ta
    simp [fillA, ioA, goneA, lentA, okA, putAll, wipeE, shrAll, ioOut, isPk, pk, isiD, own, owns, shr, shrs, noL, noLs, pln, plns, noIo, tgSlots, callI, lenOk_eq, f50_t2, -Option.map_eq_map, vecD_shr, vecD_noL, vecD_own, vecD_len, sr, nr, giveR, o1, o2, a1, a2, a3, a4, a5, a6, a7, ta, e1, e2]
theorem law_tail1 {q : Nat} {d : D} (h : St ns q d) (hq : q ≤ 2 ^ 47) {most : Int} {d1 : D} {g : Bool} (s1 : St ns q d1) (e1 : runD (tbOf defs) pr 59 34 [d, .int (n : Int), .int most] = .ok (scrD M) [d1]) (eg : (if g then (1000000000000000000000000000000000000000000000000000000000000 : Int) else 60) = most) :
    outC [] (evSs (runD (tbOf defs) pr 59) f50_t [] [some (.scr ns), some d, some (.bl g), some (.int (n : Int)), none, none, none, none, none, none, none]) = .ok (.bl true) [] := by
  have n18 := S.n18
  have n1 := S.n1
  obtain ⟨w, d2, e2, s2, hw, hm⟩ := weights_run hl S (m := 59) (by omega) s1 (by omega)
  have e3 := sum_run S (m := 59) (by omega) (w := w) fun t ht => by have := hw t ht; omega
  have e4 := index_run S (m := 59) (by omega)
  have pp := prodD_pos S n (Nat.le_refl _)
  have pm := S.prod
  obtain ⟨v, d3, e5, s3, v0, v1⟩ := take18 hl (n := 59) (by omega) s2 (by omega) (many := prodD M n) (by unfold MOST' at pm; omega)
  obtain ⟨c, e6, hc⟩ := cornerAt_run S (m := 59) (by omega) v
  have Dc : Dec n M (fun t => sumL (fun i => w i * ent M i t) n + c t) w c := ⟨fun t ht => rfl, fun t ht => (hc t ht).1, fun t ht => (hc t ht).2⟩
  have D0 : Dec n M (fun t => sumL (fun i => w i * ent M i t) n) w fun _ => 0 := ⟨fun t ht => by omega, fun t ht => Int.le_refl _, fun t ht => by have := S.diag t ht; show (0 : Int) < ent M t t; omega⟩
  have r1 : rngL [.int (n : Int)] = some (rngD 0 1 n) := rngL_nat (by omega)
  have l1 := add50 (k := 59) n18 (fun t => sumL (fun i => w i * ent M i t) n) c
  have l2 := abs50 (k := 59) n18 (fun t => sumL (fun i => w i * ent M i t) n + c t)
  have l3 := zero50 (k := 59) n18
  obtain ⟨mx, em, hmx, tm, htm, emx⟩ := max_vec n1 fun t => absI (sumL (fun i => w i * ent M i t) n + c t)
  have o1 := s1.own
  have o2 := s2.own
  have o3 := s3.own
  have ss := shr_scr M
  have sr := shrs_rows M
  have nr := noLs_rows M
  have p : (if g then (10 : Int) ^ (60 : Int).toNat else 60) = most := by rw [v10_60]; exact eg
  by_cases gt : 1000000000000000000000000000000000000000000000000000000000000 < mx
  · have tl := law_tail2 hl S s3 (by omega) D0 hm hm (o2 := some (.bl g))
    simp only [scrD] at *
    cases g with
    | true =>
      simp only [if_true] at eg
      subst eg
      simp [fillA, ioA, goneA, lentA, okA, putAll, wipeE, shrAll, ioOut, isPk, pk, isiD, own, owns, shr, shrs, noL, noLs, pln, plns, noIo, tgSlots, callI, lenOk_eq, f50_t, -Option.map_eq_map, vecD_shr, vecD_noL, vecD_own, vecD_len, sr, nr, giveR, e1, e2, e3, e4, e5, e6, o1, o2, o3, r1, l1, l2, l3, em, gt, p10_60, v10_60, tl]
    | false =>
      simp only [Bool.false_eq_true, if_false] at eg
      subst eg
      simp [fillA, ioA, goneA, lentA, okA, putAll, wipeE, shrAll, ioOut, isPk, pk, isiD, own, owns, shr, shrs, noL, noLs, pln, plns, noIo, tgSlots, callI, lenOk_eq, f50_t, -Option.map_eq_map, vecD_shr, vecD_noL, vecD_own, vecD_len, sr, nr, giveR, e1, e2, e3, e4, e5, e6, o1, o2, o3, r1, l1, l2, l3, em, gt, p10_60, v10_60, tl]
  · have tl := law_tail2 hl S s3 (by omega) Dc (abs_le hmx gt) hm (o2 := some (.bl g))
    simp only [scrD] at *
    cases g with
    | true =>
      simp only [if_true] at eg
      subst eg
      simp [fillA, ioA, goneA, lentA, okA, putAll, wipeE, shrAll, ioOut, isPk, pk, isiD, own, owns, shr, shrs, noL, noLs, pln, plns, noIo, tgSlots, callI, lenOk_eq, f50_t, -Option.map_eq_map, vecD_shr, vecD_noL, vecD_own, vecD_len, sr, nr, giveR, e1, e2, e3, e4, e5, e6, o1, o2, o3, r1, l1, l2, em, gt, p10_60, v10_60, tl]
    | false =>
      simp only [Bool.false_eq_true, if_false] at eg
      subst eg
      simp [fillA, ioA, goneA, lentA, okA, putAll, wipeE, shrAll, ioOut, isPk, pk, isiD, own, owns, shr, shrs, noL, noLs, pln, plns, noIo, tgSlots, callI, lenOk_eq, f50_t, -Option.map_eq_map, vecD_shr, vecD_noL, vecD_own, vecD_len, sr, nr, giveR, e1, e2, e3, e4, e5, e6, o1, o2, o3, r1, l1, l2, em, gt, p10_60, v10_60, tl]
end
theorem law_tail {ns : List Int} (hl : ns.length ≤ 1000) {n : Nat} (n1 : 1 ≤ n) (n18 : n ≤ 18) {q : Nat} {d : D} (h : St ns q d) (hq : q ≤ 2 ^ 46) (g : Bool) : outC [] (evSs (runD (tbOf defs) pr 59) f50_t [] [some (.scr ns), some d, some (.bl g), some (.int (n : Int)), none, none, none, none, none, none, none]) = .ok (.bl true) [] := by
  obtain ⟨M, d1, e1, s1, S⟩ := great_run hl (m := 59) (by omega) n1 n18 (most := if g then (1000000000000000000000000000000000000000000000000000000000000 : Int) else 60) (by cases g <;> decide) (by cases g <;> decide) h (by omega)
  exact law_tail1 hl S (h.mono (by omega)) (by omega) s1 e1 rfl
theorem plain_law (ns : List Int) (hl : ns.length ≤ 63) : runD (tbOf defs) pr 60 50 [.scr ns] = .ok (.bl true) [] := by
  have hl' : ns.length ≤ 1000 := by omega
  have st : startE f50F [.scr ns] = [some (.scr ns), none, none, none, none, none, none, none, none, none, none] := rfl
  rw [F50.run rfl, f50_io, f50_body, st]
  obtain ⟨d0, e0, s0⟩ := start_run F14 (n := 59) (by omega) (ns := ns)
  obtain ⟨g, d1, e1, s1⟩ := rare21 hl' (n := 59) (by omega) s0 (by omega) (many := 2) (by decide)
  have key : ∀ {v : Int} {many : Int}, 0 ≤ v → (v < many ∨ v = 0) → 1 ≤ many → many ≤ 18 → ∃ n : Nat, 1 + v = (n : Int) ∧ 1 ≤ n ∧ n ≤ 18 := fun {v many} h0 h1 h2 h3 => ⟨(1 + v).toNat, by omega, by omega, by omega⟩
  cases g with
  | true =>
    obtain ⟨t, d2, e2, s2⟩ := rare21 hl' (n := 59) (by omega) s1 (by omega) (many := 3) (by decide)
    cases t with
    | true =>
      obtain ⟨v, d3, e3, s3, v0, v1⟩ := take18 hl' (n := 59) (by omega) s2 (by omega) (many := 18) (by decide)
      obtain ⟨n, ej, n1, n18⟩ := key v0 v1 (by decide) (by decide)
      have tl := law_tail hl' n1 n18 s3 (by omega) true
      simp [fillA, ioA, goneA, lentA, okA, putAll, wipeE, shrAll, ioOut, isPk, pk, isiD, own, owns, shr, shrs, noL, noLs, pln, plns, noIo, tgSlots, callI, lenOk_eq, e0, s0.own, e1, s1.own, e2, s2.own, e3, s3.own, ej, tl]
    | false =>
      obtain ⟨v, d3, e3, s3, v0, v1⟩ := take18 hl' (n := 59) (by omega) s2 (by omega) (many := 4) (by decide)
      obtain ⟨n, ej, n1, n18⟩ := key v0 v1 (by decide) (by decide)
      have tl := law_tail hl' n1 n18 s3 (by omega) true
      simp [fillA, ioA, goneA, lentA, okA, putAll, wipeE, shrAll, ioOut, isPk, pk, isiD, own, owns, shr, shrs, noL, noLs, pln, plns, noIo, tgSlots, callI, lenOk_eq, e0, s0.own, e1, s1.own, e2, s2.own, e3, s3.own, ej, tl]
  | false =>
    obtain ⟨v, d3, e3, s3, v0, v1⟩ := take18 hl' (n := 59) (by omega) s1 (by omega) (many := 4) (by decide)
    obtain ⟨n, ej, n1, n18⟩ := key v0 v1 (by decide) (by decide)
    have tl := law_tail hl' n1 n18 s3 (by omega) false
    simp [fillA, ioA, goneA, lentA, okA, putAll, wipeE, shrAll, ioOut, isPk, pk, isiD, own, owns, shr, shrs, noL, noLs, pln, plns, noIo, tgSlots, callI, lenOk_eq, e0, s0.own, e1, s1.own, e3, s3.own, ej, tl]

end MP
set_option linter.all false
set_option maxRecDepth 100000
set_option maxHeartbeats 0
namespace MP
open PySem PySem.Spec PyProof.Rows L2
theorem spoil_inst {P : Program} {w : World} {K : PySem.W.Frag} {mg : Str → Option Value} {base : Heap} {n : Nat} {cl : Nat → List D → MP.CR} {fa : Addr} {fdat : FuncData} (B : Glob gk P w K mg base n cl) (Fd : Fdef K mg d40 fa fdat) : FnG P w K mg base (n + 1) fa fdat d40.ps (spI K d40.io (pSpoil cl)) := by
  refine spoil_fn (k8 := 0) (d := d40) B Fd (by decide +kernel) rfl rfl rfl rfl ?_ ?_ ?_ ?_ ?_ ?_ ?_ ?_ ?_ ?_ ?_ ?_ ?_ ?_ ?_ ?_ ?_ ?_ ?_ ?_ ?_ ?_ ?_ ?_ ?_ (show defBody (top 87) = _ from rfl) <;> decide +kernel
end MP
set_option linter.all false
set_option maxRecDepth 100000
set_option maxHeartbeats 0
namespace MP
open PySem PySem.Spec PyProof.Rows L2
theorem told_inst {P : Program} {w : World} {K : PySem.W.Frag} {mg : Str → Option Value} {base : Heap} {n : Nat} {cl : Nat → List D → MP.CR} {fa : Addr} {fdat : FuncData} (B : Glob gk P w K mg base n cl) (Fd : Fdef K mg d38 fa fdat)
    (mb : mg ("ShiftError" : Str) = some (.ref (He.ga K "ShiftError"))) (look : ∀ x, (tnames : List Str).contains x = true → LookOk ⟨d38.N, defScope d38.st, none⟩ K mg "ShiftError" one row tnames x) : FnG P w K mg base (n + 1) fa fdat d38.ps (spI K d38.io (pTold 37 tnames cl)) := by
  refine told_fn (d := d38) (iE := 2) (iT := 3) (iN := 4) (iO := 5) (one := one) (row := row) (names := tnames) (errs := tnames) (bs := "ShiftError") B Fd (by decide +kernel) rfl rfl rfl ?_ ?_ ?_ ?_ ?_ ?_ ?_ ?_ ?_ ?_ ?_ ?_ ?_ ?_ mb ?_ ?_ ?_ ?_ look ?_ (show defBody (top 85) = _ from rfl) <;> decide +kernel
theorem prims_ok {P : Program} {w : World} {K : PySem.W.Frag} {mg : Str → Option Value} {base : Heap} (T : TopOk K mg gk defs) (es : ∀ e ∈ errs, e.ok K = true) (hm : ∀ x ∈ cls, mg x = some (.ref (He.ga K x))) : ∀ (n f : Nat) (d : DefR) (fa : Addr) (fdat : FuncData) p, pr f = some p → defs[f]? = some d → Fdef K mg d fa fdat → AllFn P w K mg base defs pr n → FnG P w K mg base (n + 1) fa fdat d.ps (spI K d.io (p (runD (tbOf defs) pr n))) := by
  intro n f d fa fdat p hp hd F A
  have B := glob_of T A
  unfold pr at hp
  by_cases h1 : f = 38
  · subst h1
    cases hp
    cases hd
    refine told_inst B F (hm _ (by decide +kernel)) fun x hx => ?_
    have hx' : x = "BadNumber" ∨ x = "BadCell" ∨ x = "BadScreen" := by
      simp only [tnames, List.contains_cons, List.contains_nil, Bool.or_false, Bool.or_eq_true, beq_iff_eq] at hx
      exact hx
    have sub1 : ∀ x ∈ one, x ∈ cls := by
      have h : (one.all fun x => cls.contains x) = true := by decide +kernel
      intro x hx
      have := List.all_eq_true.mp h x hx
      simpa using this
    have sub2 : ∀ x ∈ row, x ∈ cls := by
      have h : (row.all fun x => cls.contains x) = true := by decide +kernel
      intro x hx
      have := List.all_eq_true.mp h x hx
      simpa using this
    rcases hx' with rfl | rfl | rfl
    · exact look_of (e := ⟨"BadNumber", "ShiftError", [("BadNumber", true), ("BadCell", false), ("BadScreen", false)], row, true⟩) (es _ (.tail _ (.head _))) (by decide +kernel) (fun x hx => hm x (sub1 x hx)) (fun x hx => hm x (sub2 x hx)) rfl (by decide +kernel) (by decide +kernel) (by decide +kernel)
    · exact look_of (e := ⟨"BadCell", "ShiftError", [("BadNumber", false), ("BadCell", true), ("BadScreen", false)], row, true⟩) (es _ (.head _)) (by decide +kernel) (fun x hx => hm x (sub1 x hx)) (fun x hx => hm x (sub2 x hx)) rfl (by decide +kernel) (by decide +kernel) (by decide +kernel)
    · exact look_of (e := ⟨"BadScreen", "ShiftError", [("BadNumber", false), ("BadCell", false), ("BadScreen", true)], row, true⟩) (es _ (.tail _ (.tail _ (.head _)))) (by decide +kernel) (fun x hx => hm x (sub1 x hx)) (fun x hx => hm x (sub2 x hx)) rfl (by decide +kernel) (by decide +kernel) (by decide +kernel)
  · rw [if_neg h1] at hp
    by_cases h2 : f = 40
    · subst h2
      cases hp
      cases hd
      exact spoil_inst B F
    · rw [if_neg h2] at hp
      cases hp
end MP
set_option linter.all false
set_option maxRecDepth 100000
set_option maxHeartbeats 0
namespace MP
open PySem PySem.Spec PyProof.Rows L2
theorem ok_defs : ∀ (f : Nat) (d : DefR), defs[f]? = some d → pr f = none → okDef gk d = true := fun f d e hp => by
  have h := List.all_eq_true.mp ok_all (d, f) (List.mem_zipIdx_iff_getElem?.mpr e)
  have : isPr f = false := by
    unfold pr at hp
    unfold isPr
    by_cases h1 : f = 38
    · rw [if_pos h1] at hp; cases hp
    · rw [if_neg h1] at hp
      by_cases h2 : f = 40
      · rw [if_pos h2] at hp; cases hp
      · simp [h1, h2]
  rw [this] at h
  exact h
theorem facts {P : Program} {w : World} {K : PySem.W.Frag} {h : Heap} {mg : Str → Option Value} {fa : Addr} (kin : K.In h) (G : h.Ns mainGlobals mg) (e : mg ("law" : PySem.Str) = some (.ref fa)) (say : MP.obsM (faOf defs cls gk) (fnOf' defs) errs K = (true, He.valD (fnOf' defs))) :
    ∃ fd : FuncData, (∀ (s : Shared) (u : Value), BindsTo s fd ⟨[u], []⟩ [("script", u)]) ∧ ∀ base : Heap, K.In base → base.Ns mainGlobals mg → FnG P w K mg base 60 fa fd ["script"] (spI K [] (runD (tbOf defs) pr 60 50)) := by
  have T := top_ok kin G say ok_top rfl (binds_all K)
  have hm := cls_glo kin G say
  obtain ⟨fa', fd, F⟩ := T.all 50 d50 rfl
  have ef := e.symm.trans F.mg
  cases ef
  refine ⟨fd, fun s u => ?_, fun base _ _ => all_fn T ok_defs (prims_ok T (says_errs say).1 hm) 60 50 d50 fa fd rfl F⟩
  exact FunD.bindsA (ps := ["script"]) F.fn (fun _ _ _ _ _ _ us hl => match us, hl with | [_], _ => rfl) s [u] rfl
end MP
open PySem PySem.W PySem.Calls PyProof.Rows
theorem PySem.Challenge.cw_everyshift_k01_reduced_and_written_holds : PySem.Challenge.rw_everyshift_k01_reduced_and_written.Holds := by
  w_on; o_law
  refine HandSHeadRun.head_any (r := OpenLaw.row PySem.Challenge.rw_everyshift_k01_reduced_and_written) (q := view (OpenLaw.row PySem.Challenge.rw_everyshift_k01_reduced_and_written).prog [97]) (H := MP.hk) (ob := MP.ob) (M := 12000) (loose := MP.loose) (d := HandSHeadRun.topDef (OpenLaw.row PySem.Challenge.rw_everyshift_k01_reduced_and_written).prog 97) (kwd := []) MP.obG_eq
    (by kernel_rfl) (fun s => by kernel_rfl) MP.run (by kernel_rfl) (by kernel_rfl) (by kernel_rfl) (by rfl) (by first | assumption | decide +kernel) (by decide +kernel) ⟨rfl, rfl, rfl, rfl, rfl, by decide +kernel⟩ ?hw ?hc
  case hw => w_witness2
  case hc =>
    refine MP.walk_end (l := PySem.Challenge.rw_everyshift_k01_reduced_and_written) (n := 63) (k := 60) (x := "script") (run := MP.runD (MP.tbOf MP.defs) MP.pr 60 50) rfl (by decide) (by kernel_rfl) ⟨rfl, by decide, by decide⟩ MP.plain_law ?_
    intro w mg fa h Y G hmg0
    obtain ⟨K, kin, say⟩ := Y
    have hmg : mg ("law" : PySem.Str) = some (.ref fa) := by
      have e : (HandSHeadRun.topDef (OpenLaw.row PySem.Challenge.rw_everyshift_k01_reduced_and_written).prog 97).name = ("law" : PySem.Str) := by kernel_rfl
      rw [← e]
      exact hmg0
    obtain ⟨fd, hb, hF⟩ := MP.facts (P := (PySem.Challenge.rw_everyshift_k01_reduced_and_written).prog) (w := w) kin G hmg say
    exact ⟨K, fd, kin, hb, hF⟩
