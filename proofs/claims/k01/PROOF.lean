import PyProof.Rows.All
import Wide.All
import OpenK.AllK
import Wide.FinOn
import HandS.ForMost
import HandS.ForExc
import HandS.TupAny
import HandS.TupMul
import HandS.TupLe
import HandS.Style
import HandS.More
import HandS.IsInst
import HandS.Zip
import KE.KExcSuper
import HandS.ExcInit
import HandS.SortOrd
import KE.SortData
import PyProof.Rows.SortWalk
import HandS.ExcField
import PyProof.StrLawsRepr
import PyProof.Rows.ReprOcc
import PySem.Challenge.RW_leftmaps_k01_whole_places_and_lots
set_option Elab.async false
set_option linter.all false
set_option maxRecDepth 100000
/-! PI, part a: data, core terms, the evaluator. -/
namespace PI
open PySem

inductive D where
  | non
  | bl (b : Bool)
  | int (i : Int)
  | str (x : Str)
  | tup (xs : List D)
  | lst (xs : List D)
  | dct (ks vs : List D)
  | obj (c : Nat) (fn : List Nat) (fv : List D)
  | own (i : Nat)
  | drw
  deriving Inhabited

/-- state of the draws -/
structure MS where
  cells : List Int
  left : List Int
  at_ : Int

/-- a cell of the store: changeable things of the running frames; fz: it was handed on, so it stays -/
inductive OC where
  | lst (xs : List D)
  | dct (ks vs : List D)
  | ins (c : Nat) (fn : List Nat) (fv : List D)

structure SS where
  m : Option MS
  cs : List (Bool × OC)

inductive R (α : Type) where
  | ok (a : α) (s : SS)
  | exc (c : Nat) (f : D) (s : SS)
  | stuck

abbrev M (α : Type) := SS → R α

namespace M
def ret {α : Type} (a : α) : M α := fun s => .ok a s
def bnd {α β : Type} (x : M α) (f : α → M β) : M β := fun s =>
  match x s with
  | .ok a s' => f a s'
  | .exc c d s' => .exc c d s'
  | .stuck => .stuck
def stk {α : Type} : M α := fun _ => .stuck
def opt {α : Type} : Option α → M α
  | some a => ret a
  | none => stk
/-- an exception from here is not followed -/
def calm {α : Type} (x : M α) : M α := fun s =>
  match x s with
  | .ok a s' => .ok a s'
  | .exc _ _ _ => .stuck
  | .stuck => .stuck
end M
instance : Monad M where
  pure := M.ret
  bind := M.bnd

/-! ### data -/
mutual
def eqB : D → D → Bool
  | .non, .non => true
  | .bl a, .bl b => a == b
  | .bl a, .int j => (if a then 1 else 0) == j
  | .int i, .bl b => i == (if b then 1 else 0)
  | .int i, .int j => i == j
  | .str x, .str y => x == y
  | .lst xs, .lst ys => eqBs xs ys
  | .tup xs, .tup ys => eqBs xs ys
  | _, _ => false
def eqBs : List D → List D → Bool
  | [], [] => true
  | x :: xs, y :: ys => eqB x y && eqBs xs ys
  | _, _ => false
end
mutual
/-- data without dicts, objects, references -/
def plain : D → Bool
  | .non => true
  | .bl _ => true
  | .int _ => true
  | .str x => x.cps.all (· < 0x110000)
  | .tup xs => plains xs
  | .lst xs => plains xs
  | _ => false
def plains : List D → Bool
  | [] => true
  | x :: xs => plain x && plains xs
end
mutual
def dep : D → Nat
  | .tup xs => deps xs + 1
  | .lst xs => deps xs + 1
  | _ => 0
def deps : List D → Nat
  | [] => 0
  | x :: xs => max (dep x) (deps xs)
end
/-- two things may be compared by == -/
def eqOk (x y : D) : Bool := plain x && plain y && decide (min (dep x) (dep y) ≤ 60)

inductive Leaf where
  | i | s | b
  deriving DecidableEq
def isK : Nat → Leaf → D → Bool
  | 0, .i, .int _ => true
  | 0, .s, .str _ => true
  | 0, .b, .bl _ => true
  | n + 1, l, .tup xs => xs.all (isK n l)
  | _, _, _ => false
def ltS (x y : Str) : Bool := decide (x.cps.toList < y.cps.toList)
mutual
def ltB : D → D → Bool
  | .int i, .int j => decide (i < j)
  | .str x, .str y => ltS x y
  | .bl a, .bl b => !a && b
  | .tup xs, .tup ys => ltBs xs ys
  | .lst xs, .lst ys => ltBs xs ys
  | _, _ => false
def ltBs : List D → List D → Bool
  | [], [] => false
  | [], _ :: _ => true
  | _ :: _, [] => false
  | x :: xs, y :: ys => if eqB x y then ltBs xs ys else ltB x y
end
def kinds : List (Nat × Leaf) := [(0, .s), (0, .i), (0, .b), (1, .s), (1, .b), (1, .i), (2, .s), (3, .s), (4, .s)]
def kindOf (xs : List D) : Option (Nat × Leaf) := kinds.find? fun k => xs.all (isK k.1 k.2)

/-! ### core terms -/
inductive BOp where
  | add | sub | mul | fdiv | mod | pow
  deriving DecidableEq
inductive COp where
  | eq | ne | lt | le | gt | ge | is | isnot | inn | notin
  deriving DecidableEq
inductive Ty where
  | str | int | bool | tuple | list | dict | cls (c : Nat)
  deriving DecidableEq
inductive BI where
  | len | all | any | int | tuple | list | sorted | min | max | repr
  deriving DecidableEq
/-- targets of names -/
inductive T where
  | nm (i : Nat)
  | tup (ts : List T)
inductive C where
  | k (d : D)
  | v (i : Nat)
  | bin (o : BOp) (a b : C)
  | neg (a : C)
  | cmp (o : COp) (a b : C)
  | chain (o o' : COp) (a b c : C)
  | and (a b : C)
  | or (a b : C)
  | not (a : C)
  | ite (t a b : C)
  | star (a : C)
  | tup (es : List C)
  | lst (es : List C)
  | dct0
  | call (f : Nat) (es : List C)
  | bi (b : BI) (es : List C)
  | isi (a : C) (ts : List Ty)
  | ix (a i : C)
  | sl (a lo hi : C)
  | slr (a lo hi : C)
  | nop
  | lc (own : List Nat) (t : T) (it : C) (c : C) (e : C)
  | lc2 (own : List Nat) (t1 : T) (it1 : C) (own2 : List Nat) (t2 : T) (it2 : C) (c : C) (e : C)
  | rng (es : List C)
  | zip (es : List C)
  | enum (es : List C)
inductive S where
  | pass
  | expr (e : C)
  | asg (t : T) (e : C)
  | par (is : List Nat) (es : List C)
  | ret (e : C)
  | retN
  | ite (c : C) (a b : List S)
  | for_ (t : T) (it : C) (b : List S)
  | while_ (n : Nat) (c : C) (b : List S)
  | raise (c : Nat) (e : C)
  | tryR (c : Nat) (no : List Nat) (i j : Nat) (b : List S)
  | brk
  | cont

/-! ### operations on data -/
def LIM : Nat := 1000000
def small (i : Int) : Bool := decide (-(2 ^ 64) < i) && decide (i < 2 ^ 64)
def toI (b : Bool) : Int := if b = true then 1 else 0
def repS (x : Str) (n : Nat) : Str := ⟨(List.replicate n x.cps.toList).flatten.toArray⟩
def addD : D → D → Option D
  | .int i, .int j => some (.int (i + j))
  | .bl a, .bl b => some (.int (toI a + toI b))
  | .int i, .bl b => some (.int (i + toI b))
  | .str x, .str y => if x.length + y.length ≤ LIM then some (.str (x ++ y)) else none
  | .tup xs, .tup ys => if xs.length + ys.length ≤ LIM then some (.tup (xs ++ ys)) else none
  | .lst xs, .lst ys => if xs.length + ys.length ≤ LIM then some (.lst (xs ++ ys)) else none
  | _, _ => none
def subD : D → D → Option D
  | .int i, .int j => some (.int (i - j))
  | _, _ => none
def mulD : D → D → Option D
  | .int i, .int j => if small i || small j then some (.int (i * j)) else none
  | .str x, .int k => if 2 ≤ k && k ≤ 1000 && decide (x.length ≤ 1000) then some (.str (repS x k.toNat)) else none
  | .tup xs, .int k => if 2 ≤ k && k ≤ 1000 && decide (xs.length ≤ 1000) then some (.tup (List.replicate k.toNat xs).flatten) else none
  | .lst xs, .int k => if 0 ≤ k && k ≤ 1000 && decide (xs.length ≤ 1000) then some (.lst (List.replicate k.toNat xs).flatten) else none
  | _, _ => none
def fdivD : D → D → Option D
  | .int i, .int j => if 0 < j && j < 1073741824 then some (.int (i / j)) else none
  | _, _ => none
def modD : D → D → Option D
  | .int i, .int j => if 0 < j then some (.int (i % j)) else none
  | _, _ => none
def powD : D → D → Option D
  | .int i, .int j => if 0 ≤ j && j ≤ 1000 && small i then some (.int (i ^ j.toNat)) else none
  | _, _ => none
def binD : BOp → D → D → Option D
  | .add => addD
  | .sub => subD
  | .mul => mulD
  | .fdiv => fdivD
  | .mod => modD
  | .pow => powD

def eqD : D → D → Option D
  | .tup (_ :: _), .tup [] => some (.bl false)
  | .tup [], .tup (_ :: _) => some (.bl false)
  | .lst (_ :: _), .lst [] => some (.bl false)
  | x, y => if eqOk x y then some (.bl (eqB x y)) else none
def neD : D → D → Option D
  | .lst (_ :: _), .lst [] => some (.bl true)
  | x, y => if eqOk x y then some (.bl (!eqB x y)) else none
def leS (x y : Str) : Bool := !ltS y x
def ltD : D → D → Option D
  | .int i, .int j => some (.bl (decide (i < j)))
  | .str x, .str y => some (.bl (ltS x y))
  | _, _ => none
def leD : D → D → Option D
  | .int i, .int j => some (.bl (decide (i ≤ j)))
  | .str x, .str y => some (.bl (leS x y))
  | _, _ => none
def gtD (x y : D) : Option D := ltD y x
def geD (x y : D) : Option D := leD y x
def inB (x : D) (xs : List D) : Bool := xs.any fun y => eqB y x
def inD : D → D → Option D
  | x, .tup xs => if plain x && plains xs && decide (min (dep x) (deps xs) ≤ 60) then some (.bl (inB x xs)) else none
  | x, .lst xs => if plain x && plains xs && decide (min (dep x) (deps xs) ≤ 60) then some (.bl (inB x xs)) else none
  | .str x, .str y => if x.length = 1 then some (.bl (y.cps.toList.contains (x.cps.getD 0 0))) else none
  | _, _ => none
def notD : D → Option D
  | .bl b => some (.bl (!b))
  | _ => none
def isD : D → D → Option D
  | .non, .non => some (.bl true)
  | .bl a, .bl b => some (.bl (a == b))
  | .own _, .non => none
  | .drw, .non => none
  | _, .non => some (.bl false)
  | .non, .bl _ => some (.bl false)
  | _, _ => none
def cmpD : COp → D → D → Option D
  | .eq, x, y => eqD x y
  | .ne, x, y => neD x y
  | .lt, x, y => ltD x y
  | .le, x, y => leD x y
  | .gt, x, y => gtD x y
  | .ge, x, y => geD x y
  | .is, x, y => isD x y
  | .isnot, x, y => (isD x y).bind notD
  | .inn, x, y => inD x y
  | .notin, x, y => (inD x y).bind notD

/-! ### the evaluator's words -/
abbrev Env' := List (Option D)
def rd (env : Env') (i : Nat) : M D := match env[i]? with
  | some (some d) => M.ret d
  | _ => M.stk
def vw (s : SS) : D → D
  | .own i => match s.cs[i]? with
    | some (_, .lst xs) => .lst xs
    | _ => .own i
  | d => d
/-- a two-place operation on what is read -/
def op2 (f : D → D → Option D) (x y : D) : M D := fun s => match f (vw s x) (vw s y) with
  | some d => .ok d s
  | none => .stuck
def op1 (f : D → Option D) (x : D) : M D := fun s => match f (vw s x) with
  | some d => .ok d s
  | none => .stuck
def andM (x : M D) (y : M D) : M D := x >>= fun a => match a with
  | .bl true => y
  | .bl false => M.ret (.bl false)
  | _ => M.stk
def orM (x : M D) (y : M D) : M D := x >>= fun a => match a with
  | .bl false => y
  | .bl true => M.ret (.bl true)
  | _ => M.stk
def iteM {α : Type} (t : M D) (x y : M α) : M α := t >>= fun a => match a with
  | .bl true => x
  | .bl false => y
  | _ => M.stk
def notM (x : M D) : M D := x >>= fun a => match a with
  | .bl b => M.ret (.bl (!b))
  | _ => M.stk
def negD : D → Option D
  | .int i => some (.int (-i))
  | _ => none
def chainM (o o' : COp) (a b c : M D) : M D := a >>= fun x => b >>= fun y => op2 (cmpD o) x y >>= fun z => match z with
  | .bl true => c >>= fun w => op2 (cmpD o') y w
  | .bl false => M.ret (.bl false)
  | _ => M.stk
/-- handed on: what may change no more -/
def frz (d : D) : M D := fun s => match d with
  | .own i => match s.cs[i]? with
    | some (_, .lst xs) => .ok (.lst xs) { s with cs := s.cs.set i (true, .lst xs) }
    | _ => .stuck
  | d => .ok d s
def pureB : D → Bool
  | .own _ => false
  | .drw => false
  | _ => true
def seqD : D → Option (List D)
  | .tup xs => some xs
  | .lst xs => some xs
  | _ => none
def consM (x : M D) (ys : M (List D)) : M (List D) := x >>= fun a => frz a >>= fun a => ys >>= fun r => M.ret (a :: r)
def starM (x : M D) (ys : M (List D)) : M (List D) := x >>= fun a s => match seqD (vw s a) with
  | some l => (ys >>= fun r => M.ret (l ++ r)) s
  | none => .stuck
def tupM (xs : M (List D)) : M D := xs >>= fun ds => if ds.all pureB && decide (ds.length ≤ LIM) then M.ret (.tup ds) else M.stk
def lstM (xs : M (List D)) : M D := xs >>= fun ds => if ds.all pureB && decide (ds.length ≤ LIM) then M.ret (.lst ds) else M.stk

/-! ### items, slices -/
def ixD : D → D → Option D
  | .tup xs, .int i => L2.atI xs i
  | .lst xs, .int i => L2.atI xs i
  | .str x, .int i => if x.length ≤ LIM then (L2.atI x.cps.toList i).map fun c => .str ⟨#[c]⟩ else none
  | _, _ => none
def cutL {α : Type} (xs : List α) (lo hi : Option Int) : List α := (xs.drop (HT.sIx xs.length 0 lo)).take (HT.sIx xs.length xs.length hi - HT.sIx xs.length 0 lo)
def cutD : D → Option Int → Option Int → Option D
  | .tup xs, lo, hi => some (.tup (cutL xs lo hi))
  | .lst xs, lo, hi => some (.lst (cutL xs lo hi))
  | .str x, lo, hi => if x.length ≤ LIM then some (.str ⟨(cutL x.cps.toList lo hi).toArray⟩) else none
  | _, _, _ => none
def backL {α : Type} (xs : List α) (lo hi : Option Int) : List α :=
  let p := Builtin.Slice.sliceAdjust lo hi (-1) (xs.length : Int)
  (List.range (Builtin.Slice.slicePlaces p.1 p.2 (-1))).filterMap fun (k : Nat) => xs[(p.1 + (k : Int) * (-1)).toNat]?
def backD : D → Option Int → Option Int → Option D
  | .tup xs, lo, hi => some (.tup (backL xs lo hi))
  | .lst xs, none, none => some (.lst xs.reverse)
  | _, _, _ => none
/-- a slice's bound that is written -/
def intM (x : M D) : M (Option Int) := x >>= fun d => match d with
  | .int i => M.ret (some i)
  | _ => M.stk
def sliceM (f : D → Option Int → Option Int → Option D) (a : M D) (lo hi : M (Option Int)) : M D := a >>= fun x => lo >>= fun l => hi >>= fun h s => match f (vw s x) l h with
  | some d => .ok d s
  | none => .stuck

/-! ### built-in functions -/
def consN (x : M D) (ys : M (List D)) : M (List D) := x >>= fun a => ys >>= fun r => M.ret (a :: r)
def biM (f : List D → Option D) (xs : M (List D)) : M D := xs >>= fun ds s => match f (ds.map (vw s)) with
  | some d => .ok d s
  | none => .stuck
def lenD : List D → Option D
  | [.tup xs] => some (.int (xs.length : Nat))
  | [.lst xs] => some (.int (xs.length : Nat))
  | [.str x] => if x.length ≤ LIM then some (.int (x.length : Nat)) else none
  | _ => none
def boolsD : List D → Option (List Bool)
  | [] => some []
  | .bl b :: r => (boolsD r).map (b :: ·)
  | _ => none
def intsD : List D → Option (List Int)
  | [] => some []
  | .int i :: r => (intsD r).map (i :: ·)
  | _ => none
def allD : List D → Option D
  | [.lst xs] => (boolsD xs).map fun bs => .bl (bs.all id)
  | _ => none
def anyD : List D → Option D
  | [.lst xs] => (boolsD xs).map fun bs => .bl (bs.any id)
  | _ => none
def intD : List D → Option D
  | [.int i] => some (.int i)
  | [.bl b] => some (.int (if b then 1 else 0))
  | _ => none
def tupleD : List D → Option D
  | [.tup xs] => some (.tup xs)
  | [.lst xs] => some (.tup xs)
  | _ => none
def listD : List D → Option D
  | [.tup xs] => some (.lst xs)
  | [.lst xs] => some (.lst xs)
  | _ => none
def minI : List Int → Int
  | [] => 0
  | [a] => a
  | a :: r => min a (minI r)
def maxI : List Int → Int
  | [] => 0
  | [a] => a
  | a :: r => max a (maxI r)
def minD : List D → Option D
  | [.int i, .int j] => some (.int (if j < i then j else i))
  | [.str x, .str y] => some (.str (if ltS y x = true then y else x))
  | [.lst (x :: xs)] => (intsD (x :: xs)).map fun ns => .int (minI ns)
  | _ => none
def maxD : List D → Option D
  | [.int i, .int j] => some (.int (if j > i then j else i))
  | [.lst (x :: xs)] => (intsD (x :: xs)).map fun ns => .int (maxI ns)
  | _ => none
def tyName : D → Option String
  | .non => some "NoneType"
  | .bl _ => some "bool"
  | .int _ => some "int"
  | .str _ => some "str"
  | .tup _ => some "tuple"
  | .lst _ => some "list"
  | .dct _ _ => some "dict"
  | _ => none
def Ty.name : Ty → Option String
  | .str => some "str"
  | .int => some "int"
  | .bool => some "bool"
  | .tuple => some "tuple"
  | .list => some "list"
  | .dict => some "dict"
  | .cls _ => none
/-- is a thing of a type one of another type -/
def subTy (a b : String) : Bool := a == b || (a == "bool" && b == "int")
def isiD (ts : List Ty) (d : D) : Option D := match tyName d with
  | some a => if ts.all (fun t => t.name.isSome) then some (.bl (ts.any fun t => match t.name with | some b => subTy a b | none => false)) else none
  | none => none

/-! ### what is walked -/
def itemsD : D → Option (List D)
  | .tup xs => some xs
  | .lst xs => some xs
  | .str x => some (x.cps.toList.map fun c => .str ⟨#[c]⟩)
  | _ => none
def walkM (x : M D) : M (List D) := x >>= fun a => frz a >>= fun a => M.opt (itemsD a)
def rangeL (lo hi : Int) : List D := (List.range (hi - lo).toNat).map fun (k : Nat) => .int (lo + (k : Int))
def inR (i : Int) : Bool := decide (-(2 ^ 62) ≤ i) && decide (i < 2 ^ 62)
def rangeM (xs : M (List D)) : M (List D) := xs >>= fun ds => match ds with
  | [.int j] => if inR j then M.ret (rangeL 0 j) else M.stk
  | [.int i, .int j] => if inR i && inR j then M.ret (rangeL i j) else M.stk
  | _ => M.stk
def zipM (xs : M (List D)) : M (List D) := xs >>= fun ds => match ds with
  | [.tup xs, .tup ys] => M.ret ((xs.zip ys).map fun p => .tup [p.1, p.2])
  | [.lst xs, .lst ys] => M.ret ((xs.zip ys).map fun p => .tup [p.1, p.2])
  | _ => M.stk
def enumL (k : Nat) : List D → List D
  | [] => []
  | x :: xs => .tup [.int (k : Int), x] :: enumL (k + 1) xs
def enumM (xs : M (List D)) : M (List D) := xs >>= fun ds => match ds with
  | [.lst xs] => M.ret (enumL 0 xs)
  | _ => M.stk

/-! ### targets -/
mutual
def asgT : T → D → Env' → Option Env'
  | .nm i, d, env => if i < env.length then some (env.set i (some d)) else none
  | .tup ts, .tup ds, env => asgTs ts ds env
  | .tup _, _, _ => none
def asgTs : List T → List D → Env' → Option Env'
  | [], [], env => some env
  | t :: ts, d :: ds, env => (asgT t d env).bind fun env => asgTs ts ds env
  | _, _, _ => none
end
mutual
def slotsT : T → List Nat
  | .nm i => [i]
  | .tup ts => slotsTs ts
def slotsTs : List T → List Nat
  | [] => []
  | t :: ts => slotsT t ++ slotsTs ts
end
def wipeE (env : Env') : List Nat → Env'
  | [] => env
  | v :: vs => (wipeE env vs).set v none
/-! ### comprehensions -/
def compM (f : D → M (Option D)) : List D → M (List D)
  | [] => M.ret []
  | d :: ds => f d >>= fun o => compM f ds >>= fun r => M.ret (match o with | some y => y :: r | none => r)
/-- one turn: the target, the test, the element -/
def turnM (t : T) (tst el : Env' → M D) (env : Env') (d : D) : M (Option D) := match asgT t d env with
  | none => M.stk
  | some env' => iteM (tst env') (el env' >>= fun y => frz y >>= fun y => if pureB y then M.ret (some y) else M.stk) (M.ret none)
def lcM (own : List Nat) (t : T) (it : M (List D)) (tst el : Env' → M D) (env : Env') : M D :=
  it >>= fun ds => M.calm (compM (turnM t tst el (wipeE env own)) ds) >>= fun r => if r.length ≤ LIM then M.ret (.lst r) else M.stk

def catM (f : D → M (List D)) : List D → M (List D)
  | [] => M.ret []
  | d :: ds => f d >>= fun l => catM f ds >>= fun r => M.ret (l ++ r)
def turn2M (t1 : T) (it2 : Env' → M (List D)) (own2 : List Nat) (t2 : T) (tst el : Env' → M D) (env : Env') (d : D) : M (List D) := match asgT t1 d env with
  | none => M.stk
  | some env1 => it2 env1 >>= fun ys => compM (turnM t2 tst el (wipeE env1 own2)) ys
def lc2M (own : List Nat) (t1 : T) (it : M (List D)) (it2 : Env' → M (List D)) (own2 : List Nat) (t2 : T) (tst el : Env' → M D) (env : Env') : M D :=
  it >>= fun ds => M.calm (catM (turn2M t1 it2 own2 t2 tst el (wipeE env own)) ds) >>= fun r => if r.length ≤ LIM then M.ret (.lst r) else M.stk
end PI

/-! PI, part b: what data stands for in the abstract heap; the semantic judgement. -/
namespace PI
open PySem L2

/-! ### data in the abstract heap -/
/-- a list that stays as it is -/
def FzL (H : Hp) (a : Addr) (vs : List V) : Prop := ∃ o, H a = some (.frz o (.lst vs))
theorem FzL.rd {H : Hp} {a : Addr} {vs : List V} (h : FzL H a vs) : Rd H a (.lst vs) := .inr h
theorem FzL.sq {K : PySem.W.Frag} {H : Hp} {a : Addr} {vs : List V} (h : FzL H a vs) : SqL K H a vs := .inl (.inr h)
def FzT (K : PySem.W.Frag) (H : Hp) (a : Addr) (vs : List V) : Prop :=
  H a = some (.tup vs) ∨
    ∃ (o : Obj) (its : Array Value) (n : Nat), K.lookup a = some o ∧ o.cls = .type "tuple" ∧
      o.data = .seq its n ∧ its.size ≤ sizeLine ∧ Vals vs its.toList
theorem FzT.sq {K : PySem.W.Frag} {H : Hp} {a : Addr} {vs : List V} (h : FzT K H a vs) : SqT K H a vs := by
  rcases h with h | h
  · exact .inl (.inl h)
  · exact .inr h

mutual
inductive Rep (K : PySem.W.Frag) (H : Hp) : V → D → Prop
  | non : Rep K H .non .non
  | bl (b : Bool) : Rep K H (.bl b) (.bl b)
  | int (i : Int) : Rep K H (.int i) (.int i)
  | str (x : Str) : Rep K H (.str x) (.str x)
  | tup {a : Addr} {vs : List V} {ds : List D} : FzT K H a vs → Reps K H vs ds → Rep K H (.ref a) (.tup ds)
  | lst {a : Addr} {vs : List V} {ds : List D} : FzL H a vs → Reps K H vs ds → Rep K H (.ref a) (.lst ds)
  | dct0 {a : Addr} {o : Obj} : H a = some (.frz o (.dK [])) → Rep K H (.ref a) (.dct [] [])
inductive Reps (K : PySem.W.Frag) (H : Hp) : List V → List D → Prop
  | nil : Reps K H [] []
  | cons {v : V} {vs : List V} {d : D} {ds : List D} : Rep K H v d → Reps K H vs ds → Reps K H (v :: vs) (d :: ds)
end

/-- what stays -/
def Fz : HO → Prop
  | .tup _ => True
  | .frz _ _ => True
  | _ => False
structure Ext (H H' : Hp) : Prop where
  kp : ∀ a o, H a = some o → Fz o → H' a = some o
theorem Ext.refl (H : Hp) : Ext H H := ⟨fun _ _ e _ => e⟩
theorem Ext.trans {H H1 H2 : Hp} (a : Ext H H1) (b : Ext H1 H2) : Ext H H2 := ⟨fun c o e f => b.kp c o (a.kp c o e f) f⟩
theorem FzL.mono {H H' : Hp} {a : Addr} {vs : List V} (x : Ext H H') (h : FzL H a vs) : FzL H' a vs := by
  obtain ⟨o, h⟩ := h
  exact ⟨o, x.kp _ _ h trivial⟩
theorem FzT.mono {K : PySem.W.Frag} {H H' : Hp} {a : Addr} {vs : List V} (x : Ext H H') (h : FzT K H a vs) : FzT K H' a vs := by
  rcases h with h | h
  · exact .inl (x.kp _ _ h trivial)
  · exact .inr h
mutual
theorem Rep.mono {K : PySem.W.Frag} {H H' : Hp} (x : Ext H H') : ∀ {v : V} {d : D}, Rep K H v d → Rep K H' v d
  | _, _, .non => .non
  | _, _, .bl b => .bl b
  | _, _, .int i => .int i
  | _, _, .str s => .str s
  | _, _, .tup h r => .tup (h.mono x) (Reps.mono x r)
  | _, _, .lst h r => .lst (h.mono x) (Reps.mono x r)
  | _, _, .dct0 h => .dct0 (x.kp _ _ h trivial)
theorem Reps.mono {K : PySem.W.Frag} {H H' : Hp} (x : Ext H H') : ∀ {vs : List V} {ds : List D}, Reps K H vs ds → Reps K H' vs ds
  | _, _, .nil => .nil
  | _, _, .cons h r => .cons (Rep.mono x h) (Reps.mono x r)
end

/-! ### the store in the abstract heap -/
structure Wd where
  m : Option (Addr × Addr)
  ρ : List Addr
/-- what may change -/
def Wd.ws (w : Wd) : List Addr := (match w.m with | some (a, l) => [a, l] | none => []) ++ w.ρ
def cellHO : OC → List V → HO
  | .lst _, vs => .lst vs
  | .dct _ _, _ => .dK []
  | .ins _ _ _, _ => .dK []
def CellAt (K : PySem.W.Frag) (H : Hp) (a : Addr) : Bool × OC → Prop
  | (false, .lst ds) => ∃ vs, H a = some (.lst vs) ∧ Reps K H vs ds
  | (true, .lst ds) => ∃ vs o, H a = some (.frz o (.lst vs)) ∧ Reps K H vs ds
  | _ => False
def MAt (K : PySem.W.Frag) (H : Hp) : Option (Addr × Addr) → Option MS → Prop
  | none, none => True
  | some (a, l), some m => ∃ c, H a = some (.dK [(.inr "cells", .ref c), (.inr "left", .ref l), (.inr "at", .int m.at_)]) ∧
      FzL H c (m.cells.map V.int) ∧ H l = some (.lst (m.left.map V.int)) ∧ m.cells.length ≤ 63 ∧ m.left.length ≤ 63
  | _, _ => False
structure Sto (K : PySem.W.Frag) (w : Wd) (s : SS) (H : Hp) : Prop where
  m : MAt K H w.m s.m
  len : w.ρ.length = s.cs.length
  cs : ∀ (i : Nat) (a : Addr) (c : Bool × OC), w.ρ[i]? = some a → s.cs[i]? = some c → CellAt K H a c
  nd : w.ws.Nodup
/-- from one moment to a later one -/
structure Go (w : Wd) (H : Hp) (w' : Wd) (H' : Hp) : Prop where
  kp : ∀ a o, H a = some o → (a ∉ w.ws ∨ Fz o) → H' a = some o
  gr : ∀ a, a ∈ w'.ws → a ∈ w.ws ∨ H a = none
  pre : ∃ ext, w'.ρ = w.ρ ++ ext
  ms : w.m.isSome = true → w'.m.map (·.1) = w.m.map (·.1)
theorem Go.refl (w : Wd) (H : Hp) : Go w H w H := ⟨fun _ _ e _ => e, fun _ h => .inl h, ⟨[], by simp⟩, fun _ => rfl⟩
theorem Go.ext {w w' : Wd} {H H' : Hp} (g : Go w H w' H') : Ext H H' := ⟨fun a o e f => g.kp a o e (.inr f)⟩
theorem Go.trans {w w1 w2 : Wd} {H H1 H2 : Hp} (a : Go w H w1 H1) (b : Go w1 H1 w2 H2) : Go w H w2 H2 := by
  refine ⟨fun c o e f => b.kp c o (a.kp c o e f) ?_, fun c hc => ?_, ?_, fun h => ?_⟩
  · rcases f with f | f
    · refine .inl fun hc => ?_
      rcases a.gr c hc with z | z
      · exact f z
      · rw [z] at e; cases e
    · exact .inr f
  · rcases b.gr c hc with z | z
    · exact a.gr c z
    · by_cases hw : c ∈ w.ws
      · exact .inl hw
      · refine .inr ?_
        cases q : H c with
        | none => rfl
        | some o => rw [a.kp c o q (.inl hw)] at z; cases z
  · obtain ⟨e1, h1⟩ := a.pre
    obtain ⟨e2, h2⟩ := b.pre
    exact ⟨e1 ++ e2, by rw [h2, h1, List.append_assoc]⟩
  · have h1 := a.ms h
    have h2 : w1.m.isSome = true := by
      cases q : w1.m with
      | none => rw [q] at h1; cases e : w.m with
        | none => rw [e] at h; cases h
        | some z => rw [e] at h1; cases h1
      | some z => rfl
    rw [b.ms h2, h1]
/-- a new object is laid -/
theorem Go.new {w : Wd} {H : Hp} {p : Addr} {o : HO} (h : H p = none) : Go w H w (upd H p o) :=
  ⟨fun a u e _ => by rw [upd_ne (ne_of_none e h)]; exact e, fun _ h => .inl h, ⟨[], by simp⟩, fun _ => rfl⟩

/-- a value at the top: data, or a reference to a cell, or the state of draws -/
def RepT (K : PySem.W.Frag) (w : Wd) (H : Hp) (v : V) : D → Prop
  | .own i => ∃ a, w.ρ[i]? = some a ∧ v = .ref a
  | .drw => ∃ a l, w.m = some (a, l) ∧ v = .ref a
  | d => Rep K H v d
theorem RepT.of {K : PySem.W.Frag} {w : Wd} {H : Hp} {v : V} {d : D} (h : Rep K H v d) : RepT K w H v d := by
  cases d <;> first | exact h | cases h
/-- what a value's meaning leans on -/
structure Gx (w : Wd) (H : Hp) (w' : Wd) (H' : Hp) : Prop where
  ext : Ext H H'
  pre : ∃ ext, w'.ρ = w.ρ ++ ext
  ms : w.m.isSome = true → w'.m.map (·.1) = w.m.map (·.1)
theorem Go.gx {w w' : Wd} {H H' : Hp} (g : Go w H w' H') : Gx w H w' H' := ⟨g.ext, g.pre, g.ms⟩
theorem Gx.trans {w w1 w2 : Wd} {H H1 H2 : Hp} (a : Gx w H w1 H1) (b : Gx w1 H1 w2 H2) : Gx w H w2 H2 := by
  refine ⟨a.ext.trans b.ext, ?_, fun h => ?_⟩
  · obtain ⟨e1, h1⟩ := a.pre
    obtain ⟨e2, h2⟩ := b.pre
    exact ⟨e1 ++ e2, by rw [h2, h1, List.append_assoc]⟩
  · have h1 := a.ms h
    have h2 : w1.m.isSome = true := by
      cases q : w1.m with
      | none => rw [q] at h1; cases e : w.m with
        | none => rw [e] at h; cases h
        | some z => rw [e] at h1; cases h1
      | some z => rfl
    rw [b.ms h2, h1]
theorem RepT.monoX {K : PySem.W.Frag} {w w' : Wd} {H H' : Hp} (g : Gx w H w' H') {v : V} : ∀ {d : D}, RepT K w H v d → RepT K w' H' v d
  | .own i, ⟨a, h, e⟩ => by
    obtain ⟨x, hx⟩ := g.pre
    refine ⟨a, ?_, e⟩
    rw [hx]
    obtain ⟨hi, q⟩ := List.getElem?_eq_some_iff.mp h
    rw [List.getElem?_append_left hi]; exact h
  | .drw, ⟨a, l, h, e⟩ => by
    have q := g.ms (by rw [h]; rfl)
    rw [h] at q
    cases z : w'.m with
    | none => rw [z] at q; cases q
    | some p =>
      obtain ⟨a', l'⟩ := p
      rw [z] at q
      cases q
      exact ⟨a, l', z, e⟩
  | .non, h => Rep.mono g.ext h
  | .bl _, h => Rep.mono g.ext h
  | .int _, h => Rep.mono g.ext h
  | .str _, h => Rep.mono g.ext h
  | .tup _, h => Rep.mono g.ext h
  | .lst _, h => Rep.mono g.ext h
  | .dct _ _, h => Rep.mono g.ext h
  | .obj _ _ _, h => Rep.mono g.ext h

theorem RepT.mono {K : PySem.W.Frag} {w w' : Wd} {H H' : Hp} (g : Go w H w' H') {v : V} {d : D} (h : RepT K w H v d) : RepT K w' H' v d := RepT.monoX g.gx h

structure Rel (K : PySem.W.Frag) (w : Wd) (env : Env') (s : SS) (σ : L2.St) (H : Hp) : Prop where
  len : env.length = σ.length
  sl : ∀ (i : Nat) (d : D), env[i]? = some (some d) → ∃ v, σ[i]? = some (some v) ∧ RepT K w H v d
  st : Sto K w s H
theorem Rel.goX {K : PySem.W.Frag} {w w' : Wd} {env : Env'} {s s' : SS} {σ : L2.St} {H H' : Hp} (r : Rel K w env s σ H) (g : Gx w H w' H') (t : Sto K w' s' H') : Rel K w' env s' σ H' :=
  ⟨r.len, fun i d e => let ⟨v, e1, q⟩ := r.sl i d e; ⟨v, e1, q.monoX g⟩, t⟩
theorem Rel.go {K : PySem.W.Frag} {w w' : Wd} {env : Env'} {s s' : SS} {σ : L2.St} {H H' : Hp} (r : Rel K w env s σ H) (g : Go w H w' H') (t : Sto K w' s' H') : Rel K w' env s' σ H' :=
  ⟨r.len, fun i d e => let ⟨v, e1, q⟩ := r.sl i d e; ⟨v, e1, q.mono g⟩, t⟩

/-- the exceptions' classes: where they stand, their field -/
structure XC where
  cls : Nat → Addr
  fld : Nat → Str

/-- what follows a value -/
def Post (K : PySem.W.Frag) (xc : XC) (W : WX) (σ : L2.St) (w : Wd) (H : Hp) (Q : VK) : R D → Prop
  | .ok d s' => ∀ v H' w', Go w H w' H' → Sto K w' s' H' → RepT K w' H' v d → Q v H'
  | .exc c f s' => ∀ x v H' w', Go w H w' H' → Sto K w' s' H' → H' x = some (.xd [(xc.fld c, v)]) → Rep K H' v f → W (.ref (xc.cls c)) (some x) σ H'
  | .stuck => False
/-- the reading of a term -/
def tE (K : PySem.W.Frag) (xc : XC) (W : WX) (m : Env' → M D) : TE := fun σ H Q => ∃ w env s, Rel K w env s σ H ∧ Post K xc W σ w H Q (m env s)

theorem Post.mono {K : PySem.W.Frag} {xc : XC} {W : WX} {σ : L2.St} {w w1 : Wd} {H H1 : Hp} {Q : VK} (g : Go w H w1 H1) : ∀ {r : R D}, Post K xc W σ w H Q r → Post K xc W σ w1 H1 Q r
  | .ok d s', h => fun v H' w' g' t r => h v H' w' (g.trans g') t r
  | .exc c f s', h => fun x v H' w' g' t e r => h x v H' w' (g.trans g') t e r
  | .stuck, h => h
/-- one after another -/
theorem Post.bind {K : PySem.W.Frag} {xc : XC} {W : WX} {σ : L2.St} {w : Wd} {H : Hp} {Q : VK} {x : M D} {f : D → M D} {s : SS} (h : Post K xc W σ w H Q ((x >>= f) s)) :
    Post K xc W σ w H (fun v H1 => ∃ w1 d s1, Go w H w1 H1 ∧ Sto K w1 s1 H1 ∧ RepT K w1 H1 v d ∧ Post K xc W σ w1 H1 Q (f d s1)) (x s) := by
  have e : (x >>= f) s = M.bnd x f s := rfl
  rw [e] at h
  unfold M.bnd at h
  cases q : x s with
  | ok d s' =>
    rw [q] at h
    intro v H' w' g t r
    exact ⟨w', d, s', g, t, r, h.mono g⟩
  | exc c f' s' => rw [q] at h; exact h
  | stuck => rw [q] at h; exact h
theorem Post.imp {K : PySem.W.Frag} {xc : XC} {W : WX} {σ : L2.St} {w : Wd} {H : Hp} {Q Q' : VK} (hq : ∀ v H', Q v H' → Q' v H') : ∀ {r : R D}, Post K xc W σ w H Q r → Post K xc W σ w H Q' r
  | .ok d s', h => fun v H' w' g' t r => hq _ _ (h v H' w' g' t r)
  | .exc c f s', h => h
  | .stuck, h => h
theorem pimp {X : Cx} {e : Expr} {t t' : TE} (h : PE X e t) (hi : ∀ σ H Q, t' σ H Q → t σ H Q) : PE X e t' :=
  ⟨fun pins s σ H Q I q => h.run pins s σ H Q I (hi σ H Q q)⟩

/-! ### reading: what a cell holds stands for itself -/
/-- data as it is read: a list at the top may still change later -/
def RepR (K : PySem.W.Frag) (H : Hp) (v : V) : D → Prop
  | .lst ds => ∃ a vs, v = .ref a ∧ Rd H a (.lst vs) ∧ Reps K H vs ds
  | .own _ => True
  | .drw => True
  | d => Rep K H v d
theorem Rep.rd {K : PySem.W.Frag} {H : Hp} {v : V} {d : D} (h : Rep K H v d) : RepR K H v d := by
  cases h with
  | lst h r => exact ⟨_, _, rfl, h.rd, r⟩
  | non => exact .non
  | bl b => exact .bl b
  | int i => exact .int i
  | str x => exact .str x
  | tup h r => exact .tup h r
  | dct0 h => exact .dct0 h
theorem RepT.rd {K : PySem.W.Frag} {w : Wd} {s : SS} {H : Hp} {v : V} {d : D} (t : Sto K w s H) (h : RepT K w H v d) : RepR K H v (vw s d) := by
  cases d with
  | own i =>
    obtain ⟨a, ha, rfl⟩ := h
    cases q : s.cs[i]? with
    | none =>
      have e : vw s (.own i) = .own i := by simp only [vw, q]
      rw [e]; trivial
    | some c =>
      obtain ⟨fz, oc⟩ := c
      cases oc with
      | lst xs =>
        have e : vw s (.own i) = .lst xs := by simp only [vw, q]
        rw [e]
        have hc := t.cs i a _ ha q
        cases fz with
        | false => obtain ⟨vs, h1, h2⟩ := hc; exact ⟨a, vs, rfl, .inl h1, h2⟩
        | true => obtain ⟨vs, o, h1, h2⟩ := hc; exact ⟨a, vs, rfl, .inr ⟨o, h1⟩, h2⟩
      | dct _ _ =>
        have e : vw s (.own i) = .own i := by simp only [vw, q]
        rw [e]; trivial
      | ins _ _ _ =>
        have e : vw s (.own i) = .own i := by simp only [vw, q]
        rw [e]; trivial
  | drw => trivial
  | non => exact Rep.rd h
  | bl _ => exact Rep.rd h
  | int _ => exact Rep.rd h
  | str _ => exact Rep.rd h
  | tup _ => exact Rep.rd h
  | lst _ => exact Rep.rd h
  | dct _ _ => exact Rep.rd h
  | obj _ _ _ => exact Rep.rd h

/-! ### what only lays new objects -/
theorem sgo {w : Wd} {H H' : Hp} (e : Same H H') : Go w H w H' :=
  ⟨fun a o h _ => e a o h, fun _ h => .inl h, ⟨[], by simp⟩, fun _ => rfl⟩
theorem sext {H H' : Hp} (e : Same H H') : Ext H H' := ⟨fun a o h _ => e a o h⟩
theorem snew {H : Hp} {p : Addr} {o : HO} (h : H p = none) : Same H (upd H p o) :=
  fun a u e => by rw [upd_ne (ne_of_none e h)]; exact e
theorem CellAt.same {K : PySem.W.Frag} {H H' : Hp} {a : Addr} {c : Bool × OC} (e : Same H H') (h : CellAt K H a c) : CellAt K H' a c := by
  obtain ⟨fz, oc⟩ := c
  cases oc with
  | lst xs =>
    cases fz with
    | false => obtain ⟨vs, h1, h2⟩ := h; exact ⟨vs, e _ _ h1, h2.mono (sext e)⟩
    | true => obtain ⟨vs, o, h1, h2⟩ := h; exact ⟨vs, o, e _ _ h1, h2.mono (sext e)⟩
  | dct _ _ => cases fz <;> exact h.elim
  | ins _ _ _ => cases fz <;> exact h.elim
theorem MAt.same {K : PySem.W.Frag} {H H' : Hp} {a : Option (Addr × Addr)} {m : Option MS} (e : Same H H') (h : MAt K H a m) : MAt K H' a m := by
  cases a with
  | none => cases m <;> exact h
  | some p =>
    cases m with
    | none => exact h
    | some m =>
      obtain ⟨a, l⟩ := p
      obtain ⟨c, h1, h2, h3, h4⟩ := h
      exact ⟨c, e _ _ h1, h2.mono (sext e), e _ _ h3, h4⟩
theorem Sto.same {K : PySem.W.Frag} {w : Wd} {s : SS} {H H' : Hp} (e : Same H H') (t : Sto K w s H) : Sto K w s H' :=
  ⟨t.m.same e, t.len, fun i a c h1 h2 => (t.cs i a c h1 h2).same e, t.nd⟩

/-! ### freezing -/
def FrQ (Q : VK) : VK := fun v H => ∃ a xs, v = .ref a ∧ H a = some (.lst xs) ∧ ∀ o, Q v (upd H a (.frz o (.lst xs)))
theorem efrz {X : Cx} {pins : List (Addr × Obj)} {σ : L2.St} {Q : VK} {u : Value} {s : Shared} (h : EP X pins σ (FrQ Q) u s) : EP X pins σ Q u s := by
  obtain ⟨v, H, I, r, a, xs, e, hH, q⟩ := h
  obtain ⟨o, I'⟩ := I.lock hH trivial
  exact ⟨v, _, I', r, q o⟩
theorem pfrz {X : Cx} {e : Expr} {t : TE} (h : PE X e t) : PE X e (fun σ H Q => t σ H (FrQ Q)) :=
  ⟨fun pins s σ H Q I q => thn (h.run pins s σ H _ I q) fun _ _ z => efrz z⟩
/-- a new list, frozen at once -/
theorem fr_new {K : PySem.W.Frag} {H : Hp} {p : Addr} {vs : List V} {ds : List D} {Q : VK} (hp : H p = none) (r : Reps K H vs ds)
    (q : ∀ v H', Same H H' → Rep K H' v (.lst ds) → Q v H') : FrQ Q (.ref p) (upd H p (.lst vs)) := by
  refine ⟨p, vs, rfl, upd_same, fun o => ?_⟩
  rw [upd_upd]
  have e : Same H (upd H p (.frz o (.lst vs))) := snew hp
  exact q _ _ e (.lst ⟨o, upd_same⟩ (r.mono (sext e)))
theorem tup_new {K : PySem.W.Frag} {H : Hp} {p : Addr} {vs : List V} {ds : List D} {Q : VK} (hp : H p = none) (r : Reps K H vs ds)
    (q : ∀ v H', Same H H' → Rep K H' v (.tup ds) → Q v H') : Q (.ref p) (upd H p (.tup vs)) := by
  have e : Same H (upd H p (.tup vs)) := snew hp
  exact q _ _ e (.tup (.inl upd_same) (r.mono (sext e)))

/-! ### Reps -/
theorem Reps.length {K : PySem.W.Frag} {H : Hp} : ∀ {vs : List V} {ds : List D}, Reps K H vs ds → vs.length = ds.length
  | _, _, .nil => rfl
  | _, _, .cons _ r => by simp [Reps.length r]
theorem Reps.append {K : PySem.W.Frag} {H : Hp} : ∀ {vs ws : List V} {ds es : List D}, Reps K H vs ds → Reps K H ws es → Reps K H (vs ++ ws) (ds ++ es)
  | _, _, _, _, .nil, s => s
  | _, _, _, _, .cons h r, s => .cons h (Reps.append r s)
theorem Reps.get {K : PySem.W.Frag} {H : Hp} : ∀ {vs : List V} {ds : List D} {i : Nat} {d : D}, Reps K H vs ds → ds[i]? = some d → ∃ v, vs[i]? = some v ∧ Rep K H v d
  | _, _, _, _, .nil, e => by simp at e
  | _, _, 0, _, .cons h _, e => by simp at e; subst e; exact ⟨_, rfl, h⟩
  | _, _, i + 1, d, .cons _ r, e => by
    obtain ⟨v, h1, h2⟩ := Reps.get (i := i) (d := d) r (by simpa using e)
    exact ⟨v, by simpa using h1, h2⟩
theorem Reps.take {K : PySem.W.Frag} {H : Hp} : ∀ {vs : List V} {ds : List D} (n : Nat), Reps K H vs ds → Reps K H (vs.take n) (ds.take n)
  | _, _, 0, _ => by simpa using .nil
  | _, _, _ + 1, .nil => .nil
  | _, _, n + 1, .cons h r => .cons h (Reps.take n r)
theorem Reps.drop {K : PySem.W.Frag} {H : Hp} : ∀ {vs : List V} {ds : List D} (n : Nat), Reps K H vs ds → Reps K H (vs.drop n) (ds.drop n)
  | _, _, 0, r => r
  | _, _, _ + 1, .nil => .nil
  | _, _, n + 1, .cons _ r => Reps.drop n r
theorem Reps.reverse {K : PySem.W.Frag} {H : Hp} : ∀ {vs : List V} {ds : List D}, Reps K H vs ds → Reps K H vs.reverse ds.reverse
  | _, _, .nil => .nil
  | _, _, .cons h r => by rw [List.reverse_cons, List.reverse_cons]; exact Reps.append (Reps.reverse r) (.cons h .nil)
theorem Reps.rep {K : PySem.W.Frag} {H : Hp} {vs : List V} {ds : List D} (r : Reps K H vs ds) : ∀ n : Nat, Reps K H (List.replicate n vs).flatten (List.replicate n ds).flatten
  | 0 => .nil
  | n + 1 => by rw [List.replicate_succ, List.replicate_succ, List.flatten_cons, List.flatten_cons]; exact r.append (r.rep n)
theorem Reps.nil_iff {K : PySem.W.Frag} {H : Hp} {vs : List V} {ds : List D} (r : Reps K H vs ds) : vs = [] ↔ ds = [] := by
  cases r <;> simp
end PI

set_option maxHeartbeats 1000000
/-! PI, part c: operators. -/
namespace PI
open PySem L2
/-- a two-place operation on values does what f does on data -/
def OpP (X : Cx) (g : Value → Value → Sem Value) (f : D → D → Option D) : Prop :=
  OpR X g fun x y H Q => ∃ dx dy d, RepR X.K H x dx ∧ RepR X.K H y dy ∧ f dx dy = some d ∧ ∀ v H', Same H H' → Rep X.K H' v d → Q v H'

section
variable {X : Cx}
theorem lim_line {n : Nat} (h : n ≤ LIM) : n ≤ sizeLine := Nat.le_trans h (by decide)
theorem small_ok {i : Int} (h : small i = true) : -(2 ^ 64) < i ∧ i < 2 ^ 64 := by
  unfold small at h
  rw [Bool.and_eq_true, decide_eq_true_eq, decide_eq_true_eq] at h
  exact h
theorem natAbs_small {i : Int} (h : small i = true) : i.natAbs < 2 ^ 64 := by
  have := small_ok h
  omega
/-- an open list, by its object -/
theorem rd_list {pins : List (Addr × Obj)} {σ : L2.St} {H : Hp} {s : Shared} {a : Addr} {vs : List V} (I : Inv X pins σ H s) (h : Rd H a (.lst vs)) :
    vs.length ≤ sizeLine ∧ ∃ (its : List Value) (n : Nat), Vals vs its ∧ s.heap.get? a = some { cls := .type "list", data := .seq its.toArray n } := h.ok I.hok

theorem add_ok : OpP X (binaryOp .Add) addD := by
  intro pins s σ H x y v u Q I rx ry h
  obtain ⟨dx, dy, d, hx, hy, e, q⟩ := h
  unfold addD at e
  split at e
  · rename_i i j
    cases hx; cases hy; cases e
    exact op_add pins s σ H _ _ v u Q I rx ry ⟨i, j, rfl, rfl, q _ _ (Same.refl H) (.int _)⟩
  · rename_i a b
    cases hx; cases hy; cases e
    cases rx; cases ry
    exact PyProof.Rows.add_bool ⟨.int _, H, I.tok _, ⟨_, rfl⟩, q _ _ (Same.refl H) (.int _)⟩
  · rename_i i b
    cases hx; cases hy; cases e
    exact op_add_ib pins s σ H _ _ v u Q I rx ry ⟨i, b, rfl, rfl, q _ _ (Same.refl H) (.int _)⟩
  · rename_i a b
    split at e
    · rename_i hl
      cases hx; cases hy; cases e
      exact op_add_str pins s σ H _ _ v u Q I rx ry ⟨a, b, rfl, rfl, lim_line hl, q _ _ (Same.refl H) (.str _)⟩
    · cases e
  · rename_i xs ys
    split at e
    · rename_i hl
      cases hx with
      | tup h1 r1 =>
      cases hy with
      | tup h2 r2 =>
      cases e
      refine op_catA pins s σ H _ _ v u Q I rx ry ⟨_, _, _, _, rfl, rfl, h1.sq, h2.sq, ?_, fun z => ?_, fun _ z => ?_, fun _ _ p hp => ?_⟩
      · rw [r1.length, r2.length]; exact lim_line hl
      · have z' := r1.nil_iff.mp z
        subst z'
        exact q _ _ (Same.refl H) (.tup h2 r2)
      · have z' := r2.nil_iff.mp z
        subst z'
        rw [List.append_nil] at q
        exact q _ _ (Same.refl H) (.tup h1 r1)
      · exact tup_new hp (r1.append r2) q
    · cases e
  · rename_i xs ys
    split at e
    · rename_i hl
      obtain ⟨a, vs, rfl, h1, r1⟩ := hx
      obtain ⟨b, ws, rfl, h2, r2⟩ := hy
      cases e
      cases rx; cases ry
      obtain ⟨z1, its, n, i1, e1⟩ := rd_list I h1
      obtain ⟨z2, its2, n2, i2, e2⟩ := rd_list I h2
      have l1 := i1.length
      have l2 := i2.length
      have l3 := r1.length
      have l4 := r2.length
      have lm := lim_line hl
      refine PySem.P.add_list e1 e2 ?_ (by rw [List.size_toArray, List.size_toArray]; omega)
      have ea : its.toArray ++ its2.toArray = (its ++ its2).toArray := by simp
      rw [ea]
      refine efrz ⟨.ref _, _, I.lnew (t' := s.toks) (i1.append i2) (by rw [List.length_append]; omega), rfl, fr_new I.fresh (r1.append r2) q⟩
    · cases e
  · cases e
theorem sub_ok : OpP X (binaryOp .Sub) subD := by
  intro pins s σ H x y v u Q I rx ry h
  obtain ⟨dx, dy, d, hx, hy, e, q⟩ := h
  unfold subD at e
  split at e
  · rename_i i j
    cases hx; cases hy; cases e
    exact op_sub pins s σ H _ _ v u Q I rx ry ⟨i, j, rfl, rfl, q _ _ (Same.refl H) (.int _)⟩
  · cases e
theorem fdiv_ok : OpP X (binaryOp .FloorDiv) fdivD := by
  intro pins s σ H x y v u Q I rx ry h
  obtain ⟨dx, dy, d, hx, hy, e, q⟩ := h
  unfold fdivD at e
  split at e
  · rename_i i j
    split at e
    · rename_i hc
      rw [Bool.and_eq_true, decide_eq_true_eq, decide_eq_true_eq] at hc
      cases hx; cases hy; cases e
      exact op_fdiv pins s σ H _ _ v u Q I rx ry ⟨i, j, rfl, rfl, hc, q _ _ (Same.refl H) (.int _)⟩
    · cases e
  · cases e
theorem mod_ok : OpP X (binaryOp .Mod) modD := by
  intro pins s σ H x y v u Q I rx ry h
  obtain ⟨dx, dy, d, hx, hy, e, q⟩ := h
  unfold modD at e
  split at e
  · rename_i i j
    split at e
    · rename_i hc
      cases hx; cases hy; cases e
      exact op_mod pins s σ H _ _ v u Q I rx ry ⟨i, j, rfl, rfl, hc, q _ _ (Same.refl H) (.int _)⟩
    · cases e
  · cases e
theorem pow_ok : OpP X (binaryOp .Pow) powD := by
  intro pins s σ H x y v u Q I rx ry h
  obtain ⟨dx, dy, d, hx, hy, e, q⟩ := h
  unfold powD at e
  split at e
  · rename_i i j
    split at e
    · rename_i hc
      rw [Bool.and_eq_true, Bool.and_eq_true, decide_eq_true_eq, decide_eq_true_eq] at hc
      cases hx; cases hy; cases e
      exact op_pow pins s σ H _ _ v u Q I rx ry ⟨i, j, rfl, rfl, ⟨hc.1.1, by omega, natAbs_small hc.2⟩, q _ _ (Same.refl H) (.int _)⟩
    · cases e
  · cases e
theorem foldl_app (x : Array Nat) : ∀ (n : Nat) (acc : Array Nat), (List.replicate n x).foldl (· ++ ·) acc = acc ++ (List.replicate n x.toList).flatten.toArray
  | 0, acc => by simp
  | n + 1, acc => by
    rw [List.replicate_succ, List.foldl_cons, foldl_app x n, List.replicate_succ, List.flatten_cons]
    apply Array.ext'
    simp
theorem repS_eq (x : Str) (n : Nat) : (⟨(List.replicate n x.cps).foldl (· ++ ·) #[]⟩ : Str) = repS x n := by
  unfold repS
  rw [foldl_app]
  simp
theorem repS_len (x : Str) (n : Nat) : (repS x n).length = n * x.length := by
  unfold repS Str.length
  simp
open AutoSeq1 (wpAny_loadPart') in
theorem tup_mul0 (l : Addr) (n : Nat) (dd : Option Addr) (sl : Array (Option Value)) (x : Int) (u : Tok) (c0 : (decide (x < -(2 ^ 63)) || decide (x ≥ 2 ^ 63)) = false) :
    Meets (Builtin.«tuple.__mul__» ⟨[.ref l, .int x u], []⟩) (fun _ R s => s.heap.get? l = some { cls := .type "tuple", dict := dd, data := .seq #[] n, slots := sl } ∧ R (.ok (.ret (Value.ref l))) s) :=
  .of_wp fun prog w A R s h => by
    obtain ⟨hp, g, d, tk, os⟩ := s
    obtain ⟨hl, h⟩ := h
    have f1 := AutoSeq1.idx_int
    wp_walk using wpAny_loadPart' hl
    refine wpAny_ite_false (decide_eq_false (by rw [c0]; exact Bool.false_ne_true)) ?_
    wp_walk using wpAny_loadPart' hl
    exact ⟨_, rfl, h⟩
/-- () * k -/
theorem rep0_ok {pins : List (Addr × Obj)} {s : Shared} {σ : L2.St} {H : Hp} {a : Addr} {k : Int} {v u : Value} {Q : VK} (I : Inv X pins σ H s) (hT : SqT X.K H a []) (rx : RelV (.ref a) v) (ry : RelV (.int k) u) (h1 : 0 ≤ k) (h2 : k ≤ 1000) (q : Q (.ref a) H) :
    wpAny (model X.prog X.w) X.A (binaryOp .Mult v u) (EP X pins σ Q) X.xe s := by
  cases rx
  obtain ⟨t, rfl⟩ := ry
  obtain ⟨its, r, ⟨⟨cls, dd, data, sl⟩, ho, hc, n, hd⟩, hs⟩ := I.tuple hT
  cases r
  simp only at hc hd
  subst hc hd
  refine wpAny_binaryOp_repeat_ref (T := "tuple") (U := "int") (by decide) ⟨_, ho, rfl⟩ (typeIs_int · k t) noFill_tuple_mul PySem.F.fills_int_mul PySem.F.slot_int_rmul repeat_tuple PySem.F.slot_int_index.lookup (call_meets PySem.F.slot_int_rmul (typeIs_int s k t) PySem.F.entry_int_rmul (PySem.F.args_int_rmul_2 _ _) (int_rmul_tuple k t a #[] n dd sl) ⟨ho, rfl, ⟨_, ho, rfl⟩, ?_⟩)
  exact call_meets PySem.F.slot_tuple_mul ⟨_, ho, rfl⟩ PySem.F.entry_tuple_mul (PySem.F.args_tuple_mul_2 _ _) (tup_mul0 a n dd sl k t (by rw [decide_eq_false (by omega), decide_eq_false (by omega)]; rfl)) ⟨ho, .ref a, H, I, rfl, q⟩
theorem mul_ok : OpP X (binaryOp .Mult) mulD := by
  intro pins s σ H x y v u Q I rx ry h
  obtain ⟨dx, dy, d, hx, hy, e, q⟩ := h
  unfold mulD at e
  split at e
  · rename_i i j
    split at e
    · rename_i hc
      cases hx; cases hy; cases e
      refine op_mul pins s σ H _ _ v u Q I rx ry ⟨i, j, rfl, rfl, ?_, q _ _ (Same.refl H) (.int _)⟩
      rw [Bool.or_eq_true] at hc
      exact hc.imp small_ok small_ok
    · cases e
  · rename_i z k
    split at e
    · rename_i hc
      rw [Bool.and_eq_true, Bool.and_eq_true, decide_eq_true_eq, decide_eq_true_eq, decide_eq_true_eq] at hc
      obtain ⟨⟨h2, h3⟩, h4⟩ := hc
      cases hx; cases hy; cases e
      obtain ⟨t, rfl⟩ := rx
      obtain ⟨t', rfl⟩ := ry
      have hk1 : ¬ k < 1 := by omega
      have hprod : z.length * k.toNat ≤ 1000 * 1000 := Nat.mul_le_mul h4 (by omega)
      refine PySem.P.mul_str ?_ (fun _ hz => ?_) (fun _ _ => ?_) ?_
      · rw [decide_eq_false (by omega), decide_eq_false (by omega)]; rfl
      · have hdiv : (1000 : Int) ≤ (2 ^ 63 - 1) / k := by
          apply (Int.le_ediv_iff_mul_le (by omega)).mpr
          omega
        omega
      · have hline : (1000 * 1000 : Nat) ≤ sizeLine := by decide
        have hle : z.length * k.toNat ≤ sizeLine := Nat.le_trans hprod hline
        exact decide_eq_false (Nat.not_lt.mpr hle)
      · rw [if_neg hk1]
        by_cases hz : (k == 1 || z.length == 0) = true
        · rw [if_pos hz]
          have hz0 : z.length = 0 := by
            rw [Bool.or_eq_true, beq_iff_eq, beq_iff_eq] at hz
            omega
          have : repS z k.toNat = z := by
            have hc0 : z.cps = #[] := Array.eq_empty_of_size_eq_zero hz0
            cases z with
            | mk c => simp only at hc0; subst hc0; simp [repS]
          rw [this] at q
          exact ⟨.str z, H, I, ⟨_, rfl⟩, q _ _ (Same.refl H) (.str _)⟩
        · rw [if_neg hz, repS_eq]
          refine ⟨?_, .str _, H, I.tok _, ⟨_, rfl⟩, q _ _ (Same.refl H) (.str _)⟩
          have hl := repS_len z k.toNat
          have hline : (1000 * 1000 : Nat) ≤ sizeLine := by decide
          have : (repS z k.toNat).length ≤ sizeLine := by rw [hl, Nat.mul_comm]; omega
          exact this
    · cases e
  · rename_i xs k
    split at e
    · rename_i hc
      simp only [Bool.and_eq_true, decide_eq_true_eq] at hc
      obtain ⟨⟨h2, h3⟩, h4⟩ := hc
      cases hx with
      | tup h1 r1 =>
      cases hy; cases e
      by_cases h5 : xs = []
      · subst h5
        cases r1
        refine rep0_ok I h1.sq rx ry (by omega) (by omega) ?_
        have z : (List.replicate k.toNat ([] : List D)).flatten = [] := by simp
        rw [z] at q
        exact q _ _ (Same.refl H) (.tup h1 .nil)
      refine op_repT pins s σ H _ _ v u Q I rx ry ⟨_, k, _, rfl, rfl, h1.sq, fun z => ?_, h2, h3, by rw [r1.length]; exact h4, fun p hp => tup_new hp (r1.rep _) q⟩
      exact h5 (r1.nil_iff.mp z)
    · cases e
  · rename_i xs k
    split at e
    · rename_i hc
      simp only [Bool.and_eq_true, decide_eq_true_eq] at hc
      obtain ⟨⟨h2, h3⟩, h4⟩ := hc
      obtain ⟨a, vs, rfl, h1, r1⟩ := hx
      cases hy; cases e
      cases rx
      obtain ⟨t, rfl⟩ := ry
      obtain ⟨z1, its, n, i1, e1⟩ := rd_list I h1
      have l1 := i1.length
      have l3 := r1.length
      have hprod : its.length * k.toNat ≤ 1000 * 1000 := Nat.mul_le_mul (by omega) (by omega)
      have hline : (1000 * 1000 : Nat) ≤ sizeLine := by decide
      have hsz : its.toArray.size * k.toNat ≤ sizeLine := by rw [List.size_toArray]; omega
      have hcap : ¬ its.toArray.size * k.toNat > (2 ^ 63 - 1) / 8 := by
        have : (sizeLine : Nat) ≤ (2 ^ 63 - 1) / 8 := by decide
        omega
      have hfit : ¬ (!Builtin.List.listFitsIndex k) = true := by
        rw [fitsIndex_both (by omega) (by omega)]
        exact Bool.false_ne_true
      have hlong : ¬ Builtin.List.listTooLong (its.toArray.size * k.toNat) = true := by
        rw [notLongL hsz]; exact Bool.false_ne_true
      have hnew : List.foldl (fun x1 x2 => x1 ++ x2) #[] (List.replicate (if its.toArray.isEmpty = true then 0 else k.toNat) its.toArray) =
          (List.replicate k.toNat its).flatten.toArray := by
        have f0 : ∀ m : Nat, List.foldl (fun x1 x2 => x1 ++ x2) #[] (List.replicate m its.toArray) = (List.replicate m its).flatten.toArray := fun m => by
          have q := foldl_rep its m []
          rw [List.nil_append] at q; exact q
        rw [f0]
        cases its with
        | nil => simp
        | cons a r' => rw [if_neg (by simp)]
      refine wpAny_binaryOp_repeat_ref (T := "list") (U := "int") (by decide) ⟨_, e1, rfl⟩ (fun s' => typeIs_int s' k t)
        noFill_list_mul F.fills_int_mul F.slot_int_rmul repeat_list F.slot_int_index.lookup
        (call_meets F.slot_int_rmul (typeIs_int s k t) F.entry_int_rmul (F.args_int_rmul_2 _ _)
          (int___rmul___int_list k t a its.toArray n) ⟨e1, rfl, ⟨_, e1, rfl⟩,
            call_meets F.slot_list_mul ⟨_, e1, rfl⟩ F.entry_list_mul (F.args_list_mul_2 _ _)
              (AutoListH.list___mul___list_int_3 a its.toArray n k t hfit hcap hlong) ⟨e1, ?_⟩⟩)
      rw [hnew]
      have hfl : (List.replicate k.toNat vs).flatten.length ≤ sizeLine := by
        rw [PyProof.Rows.lm_len_rep_flat, Nat.mul_comm, l1]; omega
      exact efrz ⟨.ref _, _, I.lnew (t' := s.toks) (i1.rep k.toNat) hfl, rfl, fr_new I.fresh (r1.rep _) q⟩
    · cases e
  · cases e
end
end PI

set_option maxHeartbeats 1000000
/-! PI, part d: comparisons. -/
namespace PI
open PySem L2
mutual
def toPy : D → PyData
  | .non => .none
  | .bl b => .bool b
  | .int i => .int i
  | .str x => .str x
  | .tup xs => .tuple (toPys xs)
  | .lst xs => .list (toPys xs)
  | _ => .none
def toPys : List D → List PyData
  | [] => []
  | x :: xs => toPy x :: toPys xs
end
section
variable {X : Cx} {pins : List (Addr × Obj)} {σ : L2.St} {H : Hp} {s : Shared}
mutual
theorem Rep.reads (I : Inv X pins σ H s) : ∀ {v : V} {d : D} {u : Value}, Rep X.K H v d → plain d = true → RelV v u → ∃ as, Reads s.heap u (toPy d) as
  | _, _, _, .non, _, r => by cases r; exact ⟨_, by unfold toPy; exact .none⟩
  | _, _, _, .bl b, _, r => by cases r; exact ⟨_, by unfold toPy; exact .bool b⟩
  | _, _, _, .int i, _, r => by obtain ⟨t, rfl⟩ := r; exact ⟨_, by unfold toPy; exact .int i t⟩
  | _, _, _, .str x, _, r => by obtain ⟨t, rfl⟩ := r; exact ⟨_, by unfold toPy; exact .str x t⟩
  | _, _, _, .tup h rs, p, r => by
    cases r
    obtain ⟨its, rv, ⟨o, ho, hc, n, hd⟩, _⟩ := I.tuple h.sq
    obtain ⟨as, hr⟩ := Reps.reads I rs (by unfold plain at p; exact p) rv
    exact ⟨_, by unfold toPy; exact .tuple ho hc hd hr⟩
  | _, _, _, .lst h rs, p, r => by
    cases r
    obtain ⟨z, its, n, rv, e⟩ := rd_list I h.rd
    obtain ⟨as, hr⟩ := Reps.reads I rs (by unfold plain at p; exact p) rv
    exact ⟨_, by unfold toPy; exact .list e rfl rfl hr⟩
  | _, _, _, .dct0 _, p, _ => by unfold plain at p; cases p
theorem Reps.reads (I : Inv X pins σ H s) : ∀ {vs : List V} {ds : List D} {us : List Value}, Reps X.K H vs ds → plains ds = true → Vals vs us → ∃ as, ReadsAll s.heap us (toPys ds) as
  | _, _, _, .nil, _, r => by cases r; exact ⟨_, by unfold toPys; exact .nil⟩
  | _, _, _, .cons h rs, p, r => by
    unfold plains at p
    rw [Bool.and_eq_true] at p
    cases r with
    | cons r1 r2 =>
      obtain ⟨as, q1⟩ := Rep.reads I h p.1 r1
      obtain ⟨bs, q2⟩ := Reps.reads I rs p.2 r2
      exact ⟨_, by unfold toPys; exact .cons q1 q2⟩
end
theorem RepR.reads (I : Inv X pins σ H s) {v : V} {d : D} {u : Value} (h : RepR X.K H v d) (p : plain d = true) (r : RelV v u) : ∃ as, Reads s.heap u (toPy d) as := by
  cases d with
  | lst ds =>
    obtain ⟨a, vs, rfl, hl, rs⟩ := h
    cases r
    obtain ⟨z, its, n, rv, e⟩ := rd_list I hl
    obtain ⟨as, hr⟩ := Reps.reads I rs (by unfold plain at p; exact p) rv
    exact ⟨_, by unfold toPy; exact .list e rfl rfl hr⟩
  | own _ => unfold plain at p; cases p
  | drw => unfold plain at p; cases p
  | non => exact Rep.reads I h p r
  | bl _ => exact Rep.reads I h p r
  | int _ => exact Rep.reads I h p r
  | str _ => exact Rep.reads I h p r
  | tup _ => exact Rep.reads I h p r
  | dct _ _ => exact Rep.reads I h p r
  | obj _ _ _ => exact Rep.reads I h p r
end
mutual
theorem lay_of : ∀ {d : D}, plain d = true → (toPy d).canLay0 = true
  | .non, _ => by simp [toPy, PyData.canLay0]
  | .bl _, _ => by simp [toPy, PyData.canLay0]
  | .int _, _ => by simp [toPy, PyData.canLay0]
  | .str x, h => by simp only [toPy, PyData.canLay0]; unfold plain at h; exact h
  | .tup xs, h => by simp only [toPy, PyData.canLay0]; unfold plain at h; exact lays_of h
  | .lst xs, h => by simp only [toPy, PyData.canLay0]; unfold plain at h; exact lays_of h
  | .dct _ _, h => by unfold plain at h; cases h
  | .obj _ _ _, h => by unfold plain at h; cases h
  | .own _, h => by unfold plain at h; cases h
  | .drw, h => by unfold plain at h; cases h
theorem lays_of : ∀ {ds : List D}, plains ds = true → PyData.canLayAll0 (toPys ds) = true
  | [], _ => by simp [toPys, PyData.canLayAll0]
  | x :: xs, h => by
    unfold plains at h
    rw [Bool.and_eq_true] at h
    simp only [toPys, PyData.canLayAll0, Bool.and_eq_true]
    exact ⟨lay_of h.1, lays_of h.2⟩
end
mutual
theorem dep_py : ∀ d : D, (toPy d).depth = dep d
  | .non => by simp [toPy, PyData.depth, dep]
  | .bl _ => by simp [toPy, PyData.depth, dep]
  | .int _ => by simp [toPy, PyData.depth, dep]
  | .str _ => by simp [toPy, PyData.depth, dep]
  | .tup xs => by simp only [toPy, PyData.depth, dep]; rw [deps_py xs]
  | .lst xs => by simp only [toPy, PyData.depth, dep]; rw [deps_py xs]
  | .dct _ _ => by simp [toPy, PyData.depth, dep]
  | .obj _ _ _ => by simp [toPy, PyData.depth, dep]
  | .own _ => by simp [toPy, PyData.depth, dep]
  | .drw => by simp [toPy, PyData.depth, dep]
theorem deps_py : ∀ ds : List D, PyData.depthAll (toPys ds) = deps ds
  | [] => by simp [toPys, PyData.depthAll, deps]
  | x :: xs => by simp only [toPys, PyData.depthAll, deps]; rw [dep_py x, deps_py xs]
end
mutual
theorem eqv_py : ∀ (x y : D), plain x = true → plain y = true → PyData.eqv (toPy x) (toPy y) = eqB x y
  | .tup xs, y, hx, hy => by
    unfold plain at hx
    cases y with
    | tup ys => unfold plain at hy; simp only [toPy, PyData.eqv, eqB]; exact eqvs_py xs ys hx hy
    | lst ys => simp [toPy, PyData.eqv, eqB]
    | dct _ _ => unfold plain at hy; cases hy
    | obj _ _ _ => unfold plain at hy; cases hy
    | own _ => unfold plain at hy; cases hy
    | drw => unfold plain at hy; cases hy
    | _ => simp [toPy, PyData.eqv, eqB]
  | .lst xs, y, hx, hy => by
    unfold plain at hx
    cases y with
    | lst ys => unfold plain at hy; simp only [toPy, PyData.eqv, eqB]; exact eqvs_py xs ys hx hy
    | tup ys => simp [toPy, PyData.eqv, eqB]
    | dct _ _ => unfold plain at hy; cases hy
    | obj _ _ _ => unfold plain at hy; cases hy
    | own _ => unfold plain at hy; cases hy
    | drw => unfold plain at hy; cases hy
    | _ => simp [toPy, PyData.eqv, eqB]
  | .non, y, _, hy => by
    cases y <;> first | (unfold plain at hy; cases hy; done) | simp [toPy, PyData.eqv, eqB]
  | .bl _, y, _, hy => by
    cases y <;> first | (unfold plain at hy; cases hy; done) | simp [toPy, PyData.eqv, eqB]
  | .int _, y, _, hy => by
    cases y <;> first | (unfold plain at hy; cases hy; done) | simp [toPy, PyData.eqv, eqB]
  | .str _, y, _, hy => by
    cases y <;> first | (unfold plain at hy; cases hy; done) | simp [toPy, PyData.eqv, eqB]
  | .dct _ _, _, hx, _ => by unfold plain at hx; cases hx
  | .obj _ _ _, _, hx, _ => by unfold plain at hx; cases hx
  | .own _, _, hx, _ => by unfold plain at hx; cases hx
  | .drw, _, hx, _ => by unfold plain at hx; cases hx
theorem eqvs_py : ∀ (xs ys : List D), plains xs = true → plains ys = true → PyData.eqvAll (toPys xs) (toPys ys) = eqBs xs ys
  | [], [], _, _ => by simp [toPys, PyData.eqvAll, eqBs]
  | [], _ :: _, _, _ => by simp [toPys, PyData.eqvAll, eqBs]
  | _ :: _, [], _, _ => by simp [toPys, PyData.eqvAll, eqBs]
  | x :: xs, y :: ys, hx, hy => by
    unfold plains at hx hy
    rw [Bool.and_eq_true] at hx hy
    simp only [toPys, PyData.eqvAll, eqBs]
    rw [eqv_py x y hx.1 hy.1, eqvs_py xs ys hx.2 hy.2]
end
theorem any_py (x : D) (hx : plain x = true) : ∀ (xs : List D), plains xs = true → (toPys xs).any (fun z => PyData.eqv z (toPy x)) = inB x xs
  | [], _ => by simp [toPys, inB]
  | y :: ys, h => by
    unfold plains at h
    rw [Bool.and_eq_true] at h
    simp only [toPys, List.any_cons, inB]
    rw [eqv_py y x h.1 hx, any_py x hx ys h.2]
    rfl
section
variable {X : Cx}
theorem eqOk_parts {x y : D} (h : eqOk x y = true) : plain x = true ∧ plain y = true ∧ min (dep x) (dep y) ≤ 60 := by
  unfold eqOk at h
  simp only [Bool.and_eq_true, decide_eq_true_eq] at h
  exact ⟨h.1.1, h.1.2, h.2⟩
theorem tup_len_eq {pins : List (Addr × Obj)} {s : Shared} {σ : L2.St} {H : Hp} {x y : V} {v u : Value} {xs ys : List D} {Q : VK} (hu : X.A.units + 65 < cLine) (I : Inv X pins σ H s) (hx : Rep X.K H x (.tup xs)) (hy : Rep X.K H y (.tup ys)) (rx : RelV x v) (ry : RelV y u) (h : (xs = [] ∧ ys ≠ []) ∨ (xs ≠ [] ∧ ys = [])) (q : Q (.bl false) H) :
    wpAny (model X.prog X.w) X.A (compareOp .Eq v u) (EP X pins σ Q) X.xe s := by
  cases hx with
  | tup f1 r1 =>
  cases hy with
  | tup f2 r2 =>
  cases rx
  cases ry
  obtain ⟨i1, v1, t1, _⟩ := I.tuple f1.sq
  obtain ⟨i2, v2, t2, _⟩ := I.tuple f2.sq
  have l1 : i1.length = xs.length := by rw [← v1.length, r1.length]
  have l2 : i2.length = ys.length := by rw [← v2.length, r2.length]
  have hz : min i1.length i2.length = 0 ∧ i1.length ≠ i2.length := by
    rcases h with ⟨e1, e2⟩ | ⟨e1, e2⟩
    · subst e1
      have : ys.length ≠ 0 := fun z => e2 (List.eq_nil_of_length_eq_zero z)
      rw [List.length_nil] at l1
      omega
    · subst e2
      have : xs.length ≠ 0 := fun z => e1 (List.eq_nil_of_length_eq_zero z)
      rw [List.length_nil] at l2
      omega
  refine SeqAt.eq_tupleAt (e := fun _ => true) t1 t2 (by omega) (fun j j1 j2 => ?_) ⟨.bl false, H, I, ?_, q⟩
  · simp at j1 j2
    omega
  · show Value.bool _ = _
    congr 1
    simp only [List.size_toArray]
    rw [show (i1.length == i2.length) = false from beq_eq_false_iff_ne.mpr hz.2, Bool.and_false]
theorem lst_nil {pins : List (Addr × Obj)} {s : Shared} {σ : L2.St} {H : Hp} {x y : V} {v u : Value} {z : D} {xs : List D} (I : Inv X pins σ H s) (hx : RepR X.K H x (.lst (z :: xs))) (hy : RepR X.K H y (.lst [])) (rx : RelV x v) (ry : RelV y u) :
    ∃ l b items items2, v = .ref l ∧ u = .ref b ∧ s.heap.IsList l items ∧ s.heap.IsList b items2 ∧ (items.size != items2.size) = true := by
  obtain ⟨a1, v1, rfl, h1, r1⟩ := hx
  obtain ⟨a2, v2, rfl, h2, r2⟩ := hy
  cases rx
  cases ry
  obtain ⟨i1, w1, p1, _⟩ := I.list (.inl h1)
  obtain ⟨i2, w2, p2, _⟩ := I.list (.inl h2)
  refine ⟨a1, a2, _, _, rfl, rfl, p1.isList, p2.isList, ?_⟩
  have l1 : i1.length = xs.length + 1 := by rw [← w1.length, r1.length]; rfl
  have l2 : i2.length = 0 := by rw [← w2.length, r2.length]; rfl
  simp only [List.size_toArray]
  rw [l1, l2]
  rfl
theorem eq_ok (hu : X.A.units + 65 < cLine) : OpP X (compareOp .Eq) eqD := by
  intro pins s σ H x y v u Q I rx ry h
  obtain ⟨dx, dy, d, hx, hy, e, q⟩ := h
  unfold eqD at e
  split at e
  · cases e
    exact tup_len_eq hu I hx hy rx ry (.inr ⟨by simp, rfl⟩) (q _ _ (Same.refl H) (.bl _))
  · cases e
    exact tup_len_eq hu I hx hy rx ry (.inl ⟨rfl, by simp⟩) (q _ _ (Same.refl H) (.bl _))
  · cases e
    obtain ⟨l, b, i1, i2, rfl, rfl, h1, h2, h3⟩ := lst_nil I hx hy rx ry
    exact (SeqAt.RcAt.lists_lengths h1 h2 h3 (by omega)) _ _ _ _ ⟨.bl false, H, I, rfl, q _ _ (Same.refl H) (.bl _)⟩
  split at e
  · rename_i hc
    obtain ⟨p1, p2, hd⟩ := eqOk_parts hc
    cases e
    obtain ⟨as, r1⟩ := hx.reads I p1 rx
    obtain ⟨bs, r2⟩ := hy.reads I p2 ry
    refine SeqAt.compareEq_reads r1 r2 (lay_of p1) (lay_of p2) (by rw [dep_py, dep_py]; omega) ⟨.bl _, H, I, rfl, ?_⟩
    rw [eqv_py dx dy p1 p2]
    exact q _ _ (Same.refl H) (.bl _)
  · cases e
theorem ne_ok (hu : X.A.units + 65 < cLine) : OpP X (compareOp .NotEq) neD := by
  intro pins s σ H x y v u Q I rx ry h
  obtain ⟨dx, dy, d, hx, hy, e, q⟩ := h
  unfold neD at e
  split at e
  · cases e
    obtain ⟨l, b, i1, i2, rfl, rfl, h1, h2, h3⟩ := lst_nil I hx hy rx ry
    exact (SeqAt.RcNeAt.lists_lengths h1 h2 h3 (by omega)) _ _ _ _ ⟨.bl true, H, I, rfl, q _ _ (Same.refl H) (.bl _)⟩
  split at e
  · rename_i hc
    obtain ⟨p1, p2, hd⟩ := eqOk_parts hc
    cases e
    obtain ⟨as, r1⟩ := hx.reads I p1 rx
    obtain ⟨bs, r2⟩ := hy.reads I p2 ry
    refine SeqAt.compareNe_reads r1 r2 (lay_of p1) (lay_of p2) (by rw [dep_py, dep_py]; omega) ⟨.bl _, H, I, rfl, ?_⟩
    rw [eqv_py dx dy p1 p2]
    exact q _ _ (Same.refl H) (.bl _)
  · cases e
theorem lt_ok : OpP X (compareOp .Lt) ltD := by
  intro pins s σ H x y v u Q I rx ry h
  obtain ⟨dx, dy, d, hx, hy, e, q⟩ := h
  unfold ltD at e
  split at e
  · rename_i i j
    cases hx; cases hy; cases e
    exact op_lt pins s σ H _ _ v u Q I rx ry ⟨i, j, rfl, rfl, q _ _ (Same.refl H) (.bl _)⟩
  · rename_i a b
    cases hx; cases hy; cases e
    exact op_lt_str pins s σ H _ _ v u Q I rx ry ⟨a, b, rfl, rfl, q _ _ (Same.refl H) (.bl _)⟩
  · cases e
theorem le_ok : OpP X (compareOp .LtE) leD := by
  intro pins s σ H x y v u Q I rx ry h
  obtain ⟨dx, dy, d, hx, hy, e, q⟩ := h
  unfold leD at e
  split at e
  · rename_i i j
    cases hx; cases hy; cases e
    exact op_le pins s σ H _ _ v u Q I rx ry ⟨i, j, rfl, rfl, q _ _ (Same.refl H) (.bl _)⟩
  · rename_i a b
    cases hx; cases hy; cases e
    exact op_le_str pins s σ H _ _ v u Q I rx ry ⟨a, b, rfl, rfl, q _ _ (Same.refl H) (.bl _)⟩
  · cases e
theorem gt_ok : OpP X (compareOp .Gt) gtD := by
  intro pins s σ H x y v u Q I rx ry h
  obtain ⟨dx, dy, d, hx, hy, e, q⟩ := h
  unfold gtD ltD at e
  split at e
  · rename_i i j
    cases hx; cases hy; cases e
    exact op_gt pins s σ H _ _ v u Q I rx ry ⟨_, _, rfl, rfl, q _ _ (Same.refl H) (.bl _)⟩
  · rename_i a b
    cases hx; cases hy; cases e
    exact op_gt_str pins s σ H _ _ v u Q I rx ry ⟨_, _, rfl, rfl, q _ _ (Same.refl H) (.bl _)⟩
  · cases e
theorem ge_ok : OpP X (compareOp .GtE) geD := by
  intro pins s σ H x y v u Q I rx ry h
  obtain ⟨dx, dy, d, hx, hy, e, q⟩ := h
  unfold geD leD at e
  split at e
  · rename_i i j
    cases hx; cases hy; cases e
    exact op_ge pins s σ H _ _ v u Q I rx ry ⟨_, _, rfl, rfl, q _ _ (Same.refl H) (.bl _)⟩
  · rename_i a b
    cases hx; cases hy; cases e
    exact op_ge_str pins s σ H _ _ v u Q I rx ry ⟨_, _, rfl, rfl, q _ _ (Same.refl H) (.bl _)⟩
  · cases e
theorem in_ok (hu : X.A.units + 65 < cLine) : OpP X (compareOp .In) inD := by
  intro pins s σ H x y v u Q I rx ry h
  obtain ⟨dx, dy, d, hx, hy, e, q⟩ := h
  unfold inD at e
  split at e
  · rename_i xs
    split at e
    · rename_i hc
      simp only [Bool.and_eq_true, decide_eq_true_eq] at hc
      obtain ⟨⟨p1, p2⟩, hd⟩ := hc
      cases e
      obtain ⟨as, r1⟩ := hx.reads I p1 rx
      obtain ⟨bs, r2⟩ := hy.reads I (by unfold plain; exact p2) ry
      unfold toPy at r2
      refine SeqAt.in_tuple_reads r2 r1 (lays_of p2) (lay_of p1) (by rw [dep_py, deps_py]; omega) ⟨.bl _, H, I, rfl, ?_⟩
      rw [any_py dx p1 xs p2]
      exact q _ _ (Same.refl H) (.bl _)
    · cases e
  · rename_i xs
    split at e
    · rename_i hc
      simp only [Bool.and_eq_true, decide_eq_true_eq] at hc
      obtain ⟨⟨p1, p2⟩, hd⟩ := hc
      cases e
      obtain ⟨as, r1⟩ := hx.reads I p1 rx
      obtain ⟨bs, r2⟩ := hy.reads I (by unfold plain; exact p2) ry
      unfold toPy at r2
      refine SeqAt.in_list_reads r2 r1 (lays_of p2) (lay_of p1) (by rw [dep_py, deps_py]; omega) ⟨.bl _, H, I, rfl, ?_⟩
      rw [any_py dx p1 xs p2]
      exact q _ _ (Same.refl H) (.bl _)
    · cases e
  · rename_i a b
    split at e
    · rename_i hc
      cases hx; cases hy; cases e
      obtain ⟨c, rfl⟩ : ∃ c, a = ⟨#[c]⟩ := by
        obtain ⟨l⟩ := a
        match l, hc with
        | ⟨[c]⟩, _ => exact ⟨c, rfl⟩
      refine op_in_sign pins s σ H _ _ v u Q I rx ry ⟨c, b, rfl, rfl, ?_⟩
      have e2 : decide (c ∈ b.cps.toList) = b.cps.toList.contains ((#[c] : Array Nat).getD 0 0) := by
        rw [List.contains_eq_mem]; rfl
      rw [e2]
      exact q _ _ (Same.refl H) (.bl _)
    · cases e
  · cases e
theorem notD_some {x d : D} (h : notD x = some d) : ∃ b, x = .bl b ∧ d = .bl (!b) := by
  cases x <;> simp [notD] at h
  exact ⟨_, rfl, h.symm⟩
theorem notin_ok (hu : X.A.units + 65 < cLine) : OpP X (compareOp .NotIn) (fun x y => (inD x y).bind notD) := by
  intro pins s σ H x y v u Q I rx ry h
  obtain ⟨dx, dy, d, hx, hy, e0, q⟩ := h
  obtain ⟨d0, e, en⟩ := Option.bind_eq_some_iff.mp e0
  clear e0
  obtain ⟨k, rfl, rfl⟩ := notD_some en
  unfold inD at e
  split at e
  · rename_i xs
    split at e
    · rename_i hc
      simp only [Bool.and_eq_true, decide_eq_true_eq] at hc
      obtain ⟨⟨p1, p2⟩, hd⟩ := hc
      cases e
      obtain ⟨as, r1⟩ := hx.reads I p1 rx
      obtain ⟨bs, r2⟩ := hy.reads I (by unfold plain; exact p2) ry
      unfold toPy at r2
      refine SeqAt.notIn_tuple_reads r2 r1 (lays_of p2) (lay_of p1) (by rw [dep_py, deps_py]; omega) ⟨.bl _, H, I, rfl, ?_⟩
      rw [any_py dx p1 xs p2]
      exact q _ _ (Same.refl H) (.bl _)
    · cases e
  · rename_i xs
    split at e
    · rename_i hc
      simp only [Bool.and_eq_true, decide_eq_true_eq] at hc
      obtain ⟨⟨p1, p2⟩, hd⟩ := hc
      cases e
      obtain ⟨as, r1⟩ := hx.reads I p1 rx
      obtain ⟨bs, r2⟩ := hy.reads I (by unfold plain; exact p2) ry
      unfold toPy at r2
      refine SeqAt.notIn_list_reads r2 r1 (lays_of p2) (lay_of p1) (by rw [dep_py, deps_py]; omega) ⟨.bl _, H, I, rfl, ?_⟩
      rw [any_py dx p1 xs p2]
      exact q _ _ (Same.refl H) (.bl _)
    · cases e
  · rename_i a b
    split at e
    · rename_i hc
      cases hx; cases hy; cases e
      obtain ⟨c, rfl⟩ : ∃ c, a = ⟨#[c]⟩ := by
        obtain ⟨l⟩ := a
        match l, hc with
        | ⟨[c]⟩, _ => exact ⟨c, rfl⟩
      refine op_notIn_sign pins s σ H _ _ v u Q I rx ry ⟨c, b, rfl, rfl, ?_⟩
      have e2 : decide (c ∈ b.cps.toList) = b.cps.toList.contains ((#[c] : Array Nat).getD 0 0) := by
        rw [List.contains_eq_mem]; rfl
      rw [e2]
      exact q _ _ (Same.refl H) (.bl _)
    · cases e
  · cases e
/-- what stands for something else than None is not None -/
theorem rep_non {K : PySem.W.Frag} {H : Hp} {v : V} {d : D} (h : RepR K H v d) (h1 : d ≠ .non) (h2 : ∀ i, d ≠ .own i) (h3 : d ≠ .drw) : v ≠ .non := by
  cases d with
  | own i => exact absurd rfl (h2 i)
  | drw => exact absurd rfl h3
  | non => exact absurd rfl h1
  | lst _ => obtain ⟨a, vs, rfl, _⟩ := h; intro z; cases z
  | bl _ => cases h; intro z; cases z
  | int _ => cases h; intro z; cases z
  | str _ => cases h; intro z; cases z
  | tup _ => cases h; intro z; cases z
  | dct _ _ => cases h; intro z; cases z
  | obj _ _ _ => cases h
theorem is_cases {K : PySem.W.Frag} {H : Hp} {x y : V} {dx dy d : D} (hx : RepR K H x dx) (hy : RepR K H y dy) (e : isD dx dy = some d) :
    (y = .non ∧ d = .bl (decide (x = .non))) ∨ (∃ a b, x = .bl a ∧ y = .bl b ∧ d = .bl (decide (a = b))) ∨ (∃ b, x = .non ∧ y = .bl b ∧ d = .bl false) := by
  unfold isD at e
  split at e
  · cases hx; cases hy; cases e; exact .inl ⟨rfl, rfl⟩
  · rename_i a b
    cases hx; cases hy; cases e
    exact .inr (.inl ⟨a, b, rfl, rfl, by rw [Bool.beq_eq_decide_eq]⟩)
  · cases e
  · cases e
  · rename_i n1 n2 n3
    cases hy; cases e
    refine .inl ⟨rfl, ?_⟩
    have hn := rep_non hx (fun z => n1 z) (fun i z => n2 i z) (fun z => n3 z)
    rw [decide_eq_false hn]
  · cases hx; cases hy; cases e; exact .inr (.inr ⟨_, rfl, rfl, rfl⟩)
  · cases e
theorem is_ok : OpP X (compareOp .Is) isD := by
  intro pins s σ H x y v u Q I rx ry h
  obtain ⟨dx, dy, d, hx, hy, e, q⟩ := h
  rcases is_cases hx hy e with ⟨rfl, rfl⟩ | ⟨a, b, rfl, rfl, rfl⟩ | ⟨b, rfl, rfl, rfl⟩
  · exact op_isN pins s σ H _ _ v u Q I rx ry ⟨rfl, q _ _ (Same.refl H) (.bl _)⟩
  · exact op_is_bl pins s σ H _ _ v u Q I rx ry ⟨a, b, rfl, rfl, q _ _ (Same.refl H) (.bl _)⟩
  · cases rx; cases ry
    exact wpAny_is_other rfl (fun z => by cases z) ⟨.bl false, H, I, rfl, q _ _ (Same.refl H) (.bl _)⟩
theorem isnot_ok : OpP X (compareOp .IsNot) (fun x y => (isD x y).bind notD) := by
  intro pins s σ H x y v u Q I rx ry h
  obtain ⟨dx, dy, d, hx, hy, e0, q⟩ := h
  obtain ⟨d0, e, en⟩ := Option.bind_eq_some_iff.mp e0
  clear e0
  obtain ⟨k, rfl, rfl⟩ := notD_some en
  rcases is_cases hx hy e with ⟨rfl, e1⟩ | ⟨a, b, rfl, rfl, e1⟩ | ⟨b, rfl, rfl, e1⟩
  · cases e1
    exact op_notN pins s σ H _ _ v u Q I rx ry ⟨rfl, q _ _ (Same.refl H) (.bl _)⟩
  · cases e1
    exact op_isnot_bl pins s σ H _ _ v u Q I rx ry ⟨a, b, rfl, rfl, q _ _ (Same.refl H) (.bl _)⟩
  · cases e1
    cases rx; cases ry
    exact wpAny_isNot_other rfl (fun z => by cases z) ⟨.bl true, H, I, rfl, q _ _ (Same.refl H) (.bl _)⟩
def opOf : BOp → Operator
  | .add => .Add
  | .sub => .Sub
  | .mul => .Mult
  | .fdiv => .FloorDiv
  | .mod => .Mod
  | .pow => .Pow
def copOf : COp → CmpOp
  | .eq => .Eq
  | .ne => .NotEq
  | .lt => .Lt
  | .le => .LtE
  | .gt => .Gt
  | .ge => .GtE
  | .is => .Is
  | .isnot => .IsNot
  | .inn => .In
  | .notin => .NotIn
theorem bin_ok : ∀ o : BOp, OpP X (binaryOp (opOf o)) (binD o)
  | .add => add_ok
  | .sub => sub_ok
  | .mul => mul_ok
  | .fdiv => fdiv_ok
  | .mod => mod_ok
  | .pow => pow_ok
theorem cmp_ok (hu : X.A.units + 65 < cLine) : ∀ o : COp, OpP X (compareOp (copOf o)) (cmpD o)
  | .eq => eq_ok hu
  | .ne => ne_ok hu
  | .lt => lt_ok
  | .le => le_ok
  | .gt => gt_ok
  | .ge => ge_ok
  | .is => is_ok
  | .isnot => isnot_ok
  | .inn => in_ok hu
  | .notin => notin_ok hu
end
end PI

set_option maxHeartbeats 1000000
/-! PI, part e: expressions. -/
namespace PI
open PySem L2
section
variable {X : Cx} {xc : XC} {W : WX}
theorem M_bind {α β : Type} (x : M α) (f : α → M β) : (x >>= f) = M.bnd x f := rfl

/-- one after another: the first is read, then the rest is asked where one stands -/
theorem tE_of {K : PySem.W.Frag} {σ : L2.St} {w : Wd} {env : Env'} {s : SS} {H : Hp} {Q : VK} {m : Env' → M D} {f : D → M D} (rel : Rel K w env s σ H) (h : Post K xc W σ w H Q ((m env >>= f) s)) :
    tE K xc W m σ H fun v H1 => ∃ w1 d s1, Go w H w1 H1 ∧ Rel K w1 env s1 σ H1 ∧ RepT K w1 H1 v d ∧ Post K xc W σ w1 H1 Q (f d s1) :=
  ⟨w, env, s, rel, (Post.bind h).imp fun v H1 ⟨w1, d, s1, g, t, r, p⟩ => ⟨w1, d, s1, g, rel.go g t, r, p⟩⟩
theorem tE.imp2 {K : PySem.W.Frag} {σ : L2.St} {H : Hp} {Q Q' : VK} {m : Env' → M D} (h : tE K xc W m σ H Q) (hq : ∀ v H', Q v H' → Q' v H') : tE K xc W m σ H Q' :=
  let ⟨w, env, s, rel, p⟩ := h
  ⟨w, env, s, rel, p.imp hq⟩
/-- a value at once -/
theorem Post.ret {K : PySem.W.Frag} {σ : L2.St} {w : Wd} {s : SS} {H : Hp} {Q : VK} {d : D} {v : V} (h : Post K xc W σ w H Q (.ok d s)) (t : Sto K w s H) (r : RepT K w H v d) : Q v H :=
  h v H w (Go.refl w H) t r
/-- new objects alone -/
theorem Post.new {K : PySem.W.Frag} {σ : L2.St} {w : Wd} {s : SS} {H : Hp} {Q : VK} {d : D} (h : Post K xc W σ w H Q (.ok d s)) (t : Sto K w s H) : ∀ v H', Same H H' → Rep K H' v d → Q v H' :=
  fun v H' e r => h v H' w (sgo e) (t.same e) (.of r)
theorem pd_k {e : Expr} {v : V} {d : D} (h : PE X e (tC v)) (r : ∀ H, Rep X.K H v d) : PE X e (tE X.K xc W fun _ => M.ret d) :=
  pimp h fun σ H Q ⟨w, env, s, rel, p⟩ => Post.ret p rel.st (.of (r H))
theorem rd_cases (env : Env') (i : Nat) (s : SS) : (∃ d, env[i]? = some (some d) ∧ rd env i s = .ok d s) ∨ rd env i s = .stuck := by
  cases e : env[i]? with
  | none => exact .inr (by simp only [rd, e]; rfl)
  | some o =>
    cases o with
    | none => exact .inr (by simp only [rd, e]; rfl)
    | some d => exact .inl ⟨d, rfl, by simp only [rd, e]; rfl⟩
theorem pd_v {e : Expr} {i : Nat} (h : PE X e (tVar i)) : PE X e (tE X.K xc W fun env => rd env i) :=
  pimp h fun σ H Q ⟨w, env, s, rel, p⟩ => by
    replace p : Post X.K xc W σ w H Q (rd env i s) := p
    rcases rd_cases env i s with ⟨d, e1, e2⟩ | e2
    · rw [e2] at p
      obtain ⟨v, e3, r⟩ := rel.sl i d e1
      exact ⟨v, e3, Post.ret p rel.st r⟩
    · rw [e2] at p; exact p.elim
/-- the reading of an operation on data -/
theorem op2_read {K : PySem.W.Frag} {σ : L2.St} {w : Wd} {s : SS} {H : Hp} {Q : VK} {f : D → D → Option D} {x y : D} {v u : V} (t : Sto K w s H) (r1 : RepT K w H v x) (r2 : RepT K w H u y) (p : Post K xc W σ w H Q (op2 f x y s)) :
    ∃ dx dy d, RepR K H v dx ∧ RepR K H u dy ∧ f dx dy = some d ∧ ∀ v H', Same H H' → Rep K H' v d → Q v H' := by
  unfold op2 at p
  cases e : f (vw s x) (vw s y) with
  | none => rw [e] at p; exact p.elim
  | some d => rw [e] at p; exact ⟨_, _, d, r1.rd t, r2.rd t, e, Post.new p t⟩
theorem pd_op {a b : Expr} {op : Operator} {pos : Pos} {f : D → D → Option D} {ma mb : Env' → M D} (ho : OpP X (binaryOp op) f) (ha : PE X a (tE X.K xc W ma)) (hb : PE X b (tE X.K xc W mb)) :
    PE X (.BinOp a op b pos) (tE X.K xc W fun env => ma env >>= fun x => mb env >>= fun y => op2 f x y) :=
  pimp (pe_op ho ha hb) fun σ H Q ⟨w, env, s, rel, p⟩ => by
    refine (tE_of rel p).imp2 fun v H1 ⟨w1, d, s1, g, rel1, r, p1⟩ => ?_
    refine (tE_of rel1 p1).imp2 fun u H2 ⟨w2, d2, s2, g2, rel2, r2, p2⟩ => ?_
    exact op2_read rel2.st (r.mono g2) r2 p2
theorem pd_cmp {a b : Expr} {op : CmpOp} {pos : Pos} {f : D → D → Option D} {ma mb : Env' → M D} (ho : OpP X (compareOp op) f) (hm : behindInMarks op b = false) (ha : PE X a (tE X.K xc W ma)) (hb : PE X b (tE X.K xc W mb)) :
    PE X (.Compare a [op] [b] pos) (tE X.K xc W fun env => ma env >>= fun x => mb env >>= fun y => op2 f x y) :=
  pimp (pe_cmpR ho ha hb hm) fun σ H Q ⟨w, env, s, rel, p⟩ => by
    refine (tE_of rel p).imp2 fun v H1 ⟨w1, d, s1, g, rel1, r, p1⟩ => ?_
    refine (tE_of rel1 p1).imp2 fun u H2 ⟨w2, d2, s2, g2, rel2, r2, p2⟩ => ?_
    exact op2_read rel2.st (r.mono g2) r2 p2
theorem pd_neg {a : Expr} {pos : Pos} {ma : Env' → M D} (ha : PE X a (tE X.K xc W ma)) :
    PE X (.UnaryOp .USub a pos) (tE X.K xc W fun env => ma env >>= fun x => op1 negD x) :=
  pimp (pe_un un_neg ha) fun σ H Q ⟨w, env, s, rel, p⟩ => by
    refine (tE_of rel p).imp2 fun v H1 ⟨w1, d, s1, g, rel1, r, p1⟩ => ?_
    unfold op1 at p1
    cases e : negD (vw s1 d) with
    | none => rw [e] at p1; exact p1.elim
    | some z =>
      rw [e] at p1
      have q := r.rd rel1.st
      generalize vw s1 d = y at e q
      cases y <;> simp only [negD] at e <;> try cases e
      cases q
      exact ⟨_, rfl, Post.new p1 rel1.st _ _ (Same.refl _) (.int _)⟩

/-! ### truth: what is asked is a bool -/
theorem bl_of {K : PySem.W.Frag} {w : Wd} {H : Hp} {v : V} {b : Bool} (r : RepT K w H v (.bl b)) : v = .bl b := by
  cases r; rfl
/-- a test's reading -/
abbrev tTst (K : PySem.W.Frag) (xc : XC) (W : WX) (m : Env' → M D) : TT := tB (tE K xc W m)
theorem pt_of {e : Expr} {m : Env' → M D} (h : PE X e (tE X.K xc W m)) (he : ∀ whole, isTrue e X.env whole = (do let v ← whole; standAt e.pos; holding [v] (truthy v))) : PT X e (tTst X.K xc W m) :=
  pt_val h he
/-- the answer of a test is known to be a bool: both ways -/
theorem pt_ite {K : PySem.W.Frag} {σ : L2.St} {w : Wd} {env : Env'} {s : SS} {H : Hp} {Q : VK} {m : Env' → M D} {x y : M D} (rel : Rel K w env s σ H) (h : Post K xc W σ w H Q (iteM (m env) x y s)) :
    tTst K xc W m σ H fun b H1 => ∃ w1 s1, Go w H w1 H1 ∧ Rel K w1 env s1 σ H1 ∧ Post K xc W σ w1 H1 Q (if b = true then x s1 else y s1) := by
  refine (tE_of rel h).imp2 fun v H1 ⟨w1, d, s1, g, rel1, r, p1⟩ => ?_
  cases d with
  | bl b =>
    refine ⟨b, bl_of r, w1, s1, g, rel1, ?_⟩
    cases b
    · exact p1
    · exact p1
  | _ => exact p1.elim
theorem pd_ite {t a b : Expr} {pos : Pos} {mt ma mb : Env' → M D} (ht : PT X t (tTst X.K xc W mt)) (ha : PE X a (tE X.K xc W ma)) (hb : PE X b (tE X.K xc W mb)) :
    PE X (.IfExp t a b pos) (tE X.K xc W fun env => iteM (mt env) (ma env) (mb env)) :=
  pimp (pe_ifExp ht ha hb) fun σ H Q ⟨w, env, s, rel, p⟩ => by
    refine tE.imp2 (pt_ite rel p) fun v H1 ⟨c, e, w1, s1, g, rel1, p1⟩ => ⟨c, e, ?_⟩
    cases c with
    | true => rw [if_pos rfl] at p1 ⊢; exact ⟨w1, env, s1, rel1, p1⟩
    | false => rw [if_neg Bool.false_ne_true] at p1 ⊢; exact ⟨w1, env, s1, rel1, p1⟩
theorem andM_ite (x y : M D) : andM x y = iteM x y (M.ret (.bl false)) := rfl
theorem orM_post {K : PySem.W.Frag} {σ : L2.St} {w : Wd} {H : Hp} {Q : VK} {x y : M D} {s : SS} (h : Post K xc W σ w H Q (orM x y s)) : Post K xc W σ w H Q (iteM x (M.ret (.bl true)) y s) := by
  have e : orM x y s = iteM x (M.ret (.bl true)) y s := by
    unfold orM iteM
    rw [M_bind, M_bind]
    unfold M.bnd
    cases x s with
    | ok d s' =>
      cases d with
      | bl b => cases b <;> rfl
      | _ => rfl
    | exc _ _ _ => rfl
    | stuck => rfl
  rw [← e]; exact h
theorem pd_and {a b : Expr} {rest : List Expr} {pos : Pos} {ma mb : Env' → M D} (ha : PE X a (tE X.K xc W ma)) (hb : PE X (.BoolOp .And (b :: rest) pos) (tE X.K xc W mb)) :
    PE X (.BoolOp .And (a :: b :: rest) pos) (tE X.K xc W fun env => andM (ma env) (mb env)) :=
  pimp (pe_and ha hb) fun σ H Q ⟨w, env, s, rel, p⟩ => by
    refine tE.imp2 (pt_ite rel p) fun v H1 ⟨c, e, w1, s1, g, rel1, p1⟩ => ⟨c, e, ?_⟩
    cases c with
    | true => rw [if_pos rfl] at p1 ⊢; exact ⟨w1, env, s1, rel1, p1⟩
    | false => rw [if_neg Bool.false_ne_true] at p1 ⊢; exact Post.ret p1 rel1.st (.of (.bl false))
theorem pd_or {a b : Expr} {rest : List Expr} {pos : Pos} {ma mb : Env' → M D} (ha : PE X a (tE X.K xc W ma)) (hb : PE X (.BoolOp .Or (b :: rest) pos) (tE X.K xc W mb)) :
    PE X (.BoolOp .Or (a :: b :: rest) pos) (tE X.K xc W fun env => orM (ma env) (mb env)) :=
  pimp (pe_or ha hb) fun σ H Q ⟨w, env, s, rel, p⟩ => by
    refine tE.imp2 (pt_ite rel (orM_post p)) fun v H1 ⟨c, e, w1, s1, g, rel1, p1⟩ => ⟨c, e, ?_⟩
    cases c with
    | true => rw [if_pos rfl] at p1 ⊢; exact Post.ret p1 rel1.st (.of (.bl true))
    | false => rw [if_neg Bool.false_ne_true] at p1 ⊢; exact ⟨w1, env, s1, rel1, p1⟩
theorem notM_post {K : PySem.W.Frag} {σ : L2.St} {w : Wd} {H : Hp} {Q : VK} {x : M D} {s : SS} (h : Post K xc W σ w H Q (notM x s)) : Post K xc W σ w H Q (iteM x (M.ret (.bl false)) (M.ret (.bl true)) s) := by
  have e : notM x s = iteM x (M.ret (.bl false)) (M.ret (.bl true)) s := by
    unfold notM iteM
    rw [M_bind, M_bind]
    unfold M.bnd
    cases x s with
    | ok d s' =>
      cases d with
      | bl b => cases b <;> rfl
      | _ => rfl
    | exc _ _ _ => rfl
    | stuck => rfl
  rw [← e]; exact h
theorem pd_not {a : Expr} {pos : Pos} {ma : Env' → M D} (ha : PE X a (tE X.K xc W ma)) : PE X (.UnaryOp .Not a pos) (tE X.K xc W fun env => notM (ma env)) :=
  pimp (pe_not ha) fun σ H Q ⟨w, env, s, rel, p⟩ => by
    refine tE.imp2 (pt_ite rel (notM_post p)) fun v H1 ⟨c, e, w1, s1, g, rel1, p1⟩ => ⟨c, e, ?_⟩
    cases c with
    | true => rw [if_pos rfl] at p1; exact Post.ret p1 rel1.st (.of (.bl false))
    | false => rw [if_neg Bool.false_ne_true] at p1; exact Post.ret p1 rel1.st (.of (.bl true))
/-! .. as tests -/
theorem ptimp {e : Expr} {t t' : TT} (h : PT X e t) (hi : ∀ σ H Q, t' σ H Q → t σ H Q) : PT X e t' :=
  ⟨fun pins s σ H Q I q => h.run pins s σ H Q I (hi σ H Q q)⟩
theorem pwimp {e : Expr} {t t' : TT} (h : PW X e t) (hi : ∀ σ H Q, t' σ H Q → t σ H Q) : PW X e t' :=
  ⟨fun wh pins s σ H Q I q => h.run wh pins s σ H Q I (hi σ H Q q)⟩
theorem pdt_and {a b : Expr} {rest : List Expr} {pos : Pos} {ma mb : Env' → M D} (ha : PT X a (tTst X.K xc W ma)) (hb : PW X (.BoolOp .And (b :: rest) pos) (tTst X.K xc W mb)) :
    PW X (.BoolOp .And (a :: b :: rest) pos) (tTst X.K xc W fun env => andM (ma env) (mb env)) :=
  pwimp (pw_and ha hb) fun σ H Q ⟨w, env, s, rel, p⟩ => by
    refine tE.imp2 (pt_ite rel p) fun v H1 ⟨c, e, w1, s1, g, rel1, p1⟩ => ⟨c, e, ?_⟩
    cases c with
    | true => rw [if_pos rfl] at p1 ⊢; exact ⟨w1, env, s1, rel1, p1⟩
    | false =>
      rw [if_neg Bool.false_ne_true] at p1 ⊢
      obtain ⟨c', e', q⟩ := Post.ret p1 rel1.st (.of (.bl false))
      cases e'; exact q
theorem pdt_or {a b : Expr} {rest : List Expr} {pos : Pos} {ma mb : Env' → M D} (ha : PT X a (tTst X.K xc W ma)) (hb : PW X (.BoolOp .Or (b :: rest) pos) (tTst X.K xc W mb)) :
    PW X (.BoolOp .Or (a :: b :: rest) pos) (tTst X.K xc W fun env => orM (ma env) (mb env)) :=
  pwimp (pw_or ha hb) fun σ H Q ⟨w, env, s, rel, p⟩ => by
    refine tE.imp2 (pt_ite rel (orM_post p)) fun v H1 ⟨c, e, w1, s1, g, rel1, p1⟩ => ⟨c, e, ?_⟩
    cases c with
    | true =>
      rw [if_pos rfl] at p1 ⊢
      obtain ⟨c', e', q⟩ := Post.ret p1 rel1.st (.of (.bl true))
      cases e'; exact q
    | false => rw [if_neg Bool.false_ne_true] at p1 ⊢; exact ⟨w1, env, s1, rel1, p1⟩
theorem pdt_not {a : Expr} {pos : Pos} {ma : Env' → M D} (ha : PT X a (tTst X.K xc W ma)) : PT X (.UnaryOp .Not a pos) (tTst X.K xc W fun env => notM (ma env)) :=
  ptimp (pt_not ha) fun σ H Q ⟨w, env, s, rel, p⟩ => by
    refine tE.imp2 (pt_ite rel (notM_post p)) fun v H1 ⟨c, e, w1, s1, g, rel1, p1⟩ => ⟨c, e, ?_⟩
    cases c with
    | true =>
      rw [if_pos rfl] at p1
      obtain ⟨c', e', q⟩ := Post.ret p1 rel1.st (.of (.bl false))
      cases e'; exact q
    | false =>
      rw [if_neg Bool.false_ne_true] at p1
      obtain ⟨c', e', q⟩ := Post.ret p1 rel1.st (.of (.bl true))
      cases e'; exact q
theorem pdt_cmp {a b : Expr} {op : CmpOp} {pos : Pos} {f : D → D → Option D} {ma mb : Env' → M D} (ho : OpP X (compareOp op) f) (hm : behindInMarks op b = false) (ha : PE X a (tE X.K xc W ma)) (hb : PE X b (tE X.K xc W mb)) :
    PT X (.Compare a [op] [b] pos) (tTst X.K xc W fun env => ma env >>= fun x => mb env >>= fun y => op2 f x y) :=
  ptimp (pt_cmpR ho ha hb hm) fun σ H Q ⟨w, env, s, rel, p⟩ => by
    refine (tE_of rel p).imp2 fun v H1 ⟨w1, d, s1, g, rel1, r, p1⟩ => ?_
    refine (tE_of rel1 p1).imp2 fun u H2 ⟨w2, d2, s2, g2, rel2, r2, p2⟩ => ?_
    exact op2_read rel2.st (r.mono g2) r2 p2
theorem chain_read {K : PySem.W.Frag} {σ : L2.St} {H : Hp} {Q : VK} {o o' : COp} {ma mb mc : Env' → M D} (h : tE K xc W (fun env => chainM o o' (ma env) (mb env) (mc env)) σ H Q) :
    tChain (fun x y H Q => ∃ dx dy d, RepR K H x dx ∧ RepR K H y dy ∧ cmpD o dx dy = some d ∧ ∀ v H', Same H H' → Rep K H' v d → Q v H')
      (fun x y H Q => ∃ dx dy d, RepR K H x dx ∧ RepR K H y dy ∧ cmpD o' dx dy = some d ∧ ∀ v H', Same H H' → Rep K H' v d → Q v H') (tE K xc W ma) (tE K xc W mb) (tE K xc W mc) σ H Q := by
  obtain ⟨w, env, s, rel, p⟩ := h
  refine (tE_of rel p).imp2 fun v H1 ⟨w1, d, s1, g, rel1, r, p1⟩ => ?_
  refine (tE_of rel1 p1).imp2 fun u H2 ⟨w2, d2, s2, g2, rel2, r2, p2⟩ => ?_
  replace p2 := Post.bind p2
  obtain ⟨dx, dy, z, q1, q2, e, k⟩ := op2_read rel2.st (r.mono g2) r2 p2
  refine ⟨dx, dy, z, q1, q2, e, fun v' H' sm rz => ?_⟩
  obtain ⟨w3, d3, s3, g3, t3, r3, p3⟩ := k v' H' sm rz
  cases d3 with
  | bl b =>
    refine ⟨b, bl_of r3, ?_⟩
    cases b with
    | true =>
      rw [if_pos rfl]
      refine (tE_of (rel2.go g3 t3) p3).imp2 fun x4 H4 ⟨w4, d4, s4, g4, rel4, r4, p4⟩ => ?_
      exact op2_read rel4.st ((r2.mono g3).mono g4) r4 p4
    | false =>
      rw [if_neg Bool.false_ne_true]
      exact Post.ret p3 t3 (.of (.bl false))
  | _ => exact p3.elim
theorem pd_chain {a b c : Expr} {o o' : COp} {pos : Pos} {ma mb mc : Env' → M D} (hu : X.A.units + 65 < cLine) (hm : behindInMarks (copOf o') c = false)
    (ha : PE X a (tE X.K xc W ma)) (hb : PE X b (tE X.K xc W mb)) (hc : PE X c (tE X.K xc W mc)) :
    PE X (.Compare a [copOf o, copOf o'] [b, c] pos) (tE X.K xc W fun env => chainM o o' (ma env) (mb env) (mc env)) :=
  pimp (pe_chain (cmp_ok hu o) (cmp_ok hu o') ha hb hc hm) fun σ H Q h => chain_read h
theorem pdt_chain {a b c : Expr} {o o' : COp} {pos : Pos} {ma mb mc : Env' → M D} (hu : X.A.units + 65 < cLine) (hm : behindInMarks (copOf o') c = false)
    (ha : PE X a (tE X.K xc W ma)) (hb : PE X b (tE X.K xc W mb)) (hc : PE X c (tE X.K xc W mc)) :
    PT X (.Compare a [copOf o, copOf o'] [b, c] pos) (tTst X.K xc W fun env => chainM o o' (ma env) (mb env) (mc env)) :=
  ptimp (pt_chain (cmp_ok hu o) (cmp_ok hu o') ha hb hc hm) fun σ H Q h => chain_read h
end
end PI

set_option maxHeartbeats 1000000
/-! PI, part f: freezing; argument lists; displays. -/
namespace PI
open PySem L2
section
variable {X : Cx} {xc : XC} {W : WX}
/-- as it is, or as it is frozen -/
def FrO (Q : VK) : VK := fun v H => Q v H ∨ ∃ a xs, v = .ref a ∧ H a = some (.lst xs) ∧ ∀ o, Q v (upd H a (.frz o (.lst xs)))
theorem efro {pins : List (Addr × Obj)} {σ : L2.St} {Q : VK} {u : Value} {s : Shared} (h : EP X pins σ (FrO Q) u s) : EP X pins σ Q u s := by
  obtain ⟨v, H, I, r, q | ⟨a, xs, e, hH, q⟩⟩ := h
  · exact ⟨v, H, I, r, q⟩
  · obtain ⟨o, I'⟩ := I.lock hH trivial
    exact ⟨v, _, I', r, q o⟩
theorem pfro {e : Expr} {t : TE} (h : PE X e t) : PE X e (fun σ H Q => t σ H (FrO Q)) :=
  ⟨fun pins s σ H Q I q => thn (h.run pins s σ H _ I q) fun _ _ z => efro z⟩
theorem mem_ws {w : Wd} {i : Nat} {a : Addr} (h : w.ρ[i]? = some a) : a ∈ w.ws := List.mem_append_right _ (List.mem_of_getElem? h)
theorem nd_ρ {w : Wd} (h : w.ws.Nodup) : w.ρ.Nodup := (List.nodup_append.mp h).2.1
theorem ρ_inj {w : Wd} (h : w.ws.Nodup) {i j : Nat} {a : Addr} (h1 : w.ρ[i]? = some a) (h2 : w.ρ[j]? = some a) : i = j := by
  obtain ⟨p1, q1⟩ := List.getElem?_eq_some_iff.mp h1
  obtain ⟨p2, q2⟩ := List.getElem?_eq_some_iff.mp h2
  exact (List.getElem_inj (nd_ρ h)).mp (q1.trans q2.symm)
theorem m_ne {w : Wd} (h : w.ws.Nodup) {a l b : Addr} {i : Nat} (hm : w.m = some (a, l)) (h1 : w.ρ[i]? = some b) : a ≠ b ∧ l ≠ b ∧ a ≠ l := by
  unfold Wd.ws at h
  rw [hm] at h
  obtain ⟨h2, h3, h4⟩ := List.nodup_append.mp h
  have hb := List.mem_of_getElem? h1
  refine ⟨h4 a (by simp) b hb, h4 l (by simp) b hb, ?_⟩
  simp at h2; exact h2
/-- a cell's content is exchanged: the heap at its address alone changes -/
theorem sto_set {K : PySem.W.Frag} {w : Wd} {s : SS} {H : Hp} {i : Nat} {a : Addr} {o : HO} {c : Bool × OC} (t : Sto K w s H) (ha : w.ρ[i]? = some a) (nf : ∀ u, H a = some u → ¬ Fz u) (hc : CellAt K (upd H a o) a c) :
    Go w H w (upd H a o) ∧ Sto K w { s with cs := s.cs.set i c } (upd H a o) := by
  have g : Go w H w (upd H a o) := by
    refine ⟨fun b u e f => ?_, fun _ h => .inl h, ⟨[], by simp⟩, fun _ => rfl⟩
    have ne : b ≠ a := by
      rintro rfl
      rcases f with f | f
      · exact f (mem_ws ha)
      · exact nf u e f
    rw [upd_ne ne]; exact e
  refine ⟨g, ?_, by rw [List.length_set]; exact t.len, fun j b c' h1 h2 => ?_, t.nd⟩
  · have hm := t.m
    cases em : w.m with
    | none => rw [em] at hm; cases es : s.m with
      | none => trivial
      | some _ => rw [es] at hm; exact hm.elim
    | some p =>
      obtain ⟨am, al⟩ := p
      rw [em] at hm
      cases es : s.m with
      | none => rw [es] at hm; exact hm.elim
      | some m =>
        rw [es] at hm
        obtain ⟨cc, h1, h2, h3, h4⟩ := hm
        obtain ⟨n1, n2, _⟩ := m_ne t.nd em ha
        exact ⟨cc, by rw [upd_ne n1]; exact h1, h2.mono g.ext, by rw [upd_ne n2]; exact h3, h4⟩
  · by_cases hj : j = i
    · subst hj
      rw [ha] at h1
      cases h1
      have hlt : j < s.cs.length := by rw [← t.len]; exact (List.getElem?_eq_some_iff.mp ha).1
      rw [List.getElem?_set_self hlt] at h2
      cases h2
      exact hc
    · rw [List.getElem?_set_ne (Ne.symm hj)] at h2
      have ne : b ≠ a := fun z => hj (ρ_inj t.nd h1 (z ▸ ha))
      have hb := t.cs j b c' h1 h2
      obtain ⟨fz, oc⟩ := c'
      cases oc with
      | lst xs =>
        cases fz with
        | false => obtain ⟨vs, q1, q2⟩ := hb; exact ⟨vs, by rw [upd_ne ne]; exact q1, q2.mono g.ext⟩
        | true => obtain ⟨vs, o', q1, q2⟩ := hb; exact ⟨vs, o', by rw [upd_ne ne]; exact q1, q2.mono g.ext⟩
      | dct _ _ => cases fz <;> exact hb.elim
      | ins _ _ _ => cases fz <;> exact hb.elim
theorem RepT.pure {K : PySem.W.Frag} {w : Wd} {H : Hp} {v : V} {d : D} (p : pureB d = true) (r : RepT K w H v d) : Rep K H v d := by
  cases d <;> first | exact Bool.noConfusion p | exact r
/-- what freezing does -/
theorem frz_read {α : Type} {K : PySem.W.Frag} {w : Wd} {s : SS} {H : Hp} {v : V} {d : D} {f : D → M α} {PQ : Wd → Hp → R α → Prop} (mono : ∀ {w H w1 H1 r}, Go w H w1 H1 → PQ w H r → PQ w1 H1 r) (stk : ∀ w H, PQ w H .stuck → False)
    (t : Sto K w s H) (r : RepT K w H v d) (p : PQ w H ((frz d >>= f) s)) :
    FrO (fun v H1 => ∃ w1 d1 s1, Go w H w1 H1 ∧ Sto K w1 s1 H1 ∧ RepT K w1 H1 v d1 ∧ PQ w1 H1 (f d1 s1)) v H := by
  rw [M_bind] at p
  unfold M.bnd at p
  cases d with
  | own i =>
    obtain ⟨a, ha, rfl⟩ := r
    cases q : s.cs[i]? with
    | none => simp only [frz, q] at p; exact (stk _ _ p).elim
    | some c =>
      obtain ⟨fz, oc⟩ := c
      cases oc with
      | lst xs =>
        simp only [frz, q] at p
        have hc := t.cs i a _ ha q
        cases fz with
        | true =>
          obtain ⟨vs, o, h1, h2⟩ := hc
          have es : s.cs.set i (true, OC.lst xs) = s.cs := by
            obtain ⟨hi, e⟩ := List.getElem?_eq_some_iff.mp q
            rw [← e]; exact List.set_getElem_self hi
          rw [es] at p
          exact .inl ⟨w, .lst xs, s, Go.refl w H, t, Rep.lst ⟨o, h1⟩ h2, p⟩
        | false =>
          obtain ⟨vs, h1, h2⟩ := hc
          refine .inr ⟨a, vs, rfl, h1, fun o => ?_⟩
          have nf : ∀ u, H a = some u → ¬ Fz u := fun u e f => by rw [h1] at e; cases e; exact f
          have gx : Ext H (upd H a (.frz o (.lst vs))) := ⟨fun b u e f => by
            have ne : b ≠ a := by rintro rfl; exact nf u e f
            rw [upd_ne ne]; exact e⟩
          obtain ⟨g, t'⟩ := sto_set (o := .frz o (.lst vs)) (c := (true, .lst xs)) t ha nf ⟨vs, o, upd_same, h2.mono gx⟩
          exact ⟨w, .lst xs, _, g, t', Rep.lst ⟨o, upd_same⟩ (h2.mono gx), mono g p⟩
      | dct _ _ => simp only [frz, q] at p; exact (stk _ _ p).elim
      | ins _ _ _ => simp only [frz, q] at p; exact (stk _ _ p).elim
  | drw => exact .inl ⟨w, _, s, Go.refl w H, t, r, p⟩
  | non => exact .inl ⟨w, _, s, Go.refl w H, t, r, p⟩
  | bl _ => exact .inl ⟨w, _, s, Go.refl w H, t, r, p⟩
  | int _ => exact .inl ⟨w, _, s, Go.refl w H, t, r, p⟩
  | str _ => exact .inl ⟨w, _, s, Go.refl w H, t, r, p⟩
  | tup _ => exact .inl ⟨w, _, s, Go.refl w H, t, r, p⟩
  | lst _ => exact .inl ⟨w, _, s, Go.refl w H, t, r, p⟩
  | dct _ _ => exact .inl ⟨w, _, s, Go.refl w H, t, r, p⟩
  | obj _ _ _ => exact .inl ⟨w, _, s, Go.refl w H, t, r, p⟩

/-! ### argument lists -/
inductive RepTs (K : PySem.W.Frag) (w : Wd) (H : Hp) : List V → List D → Prop
  | nil : RepTs K w H [] []
  | cons {v : V} {vs : List V} {d : D} {ds : List D} : RepT K w H v d → RepTs K w H vs ds → RepTs K w H (v :: vs) (d :: ds)
theorem RepTs.mono {K : PySem.W.Frag} {w w' : Wd} {H H' : Hp} (g : Go w H w' H') : ∀ {vs : List V} {ds : List D}, RepTs K w H vs ds → RepTs K w' H' vs ds
  | _, _, .nil => .nil
  | _, _, .cons h r => .cons (h.mono g) (RepTs.mono g r)
theorem RepTs.length {K : PySem.W.Frag} {w : Wd} {H : Hp} : ∀ {vs : List V} {ds : List D}, RepTs K w H vs ds → vs.length = ds.length
  | _, _, .nil => rfl
  | _, _, .cons _ r => by simp [RepTs.length r]
theorem RepTs.append {K : PySem.W.Frag} {w : Wd} {H : Hp} : ∀ {vs us : List V} {ds es : List D}, RepTs K w H vs ds → RepTs K w H us es → RepTs K w H (vs ++ us) (ds ++ es)
  | _, _, _, _, .nil, s => s
  | _, _, _, _, .cons h r, s => .cons h (RepTs.append r s)
theorem Reps.ts {K : PySem.W.Frag} {w : Wd} {H : Hp} : ∀ {vs : List V} {ds : List D}, Reps K H vs ds → RepTs K w H vs ds
  | _, _, .nil => .nil
  | _, _, .cons h r => .cons (.of h) (Reps.ts r)
theorem RepTs.pure {K : PySem.W.Frag} {w : Wd} {H : Hp} : ∀ {vs : List V} {ds : List D}, ds.all pureB = true → RepTs K w H vs ds → Reps K H vs ds
  | _, _, _, .nil => .nil
  | _, _, p, .cons h r => by
    rw [List.all_cons, Bool.and_eq_true] at p
    exact .cons (h.pure p.1) (RepTs.pure p.2 r)
def PostA (K : PySem.W.Frag) (xc : XC) (W : WX) (σ : L2.St) (w : Wd) (H : Hp) (Q : List V → Hp → Prop) : R (List D) → Prop
  | .ok ds s' => ∀ vs H' w', Go w H w' H' → Sto K w' s' H' → RepTs K w' H' vs ds → Q vs H'
  | .exc c f s' => ∀ x v H' w', Go w H w' H' → Sto K w' s' H' → H' x = some (.xd [(xc.fld c, v)]) → Rep K H' v f → W (.ref (xc.cls c)) (some x) σ H'
  | .stuck => False
def tA (K : PySem.W.Frag) (xc : XC) (W : WX) (m : Env' → M (List D)) : TA := fun σ H Q => ∃ w env s, Rel K w env s σ H ∧ PostA K xc W σ w H Q (m env s)
theorem PostA.mono {K : PySem.W.Frag} {σ : L2.St} {w w1 : Wd} {H H1 : Hp} {Q : List V → Hp → Prop} (g : Go w H w1 H1) : ∀ {r : R (List D)}, PostA K xc W σ w H Q r → PostA K xc W σ w1 H1 Q r
  | .ok d s', h => fun v H' w' g' t r => h v H' w' (g.trans g') t r
  | .exc c f s', h => fun x v H' w' g' t e r => h x v H' w' (g.trans g') t e r
  | .stuck, h => h
/-- from a value to a list -/
theorem PostA.bind {K : PySem.W.Frag} {σ : L2.St} {w : Wd} {H : Hp} {Q : List V → Hp → Prop} {x : M D} {f : D → M (List D)} {s : SS} (h : PostA K xc W σ w H Q ((x >>= f) s)) :
    Post K xc W σ w H (fun v H1 => ∃ w1 d s1, Go w H w1 H1 ∧ Sto K w1 s1 H1 ∧ RepT K w1 H1 v d ∧ PostA K xc W σ w1 H1 Q (f d s1)) (x s) := by
  rw [M_bind] at h
  unfold M.bnd at h
  cases q : x s with
  | ok d s' =>
    rw [q] at h
    intro v H' w' g t r
    exact ⟨w', d, s', g, t, r, h.mono g⟩
  | exc c f' s' => rw [q] at h; exact h
  | stuck => rw [q] at h; exact h
/-- from a list to a value -/
theorem Post.bindA {K : PySem.W.Frag} {σ : L2.St} {w : Wd} {H : Hp} {Q : VK} {x : M (List D)} {f : List D → M D} {s : SS} (h : Post K xc W σ w H Q ((x >>= f) s)) :
    PostA K xc W σ w H (fun vs H1 => ∃ w1 ds s1, Go w H w1 H1 ∧ Sto K w1 s1 H1 ∧ RepTs K w1 H1 vs ds ∧ Post K xc W σ w1 H1 Q (f ds s1)) (x s) := by
  rw [M_bind] at h
  unfold M.bnd at h
  cases q : x s with
  | ok d s' =>
    rw [q] at h
    intro v H' w' g t r
    exact ⟨w', d, s', g, t, r, h.mono g⟩
  | exc c f' s' => rw [q] at h; exact h
  | stuck => rw [q] at h; exact h
theorem PostA.bindA {K : PySem.W.Frag} {σ : L2.St} {w : Wd} {H : Hp} {Q : List V → Hp → Prop} {x : M (List D)} {f : List D → M (List D)} {s : SS} (h : PostA K xc W σ w H Q ((x >>= f) s)) :
    PostA K xc W σ w H (fun vs H1 => ∃ w1 ds s1, Go w H w1 H1 ∧ Sto K w1 s1 H1 ∧ RepTs K w1 H1 vs ds ∧ PostA K xc W σ w1 H1 Q (f ds s1)) (x s) := by
  rw [M_bind] at h
  unfold M.bnd at h
  cases q : x s with
  | ok d s' =>
    rw [q] at h
    intro v H' w' g t r
    exact ⟨w', d, s', g, t, r, h.mono g⟩
  | exc c f' s' => rw [q] at h; exact h
  | stuck => rw [q] at h; exact h
theorem PostA.imp {K : PySem.W.Frag} {σ : L2.St} {w : Wd} {H : Hp} {Q Q' : List V → Hp → Prop} (hq : ∀ v H', Q v H' → Q' v H') : ∀ {r : R (List D)}, PostA K xc W σ w H Q r → PostA K xc W σ w H Q' r
  | .ok d s', h => fun v H' w' g' t r => hq _ _ (h v H' w' g' t r)
  | .exc c f s', h => h
  | .stuck, h => h
theorem paimp {es : List Expr} {t t' : TA} (h : PA X es t) (hi : ∀ σ H Q, t' σ H Q → t σ H Q) : PA X es t' :=
  ⟨fun pos pins s σ H Q I q => h.run pos pins s σ H Q I (hi σ H Q q)⟩
theorem pda_nil : PA X [] (tA X.K xc W fun _ => M.ret []) :=
  paimp pa_nil fun σ H Q ⟨w, env, s, rel, p⟩ => p [] H w (Go.refl w H) rel.st .nil
theorem pda_cons {e : Expr} {es : List Expr} {m : Env' → M D} {ms : Env' → M (List D)} (he : PE X e (tE X.K xc W m)) (hes : PA X es (tA X.K xc W ms))
    (hs : starEach (e :: es) X.env = (false, eval e X.env) :: starEach es X.env) : PA X (e :: es) (tA X.K xc W fun env => consM (m env) (ms env)) :=
  paimp (pa_cons (pfro he) hes hs) fun σ H Q ⟨w, env, s, rel, p⟩ => by
    refine ⟨w, env, s, rel, (PostA.bind p).imp fun v H1 ⟨w1, d, s1, g, t, r, p1⟩ => ?_⟩
    have q := frz_read (K := X.K) (PQ := fun w H r => PostA X.K xc W σ w H Q r) (fun g h => h.mono g) (fun _ _ h => h) t r p1
    have fin : ∀ H2 : Hp, Ext H1 H2 → (∃ w2 d2 s2, Go w1 H1 w2 H2 ∧ Sto X.K w2 s2 H2 ∧ RepT X.K w2 H2 v d2 ∧ PostA X.K xc W σ w2 H2 Q ((ms env >>= fun r => M.ret (d2 :: r)) s2)) →
        tA X.K xc W ms σ H2 fun xs H3 => Q (v :: xs) H3 := fun H2 _ ⟨w2, d2, s2, g2, t2, r2, p2⟩ => by
      refine ⟨w2, env, s2, (rel.go g t).go g2 t2, (PostA.bindA p2).imp fun vs H3 ⟨w3, ds, s3, g3, t3, r3, p3⟩ => ?_⟩
      exact p3 _ H3 w3 (Go.refl _ _) t3 (.cons (r2.mono g3) r3)
    rcases q with q | ⟨a, xs, e1, e2, q⟩
    · exact .inl (fin H1 (Ext.refl _) q)
    · refine .inr ⟨a, xs, e1, e2, fun o => ?_⟩
      obtain ⟨w2, d2, s2, g2, rest⟩ := q o
      exact fin _ g2.ext ⟨w2, d2, s2, g2, rest⟩
/-- the items of a list or tuple that is read -/
theorem seq_read {K : PySem.W.Frag} {H : Hp} {v : V} {d : D} {ds : List D} (r : RepR K H v d) (e : seqD d = some ds) : ∃ a vs, v = .ref a ∧ (FzT K H a vs ∨ Rd H a (.lst vs)) ∧ Reps K H vs ds := by
  cases d <;> simp only [seqD] at e <;> try cases e
  · cases r with
    | tup h rs => exact ⟨_, _, rfl, .inl h, rs⟩
  · obtain ⟨a, vs, rfl, h, rs⟩ := r
    exact ⟨a, vs, rfl, .inr h, rs⟩
/-- the items that *e hands on -/
theorem star_lst {pins : List (Addr × Obj)} {σ : L2.St} {H : Hp} {s : Shared} {a : Addr} {xs : List V} {E : Value → Shared → Prop} {Q : List Value → Shared → Prop} (I : Inv X pins σ H s) (h : Rd H a (.lst xs)) (hQ : ∀ us s', Inv X pins σ H s' → Vals xs us → Q us s') :
    PySem.W.StarOf (model X.prog X.w) X.A E (.ref a) Q s := by
  obtain ⟨z, its, n, r, ho⟩ := rd_list I h
  have hT : s.TypeIs (.ref a) "list" := ⟨_, ho, rfl⟩
  have hl := r.length
  have y : wpAny (model X.prog X.w) X.A (collect (.ref a)) Q E s := by
    refine wpAny_collect_seq a (.inl rfl) ho rfl rfl (fun h' hk => ?_) (by rw [List.size_toArray]; omega)
    have e : its.toArray.toList = its := by simp
    rw [e]
    exact hQ its _ (I.kept (t' := s.toks) hk) r
  unfold PySem.W.StarOf notIterableAtAll
  exact wpAny_bind (wpAny_specialOf hT PySem.F.slot_list_iter.lookup (wpAny_pure ⟨rfl, y⟩))
theorem pda_star {e : Expr} {ps : Pos} {es : List Expr} {m : Env' → M D} {ms : Env' → M (List D)} (he : PE X e (tE X.K xc W m)) (hes : PA X es (tA X.K xc W ms)) :
    PA X (.Starred e ps :: es) (tA X.K xc W fun env => starM (m env) (ms env)) := by
  refine ⟨fun pos pins s σ H Q I ⟨w, env, ss, rel, p⟩ => ?_⟩
  show wpAny _ _ (spliced ((true, (do let v ← eval e X.env; standAt pos; pure v)) :: backTo pos (starEach es X.env))) _ _ s
  refine PySem.W.ks_spliced (thn (he.run pins s σ H _ I ⟨w, env, ss, rel, PostA.bind p⟩) fun u s1 ⟨v, H1, I1, ru, w1, d, s2, g, t, r, p1⟩ => ?_)
  cases q : seqD (vw s2 d) with
  | none => simp only [q] at p1; exact p1.elim
  | some l =>
    simp only [q] at p1
    obtain ⟨a, vs, rfl, hs, rs⟩ := seq_read (r.rd t) q
    cases ru
    have go : ∀ us s', Inv X pins σ H1 s' → Vals vs us → wpAny (model X.prog X.w) X.A (spliced (backTo pos (starEach es X.env))) (fun zs s3 => AP X pins σ Q (us ++ zs) s3) X.xe s' := fun us s' I' ru => by
      refine thn (hes.run pos pins s' σ H1 _ I' ⟨w1, env, s2, rel.go g t, PostA.bindA p1⟩) fun zs s3 ⟨ws, H2, I2, rz, w2, ds, s4, g2, t2, r2, p2⟩ => ?_
      exact ⟨vs ++ ws, H2, I2, ru.append rz, p2 _ H2 w2 (Go.refl _ _) t2 ((rs.mono g2.ext).ts.append r2)⟩
    rcases hs with hs | hs
    · exact star_tup I1 hs.sq fun us s' I' ru => go us s' I' ru
    · exact star_lst I1 hs fun us s' I' ru => go us s' I' ru
theorem disp_cases {α : Type} {ds : List D} {a : M α} {b : M α} {s : SS} : (ds.all pureB = true ∧ ds.length ≤ LIM ∧ (if (ds.all pureB && decide (ds.length ≤ LIM)) = true then a else b) s = a s) ∨ (if (ds.all pureB && decide (ds.length ≤ LIM)) = true then a else b) s = b s := by
  by_cases h : (ds.all pureB && decide (ds.length ≤ LIM)) = true
  · rw [if_pos h]
    rw [Bool.and_eq_true, decide_eq_true_eq] at h
    exact .inl ⟨h.1, h.2, rfl⟩
  · rw [if_neg h]; exact .inr rfl
theorem pd_tup {es : List Expr} {k : Nat} {pos : Pos} {ms : Env' → M (List D)} (h : PA X es (tA X.K xc W ms)) : PE X (.Tuple es k pos) (tE X.K xc W fun env => tupM (ms env)) :=
  pimp (pe_tup h) fun σ H Q ⟨w, env, s, rel, p⟩ => by
    refine ⟨w, env, s, rel, (Post.bindA p).imp fun vs H1 ⟨w1, ds, s1, g, t, r, p1⟩ => ?_⟩
    rcases disp_cases (ds := ds) (a := M.ret (D.tup ds)) (b := M.stk) (s := s1) with ⟨h1, h2, e⟩ | e
    · rw [e] at p1
      exact ⟨by rw [r.length]; exact lim_line h2, fun q hq => tup_new hq (r.pure h1) (Post.new p1 t)⟩
    · rw [e] at p1; exact p1.elim
theorem pd_lst {es : List Expr} {pos : Pos} {ms : Env' → M (List D)} (h : PA X es (tA X.K xc W ms)) : PE X (.List es pos) (tE X.K xc W fun env => lstM (ms env)) :=
  pimp (pfrz (pe_lst h)) fun σ H Q ⟨w, env, s, rel, p⟩ => by
    refine ⟨w, env, s, rel, (Post.bindA p).imp fun vs H1 ⟨w1, ds, s1, g, t, r, p1⟩ => ?_⟩
    rcases disp_cases (ds := ds) (a := M.ret (D.lst ds)) (b := M.stk) (s := s1) with ⟨h1, h2, e⟩ | e
    · rw [e] at p1
      exact ⟨by rw [r.length]; exact lim_line h2, fun q hq => fr_new hq (r.pure h1) (Post.new p1 t)⟩
    · rw [e] at p1; exact p1.elim
end
end PI

set_option maxHeartbeats 1000000
/-! PI, part g: items, slices. -/
namespace PI
open PySem L2
section
variable {X : Cx} {xc : XC} {W : WX}
theorem atI_reps {K : PySem.W.Frag} {H : Hp} {vs : List V} {ds : List D} {i : Int} {d : D} (r : Reps K H vs ds) (e : atI ds i = some d) : ∃ v, atI vs i = some v ∧ Rep K H v d := by
  unfold atI at e ⊢
  rw [r.length]
  cases q : ixN ds.length i with
  | none => rw [q] at e; cases e
  | some j =>
    rw [q] at e
    obtain ⟨v, h1, h2⟩ := r.get (show ds[j]? = some d from e)
    exact ⟨v, h1, h2⟩
/-- o[i] by data -/
theorem ix_ok : IxR X fun x y H Q => ∃ dx dy d, RepR X.K H x dx ∧ RepR X.K H y dy ∧ ixD dx dy = some d ∧ ∀ v H', Same H H' → Rep X.K H' v d → Q v H' := by
  intro value slice pins s σ H x y v u Q I rx ry h hs
  obtain ⟨dx, dy, d, hx, hy, e, q⟩ := h
  unfold ixD at e
  split at e
  · rename_i xs i
    cases hx with
    | tup h1 r1 =>
    cases hy
    obtain ⟨z, e1, r2⟩ := atI_reps r1 e
    exact ix_tup value slice pins s σ H _ _ v u Q I rx ry ⟨_, _, i, z, rfl, rfl, h1.sq, e1, q _ _ (Same.refl H) r2⟩ hs
  · rename_i xs i
    obtain ⟨a, vs, rfl, h1, r1⟩ := hx
    cases hy
    obtain ⟨z, e1, r2⟩ := atI_reps r1 e
    exact ix_list value slice pins s σ H _ _ v u Q I rx ry ⟨_, _, i, z, rfl, rfl, .inl h1, e1, q _ _ (Same.refl H) r2⟩ hs
  · rename_i z i
    split at e
    · rename_i hl
      cases hx; cases hy
      cases e1 : atI z.cps.toList i with
      | none => rw [e1] at e; cases e
      | some c =>
        rw [e1] at e; cases e
        exact ix_str value slice pins s σ H _ _ v u Q I rx ry ⟨z, i, c, rfl, rfl, lim_line hl, e1, q _ _ (Same.refl H) (.str _)⟩ hs
    · cases e
  · cases e
theorem pd_ix {a b : Expr} {pos : Pos} {ma mb : Env' → M D} (hs : PlainIx b) (ha : PE X a (tE X.K xc W ma)) (hb : PE X b (tE X.K xc W mb)) :
    PE X (.Subscript a b pos) (tE X.K xc W fun env => ma env >>= fun x => mb env >>= fun y => op2 ixD x y) :=
  pimp (pe_ix ix_ok ha hb hs) fun σ H Q ⟨w, env, s, rel, p⟩ => by
    refine (tE_of rel p).imp2 fun v H1 ⟨w1, d, s1, g, rel1, r, p1⟩ => ?_
    refine (tE_of rel1 p1).imp2 fun u H2 ⟨w2, d2, s2, g2, rel2, r2, p2⟩ => ?_
    exact op2_read rel2.st (r.mono g2) r2 p2
theorem slfrz {r : V → Option Int → Option Int → Hp → VK → Prop} (h : SlR X r) : SlR X fun x lo hi H Q => r x lo hi H (FrQ Q) := by
  intro pins s σ H x v vl vu lo hi sl Q I rx hs pl pu q
  obtain ⟨T, id, h1, h2, h3⟩ := h pins s σ H x v vl vu lo hi sl _ I rx hs pl pu q
  exact ⟨T, id, h1, h2, thn h3 fun _ _ z => efrz z⟩
theorem cut_reps {K : PySem.W.Frag} {H : Hp} {vs : List V} {ds : List D} (r : Reps K H vs ds) (lo hi : Option Int) : Reps K H (cutV vs lo hi) (cutL ds lo hi) := by
  unfold cutV cutL
  rw [r.length]
  exact (r.drop _).take _
theorem cut_whole {K : PySem.W.Frag} {H : Hp} {vs : List V} {ds : List D} (r : Reps K H vs ds) {lo hi : Option Int} (h : HT.sIx vs.length 0 lo = 0 ∧ HT.sIx vs.length vs.length hi = vs.length) : cutL ds lo hi = ds := by
  unfold cutL
  rw [r.length] at h
  rw [h.1, h.2]
  simp
theorem sl_ok : SlR X fun x lo hi H Q => ∃ dx d, RepR X.K H x dx ∧ cutD dx lo hi = some d ∧ ∀ v H', Same H H' → Rep X.K H' v d → Q v H' := by
  intro pins s σ H x v vl vu lo hi sl Q I rx hs pl pu h
  obtain ⟨dx, d, hx, e, q⟩ := h
  unfold cutD at e
  split at e
  · cases hx with
    | tup h1 r1 =>
    cases e
    refine sl_tupA pins s σ H _ v vl vu _ _ sl Q I rx hs pl pu ⟨_, _, rfl, h1.sq, fun hw => ?_, fun _ p hp => tup_new hp (cut_reps r1 _ _) q⟩
    rw [cut_whole r1 hw] at q
    exact q _ _ (Same.refl H) (.tup h1 r1)
  · obtain ⟨a, vs, rfl, h1, r1⟩ := hx
    cases e
    exact slfrz sl_list pins s σ H _ v vl vu _ _ sl Q I rx hs pl pu ⟨_, _, rfl, .inl h1, fun p hp => fr_new hp (cut_reps r1 _ _) q⟩
  · split at e
    · rename_i hl
      cases hx; cases e
      exact sl_str pins s σ H _ v vl vu _ _ sl Q I rx hs pl pu ⟨_, rfl, lim_line hl, q _ _ (Same.refl H) (.str _)⟩
    · cases e
  · cases e
/-! ### a slice's bounds -/
def PostO (K : PySem.W.Frag) (xc : XC) (W : WX) (σ : L2.St) (w : Wd) (H : Hp) (Q : Option Int → Hp → Prop) : R (Option Int) → Prop
  | .ok o s' => ∀ H' w', Go w H w' H' → Sto K w' s' H' → Q o H'
  | .exc c f s' => ∀ x v H' w', Go w H w' H' → Sto K w' s' H' → H' x = some (.xd [(xc.fld c, v)]) → Rep K H' v f → W (.ref (xc.cls c)) (some x) σ H'
  | .stuck => False
def tPo (K : PySem.W.Frag) (xc : XC) (W : WX) (m : Env' → M (Option Int)) : TO := fun σ H Q => ∃ w env s, Rel K w env s σ H ∧ PostO K xc W σ w H Q (m env s)
theorem poimp {e : Option Expr} {t t' : TO} (h : PO X e t) (hi : ∀ σ H Q, t' σ H Q → t σ H Q) : PO X e t' :=
  ⟨fun pins s σ H Q I q => h.run pins s σ H Q I (hi σ H Q q)⟩
theorem pdo_none : PO X none (tPo X.K xc W fun _ => M.ret none) :=
  poimp po_none fun σ H Q ⟨w, env, s, rel, p⟩ => p H w (Go.refl w H) rel.st
theorem pdo_some {e : Expr} {m : Env' → M D} (h : PE X e (tE X.K xc W m)) : PO X (some e) (tPo X.K xc W fun env => intM (m env)) :=
  poimp (po_some h) fun σ H Q ⟨w, env, s, rel, p⟩ => by
    refine ⟨w, env, s, rel, ?_⟩
    replace p : PostO X.K xc W σ w H Q (M.bnd (m env) _ s) := p
    unfold M.bnd at p
    cases q : m env s with
    | ok d s' =>
      rw [q] at p
      intro v H' w' g t r
      cases d with
      | int i => cases r; exact ⟨i, rfl, p H' w' g t⟩
      | _ => exact p.elim
    | exc c f s' => rw [q] at p; exact p
    | stuck => rw [q] at p; exact p
/-- from a bound on -/
theorem Post.bindO {K : PySem.W.Frag} {σ : L2.St} {w : Wd} {H : Hp} {Q : VK} {x : M (Option Int)} {f : Option Int → M D} {s : SS} (h : Post K xc W σ w H Q ((x >>= f) s)) :
    PostO K xc W σ w H (fun o H1 => ∃ w1 s1, Go w H w1 H1 ∧ Sto K w1 s1 H1 ∧ Post K xc W σ w1 H1 Q (f o s1)) (x s) := by
  rw [M_bind] at h
  unfold M.bnd at h
  cases q : x s with
  | ok d s' =>
    rw [q] at h
    intro H' w' g t
    exact ⟨w', s', g, t, h.mono g⟩
  | exc c f' s' => rw [q] at h; exact h
  | stuck => rw [q] at h; exact h
theorem sl_read {K : PySem.W.Frag} {σ : L2.St} {H : Hp} {Q : VK} {f : D → Option Int → Option Int → Option D} {ma : Env' → M D} {ml mh : Env' → M (Option Int)} (h : tE K xc W (fun env => sliceM f (ma env) (ml env) (mh env)) σ H Q) :
    tSl (fun x lo hi H Q => ∃ dx d, RepR K H x dx ∧ f dx lo hi = some d ∧ ∀ v H', Same H H' → Rep K H' v d → Q v H') (tE K xc W ma) (tPo K xc W ml) (tPo K xc W mh) σ H Q := by
  obtain ⟨w, env, s, rel, p⟩ := h
  refine (tE_of rel p).imp2 fun v H1 ⟨w1, d, s1, g, rel1, r, p1⟩ => ?_
  have b1 := Post.bindO p1
  have im : ∀ {Q Q' : Option Int → Hp → Prop} {w H r}, (∀ o H', Q o H' → Q' o H') → PostO K xc W σ w H Q r → PostO K xc W σ w H Q' r := fun {Q Q' w H r} hq h => by
    cases r with
    | ok o s' => exact fun H' w' g t => hq _ _ (h H' w' g t)
    | exc c f s' => exact h
    | stuck => exact h
  refine ⟨w1, env, s1, rel1, im (fun lo H2 ⟨w2, s2, g2, t2, p2⟩ => ?_) b1⟩
  refine ⟨w2, env, s2, rel1.go g2 t2, im (fun hi H3 ⟨w3, s3, g3, t3, p3⟩ => ?_) (Post.bindO p2)⟩
  have r3 := ((r.mono g2).mono g3).rd t3
  cases e : f (vw s3 d) lo hi with
  | none => simp only [e] at p3; exact p3.elim
  | some z => simp only [e] at p3; exact ⟨_, z, r3, e, Post.new p3 t3⟩
theorem pd_sl {a : Expr} {lo hi : Option Expr} {pos p2 : Pos} {ma : Env' → M D} {ml mh : Env' → M (Option Int)} (ha : PE X a (tE X.K xc W ma)) (hl : PO X lo (tPo X.K xc W ml)) (hh : PO X hi (tPo X.K xc W mh)) :
    PE X (.Subscript a (.Slice lo hi none p2) pos) (tE X.K xc W fun env => sliceM cutD (ma env) (ml env) (mh env)) :=
  pimp (pe_slice sl_ok ha hl hh) fun σ H Q h => sl_read h

/-! ### backwards -/
theorem back_applied {prog : Program} {w : World} {A : Around} {E : Value → Shared → Prop} {s : Shared} {sl : Addr} {vl vu vs : Value} {lo hi : Option Int} {n : Nat} {Q : Int × Int × Nat → Shared → Prop}
    (hs : s.heap.IsSliceOf sl vl vu vs) (pl : IsPart vl lo) (pu : IsPart vu hi) (ps : IsPart vs (some (-1)))
    (h : Q ((Builtin.Slice.sliceAdjust lo hi (-1) (n : Int)).1, -1, Builtin.Slice.slicePlaces (Builtin.Slice.sliceAdjust lo hi (-1) (n : Int)).1 (Builtin.Slice.sliceAdjust lo hi (-1) (n : Int)).2 (-1)) s) :
    wpAny (model prog w) A (Builtin.Slice.sliceApplied (.ref sl) (pure (n : Int))) Q E s := by
  obtain ⟨os, hos, hcs, hds⟩ := id hs
  unfold Builtin.Slice.sliceApplied Builtin.Slice.sliceFields
  refine wpAny_bind (wpAny_bind (wpAny_field hos hds (x := vl) rfl (wpAny_bind (wpAny_field hos hds (x := vu) rfl (wpAny_bind (wpAny_field hos hds (x := vs) rfl (wpAny_pure ?_)))))))
  refine wpAny_bind (HT.slicePart_ ps ?_)
  show wpAny _ _ (if ((-1 : Int) == 0) = true then _ else _) _ _ s
  rw [if_neg (by decide)]
  refine wpAny_bind (HT.slicePart_ pl (wpAny_bind (HT.slicePart_ pu (wpAny_bind (wpAny_pure ?_)))))
  exact wpAny_pure h
theorem tup_back {prog : Program} {w : World} {A : Around} {E : Value → Shared → Prop} {s : Shared} {t sl : Addr} {items : Array Value} {vl vu vs : Value} {lo hi : Option Int} {Q : Value → Shared → Prop}
    (ht : PyProof.Rows.IsTup s.heap t items) (hs : s.heap.IsSliceOf sl vl vu vs) (pl : IsPart vl lo) (pu : IsPart vu hi) (ps : IsPart vs (some (-1)))
    (h : Q (.ref s.heap.objs.size) { s with heap := s.heap.push { cls := .type "tuple", data := .seq (backL items.toList lo hi).toArray } })
    (hsz : (backL items.toList lo hi).length ≤ sizeLine) : wpAny (model prog w) A (getItem (.ref t) (.ref sl)) Q E s := by
  obtain ⟨os, hos, hcs, hds⟩ := id hs
  have hTs : s.TypeIs (.ref sl) "slice" := ⟨os, hos, hcs⟩
  unfold getItem
  try with_reducible refine wpAny_holding ?_
  first | refine wpAny_bind (wpAny_pure ?_) | skip
  refine wpAny_bind (wpAny_sequenceKey ht.typeIs (by decide) ?_)
  refine wpAny_bind (wpAny_callSpecial?_slot (name := Str.ofString "__getitem__") ht.typeIs PyProof.Rows.slot_tuple_getitem
    (wpAny_call_entry PyProof.Rows.slot_tuple_getitem ht.typeIs PyProof.Rows.entry_tuple_getitem ?_ (PyProof.Rows.args_tuple_getitem _ _)))
  show wpAny _ _ (Builtin.Tuple.tupleItemsOf (.ref t) >>= _) _ _ s
  refine wpAny_bind (PyProof.Rows.tupleItemsOf_ ht ?_)
  refine wpAny_bind (wpAny_typeOf hTs ?_)
  rw [if_pos (by decide)]
  refine wpAny_bind (back_applied hs pl pu ps ?_)
  have hno : ¬ ((((Builtin.Slice.sliceAdjust lo hi (-1) (items.size : Int)).1 == 0 && (-1 : Int) == 1) && Builtin.Slice.slicePlaces (Builtin.Slice.sliceAdjust lo hi (-1) (items.size : Int)).1 (Builtin.Slice.sliceAdjust lo hi (-1) (items.size : Int)).2 (-1) == items.size) = true) := by
    intro q
    rw [Bool.and_eq_true, Bool.and_eq_true] at q
    exact absurd q.1.2 (by decide)
  show wpAny _ _ (if ((((Builtin.Slice.sliceAdjust lo hi (-1) (items.size : Int)).1 == 0 && (-1 : Int) == 1) && Builtin.Slice.slicePlaces (Builtin.Slice.sliceAdjust lo hi (-1) (items.size : Int)).1 (Builtin.Slice.sliceAdjust lo hi (-1) (items.size : Int)).2 (-1) == items.size) = true) then _ else _) _ _ s
  rw [if_neg hno]
  have e : ((List.range (Builtin.Slice.slicePlaces (Builtin.Slice.sliceAdjust lo hi (-1) (items.size : Int)).1 (Builtin.Slice.sliceAdjust lo hi (-1) (items.size : Int)).2 (-1))).filterMap fun (k : Nat) => items[((Builtin.Slice.sliceAdjust lo hi (-1) (items.size : Int)).1 + (k : Int) * (-1)).toNat]?).toArray = (backL items.toList lo hi).toArray := by
    unfold backL
    simp
  rw [e]
  have hok : sizeOk (.seq (backL items.toList lo hi).toArray) := by
    show (backL items.toList lo hi).toArray.size ≤ sizeLine
    rw [List.size_toArray]; exact hsz
  first
    | exact wpAny_bind (m := Builtin.Tuple.tupleExact _) (wpAny_newObj_type (wpAny_pure ⟨_, rfl, wpAny_pure h⟩) hok)
    | exact wpAny_bind (m := Builtin.Tuple.tupleExact _) (wpAny_newObj_type (wpAny_bind (wpAny_pure (wpAny_pure ⟨_, rfl, wpAny_pure h⟩))) hok)
    | exact wpAny_bind (wpAny_bind (m := Builtin.Tuple.tupleExact _) (wpAny_newObj_type (wpAny_pure (wpAny_pure ⟨_, rfl, wpAny_pure h⟩)) hok))
    | exact wpAny_bind (wpAny_bind (m := Builtin.Tuple.tupleExact _) (wpAny_newObj_type (wpAny_pure ⟨_, rfl, wpAny_pure h⟩) hok))
theorem back_reps {K : PySem.W.Frag} {H : Hp} {vs : List V} {ds : List D} (r : Reps K H vs ds) (lo hi : Option Int) : Reps K H (backL vs lo hi) (backL ds lo hi) := by
  unfold backL
  rw [r.length]
  dsimp only
  generalize (Builtin.Slice.sliceAdjust lo hi (-1) (ds.length : Int)).1 = b
  generalize List.range _ = l
  induction l with
  | nil => exact .nil
  | cons k l ih =>
    rw [List.filterMap_cons, List.filterMap_cons]
    cases e : ds[(b + (k : Int) * (-1)).toNat]? with
    | none =>
      have e2 : vs[(b + (k : Int) * (-1)).toNat]? = none := by
        rw [List.getElem?_eq_none_iff] at e ⊢
        rw [r.length]; exact e
      rw [e2]; exact ih
    | some d =>
      obtain ⟨v, e2, r2⟩ := r.get e
      rw [e2]; exact .cons r2 ih
theorem back_vals {xs : List V} {us : List Value} (r : Vals xs us) (lo hi : Option Int) : Vals (backL xs lo hi) (backL us lo hi) := by
  unfold backL
  rw [r.length]
  dsimp only
  generalize (Builtin.Slice.sliceAdjust lo hi (-1) (us.length : Int)).1 = b
  generalize List.range _ = l
  induction l with
  | nil => exact .nil
  | cons k l ih =>
    rw [List.filterMap_cons, List.filterMap_cons]
    cases e : xs[(b + (k : Int) * (-1)).toNat]? with
    | none => rw [r.none_of e]; exact ih
    | some d =>
      obtain ⟨v, e2, r2⟩ := r.get e
      rw [e2]; exact .cons r2 ih
theorem backL_len {α : Type} (xs : List α) (lo hi : Option Int) : (backL xs lo hi).length ≤ xs.length := by
  unfold backL
  refine Nat.le_trans (List.length_filterMap_le _ _) ?_
  rw [List.length_range]
  unfold Builtin.Slice.slicePlaces Builtin.Slice.sliceAdjust
  simp only [show ((-1 : Int) < 0) from by omega, if_true, show ¬ ((-1 : Int) > 0) from by omega, if_false, Int.neg_neg, Int.ediv_one]
  cases lo <;> cases hi <;> dsimp only <;> (repeat' split) <;> omega
theorem pd_back {a : Expr} {lo hi : Option Expr} {k : Nat} {p1 p2 p3 pos : Pos} {ma : Env' → M D} {ml mh : Env' → M (Option Int)} (ha : PE X a (tE X.K xc W ma)) (hl : PO X lo (tPo X.K xc W ml)) (hh : PO X hi (tPo X.K xc W mh)) :
    PE X (.Subscript a (.Slice lo hi (some (.UnaryOp .USub (.Constant (.int 1) k p1) p2)) p3) pos) (tE X.K xc W fun env => sliceM backD (ma env) (ml env) (mh env)) := by
  refine ⟨fun pins s σ H Q I h => ?_⟩
  have h2 := sl_read h
  refine PyProof.Rows.Subscript_ (thn (ha.run pins s σ H _ I h2) fun v s1 ⟨x, H1, I1, r1, q1⟩ => ?_)
  have hst : PO X (some (.UnaryOp .USub (.Constant (.int 1) k p1) p2)) (tPart (tUn (rU fun i => .int (-i)) (tC (.int 1)))) := po_some (pe_un un_neg pe_int)
  refine wpAny_Slice (thn (hl.run pins s1 σ H1 _ I1 q1) fun vl s2 ⟨l, H2, I2, pl, q2⟩ => ?_)
  refine thn (hh.run pins s2 σ H2 _ I2 q2) fun vu s3 ⟨u, H3, I3, pu, q3⟩ => ?_
  refine thn (hst.run pins s3 σ H3 (fun o H4 => o = some (-1) ∧ H4 = H3) I3 ⟨1, rfl, -1, rfl, rfl, rfl⟩) fun vs s4 ⟨o, H4, I4, ps, eo, e4⟩ => ?_
  subst eo e4
  have I5 : Inv X pins σ H4 { s4 with heap := s4.heap.push { cls := .type "slice", data := .fields #[vl, vu, vs] } } := I4.kept (t' := s4.toks) fun b ob q => Heap.get?_push_of_some _ q
  obtain ⟨dx, d, hx, e, q⟩ := q3
  unfold backD at e
  split at e
  · rename_i xs
    cases hx with
    | @tup ad vs' _ h1 rs =>
    cases e
    cases r1
    obtain ⟨its, rv, ht, hz⟩ := I5.tuple h1.sq
    show wpAny (model X.prog X.w) X.A (PyProof.Rows.subscriptTail a (.Slice lo hi (some (.UnaryOp .USub (.Constant (.int 1) k p1) p2)) p3) (.ref ad) (.ref s4.heap.objs.size)) (EP X pins σ Q) X.xe _
    refine PyProof.Rows.tail_any (ops := [.ref ad, .ref s4.heap.objs.size]) ht.typeIs (PyProof.Rows.slot_tuple_getitem.lookup) ?_ (by with_unfolding_all rfl)
    have hlen := rv.length
    have hb := backL_len its l u
    refine tup_back ht (Heap.IsSliceOf.new _ vl vu vs) pl pu ps ?_ (by simp only; omega)
    refine ⟨.ref _, _, I5.laid (t' := s4.toks) (o := .tup (backL vs' l u)) (fun b ob q => Heap.get?_push_of_some _ q) (Nat.le_refl _) ?_, rfl, tup_new (I5.hok.fresh (Nat.le_refl _)) (back_reps rs l u) q⟩
    refine ⟨Nat.le_trans (backL_len vs' l u) hz, _, back_vals rv l u, PyProof.Rows.IsTup.new _ _⟩
  · rename_i xs
    obtain ⟨ad, vs', rfl, h1, rs⟩ := hx
    cases e
    cases r1
    have hq : SqL X.K H4 ad vs' := .inl h1
    obtain ⟨its, r, ht, hz⟩ := I5.list hq
    have hlen := r.length
    show wpAny (model X.prog X.w) X.A (PyProof.Rows.subscriptTail a (.Slice lo hi (some (.UnaryOp .USub (.Constant (.int 1) k p1) p2)) p3) (.ref ad) (.ref s4.heap.objs.size)) (EP X pins σ Q) X.xe _
    refine PyProof.Rows.tail_any (ops := [.ref ad, .ref s4.heap.objs.size]) ht.isList.typeIs (PySem.slot_list_getitem.lookup) ?_ (by with_unfolding_all rfl)
    refine wpAny_getItem_list_slice ht.isList (Heap.IsSliceOf.new _ vl vu vs) pl pu ps (by decide) ?_ (by rw [List.size_toArray]; omega)
    rw [PySem.W.krv_pick]
    refine efrz ⟨.ref _, _, I5.laid (t' := s4.toks) (o := .lst vs'.reverse) (fun b ob q => Heap.get?_push_of_some _ q) (Nat.le_refl _) ?_, rfl, fr_new (I5.hok.fresh (Nat.le_refl _)) rs.reverse q⟩
    exact ⟨by rw [List.length_reverse]; exact hz, _, 0, r.reverse, Heap.get?_push_size _ rfl⟩
  · cases e
end
end PI

set_option maxHeartbeats 1000000
/-! PI, part h: built-in functions. -/
namespace PI
open PySem L2
inductive RepRs (K : PySem.W.Frag) (H : Hp) : List V → List D → Prop
  | nil : RepRs K H [] []
  | cons {v : V} {vs : List V} {d : D} {ds : List D} : RepR K H v d → RepRs K H vs ds → RepRs K H (v :: vs) (d :: ds)
theorem RepTs.rd {K : PySem.W.Frag} {w : Wd} {s : SS} {H : Hp} (t : Sto K w s H) : ∀ {vs : List V} {ds : List D}, RepTs K w H vs ds → RepRs K H vs (ds.map (vw s))
  | _, _, .nil => .nil
  | _, _, .cons h r => .cons (h.rd t) (RepTs.rd t r)
section
variable {X : Cx} {xc : XC} {W : WX}
def CallP (X : Cx) (f : Value) (g : List D → Option D) : Prop :=
  CallR X f fun xs H Q => ∃ ds d, RepRs X.K H xs ds ∧ g ds = some d ∧ ∀ v H', Same H H' → Rep X.K H' v d → Q v H'
theorem pda_consN {e : Expr} {es : List Expr} {m : Env' → M D} {ms : Env' → M (List D)} (he : PE X e (tE X.K xc W m)) (hes : PA X es (tA X.K xc W ms))
    (hs : starEach (e :: es) X.env = (false, eval e X.env) :: starEach es X.env) : PA X (e :: es) (tA X.K xc W fun env => consN (m env) (ms env)) :=
  paimp (pa_cons he hes hs) fun σ H Q ⟨w, env, s, rel, p⟩ => by
    refine ⟨w, env, s, rel, (PostA.bind p).imp fun v H1 ⟨w1, d, s1, g, t, r, p1⟩ => ?_⟩
    refine ⟨w1, env, s1, rel.go g t, (PostA.bindA p1).imp fun vs H3 ⟨w3, ds, s3, g3, t3, r3, p3⟩ => ?_⟩
    exact p3 _ H3 w3 (Go.refl _ _) t3 (.cons (r.mono g3) r3)
theorem bi_read {K : PySem.W.Frag} {σ : L2.St} {H : Hp} {Q : VK} {f : List D → Option D} {ms : Env' → M (List D)} (h : tE K xc W (fun env => biM f (ms env)) σ H Q) :
    tCB (fun xs H Q => ∃ ds d, RepRs K H xs ds ∧ f ds = some d ∧ ∀ v H', Same H H' → Rep K H' v d → Q v H') (tA K xc W ms) σ H Q := by
  obtain ⟨w, env, s, rel, p⟩ := h
  refine ⟨w, env, s, rel, (Post.bindA p).imp fun vs H1 ⟨w1, ds, s1, g, t, r, p1⟩ => ?_⟩
  cases e : f (ds.map (vw s1)) with
  | none => simp only [e] at p1; exact p1.elim
  | some d => simp only [e] at p1; exact ⟨_, d, r.rd t, e, Post.new p1 t⟩
theorem pd_bi {x : Str} {id : String} {p pos : Pos} {e : Expr} {es : List Expr} {f : List D → Option D} {ms : Env' → M (List D)} (hc : CallP X (.builtin id) f) (hg : Gl X x) (hm : X.mg x = none) (hv : bootBuiltins x = some (.builtin id))
    (ha : PA X (e :: es) (tA X.K xc W ms)) (hn : x ≠ "__name__") (hdb : (x == ("__debug__" : Str)) = false) (he : starEach (e :: es) X.env = (false, eval e X.env) :: starEach es X.env) (hpl : (backTo pos (starEach es X.env)).any (·.1) = false) :
    PE X (.Call (.Name x p) (e :: es) [] pos) (tE X.K xc W fun env => biM f (ms env)) :=
  pimp (pe_callB hc hg hm hv ha hn hdb he hpl) fun σ H Q h => bi_read h
theorem pd_biT {x : Str} {id : String} {p pos : Pos} {e : Expr} {es : List Expr} {f : List D → Option D} {ms : Env' → M (List D)} (hc : CallP X (.type id) f) (hg : Gl X x) (hm : X.mg x = none) (hv : bootBuiltins x = some (.type id))
    (ha : PA X (e :: es) (tA X.K xc W ms)) (hn : x ≠ "__name__") (hdb : (x == ("__debug__" : Str)) = false) (he : starEach (e :: es) X.env = (false, eval e X.env) :: starEach es X.env) (hpl : (backTo pos (starEach es X.env)).any (·.1) = false) :
    PE X (.Call (.Name x p) (e :: es) [] pos) (tE X.K xc W fun env => biM f (ms env)) :=
  pimp (pe_callTy hc hg hm hv ha hn hdb he hpl) fun σ H Q h => bi_read h

theorem reps1 {K : PySem.W.Frag} {H : Hp} {xs : List V} {d : D} (r : RepRs K H xs [d]) : ∃ x, xs = [x] ∧ RepR K H x d := by
  cases r with
  | cons h r => cases r; exact ⟨_, rfl, h⟩
theorem reps2 {K : PySem.W.Frag} {H : Hp} {xs : List V} {d e : D} (r : RepRs K H xs [d, e]) : ∃ x y, xs = [x, y] ∧ RepR K H x d ∧ RepR K H y e := by
  cases r with
  | cons h r => cases r with
    | cons h2 r => cases r; exact ⟨_, _, rfl, h, h2⟩
theorem len_ok : CallP X (.builtin "len") lenD := by
  intro pins s σ H xs us Q I r h
  obtain ⟨ds, d, rs, e, q⟩ := h
  unfold lenD at e
  split at e
  · obtain ⟨x, rfl, hx⟩ := reps1 rs
    cases hx with
    | tup h1 r1 =>
    cases e
    refine call_len pins s σ H _ us Q I r ⟨_, _, rfl, .inr ⟨_, h1.sq, rfl⟩, ?_⟩
    rw [r1.length]; exact q _ _ (Same.refl H) (.int _)
  · obtain ⟨x, rfl, a, vs, rfl, h1, r1⟩ := reps1 rs
    cases e
    refine call_len pins s σ H _ us Q I r ⟨_, _, rfl, .inl ⟨_, .inl h1, rfl⟩, ?_⟩
    rw [r1.length]; exact q _ _ (Same.refl H) (.int _)
  · split at e
    · rename_i hl
      obtain ⟨x, rfl, hx⟩ := reps1 rs
      cases hx; cases e
      exact call_len pins s σ H _ us Q I r ⟨_, _, rfl, ⟨lim_line hl, rfl⟩, q _ _ (Same.refl H) (.int _)⟩
    · cases e
  · cases e
theorem bools_reps {K : PySem.W.Frag} {H : Hp} : ∀ {vs : List V} {ds : List D} {bs : List Bool}, Reps K H vs ds → boolsD ds = some bs → vs = bs.map V.bl
  | _, _, _, .nil, e => by cases e; rfl
  | _, _, _, .cons (d := d) h r, e => by
    cases d <;> simp only [boolsD] at e <;> try cases e
    rename_i ds b
    cases e1 : boolsD ds with
    | none => rw [e1] at e; cases e
    | some l => rw [e1] at e; cases e; cases h; rw [bools_reps r e1]; rfl
theorem ints_reps {K : PySem.W.Frag} {H : Hp} : ∀ {vs : List V} {ds : List D} {bs : List Int}, Reps K H vs ds → intsD ds = some bs → vs = bs.map V.int
  | _, _, _, .nil, e => by cases e; rfl
  | _, _, _, .cons (d := d) h r, e => by
    cases d <;> simp only [intsD] at e <;> try cases e
    rename_i ds b
    cases e1 : intsD ds with
    | none => rw [e1] at e; cases e
    | some l => rw [e1] at e; cases e; cases h; rw [ints_reps r e1]; rfl
theorem all_ok (hc : X.calm = true) : CallP X (.builtin "all") allD := by
  intro pins s σ H xs us Q I r h
  obtain ⟨ds, d, rs, e, q⟩ := h
  unfold allD at e
  split at e
  · rename_i l
    obtain ⟨x, rfl, a, vs, rfl, h1, r1⟩ := reps1 rs
    cases e1 : boolsD l with
    | none => rw [e1] at e; cases e
    | some bs =>
      rw [e1] at e; cases e
      have ev := bools_reps r1 e1
      subst ev
      exact cr_all hc pins s σ H _ us Q I r ⟨a, bs, rfl, .inl h1, q _ _ (Same.refl H) (.bl _)⟩
  · cases e
theorem any_ok (hc : X.calm = true) : CallP X (.builtin "any") anyD := by
  intro pins s σ H xs us Q I r h
  obtain ⟨ds, d, rs, e, q⟩ := h
  unfold anyD at e
  split at e
  · rename_i l
    obtain ⟨x, rfl, a, vs, rfl, h1, r1⟩ := reps1 rs
    cases e1 : boolsD l with
    | none => rw [e1] at e; cases e
    | some bs =>
      rw [e1] at e; cases e
      have ev := bools_reps r1 e1
      subst ev
      exact cr_any hc pins s σ H _ us Q I r ⟨a, bs, rfl, .inl h1, q _ _ (Same.refl H) (.bl _)⟩
  · cases e
theorem int_ok : CallP X (.type "int") intD := by
  intro pins s σ H xs us Q I r h
  obtain ⟨ds, d, rs, e, q⟩ := h
  unfold intD at e
  split at e
  · obtain ⟨x, rfl, hx⟩ := reps1 rs
    cases hx; cases e
    exact call_int1 pins s σ H _ us Q I r (.inl ⟨_, rfl, q _ _ (Same.refl H) (.int _)⟩)
  · obtain ⟨x, rfl, hx⟩ := reps1 rs
    cases hx; cases e
    exact call_int1 pins s σ H _ us Q I r (.inr ⟨_, rfl, q _ _ (Same.refl H) (.int _)⟩)
  · cases e
theorem tuple_ok : CallP X (.type "tuple") tupleD := by
  intro pins s σ H xs us Q I r h
  obtain ⟨ds, d, rs, e, q⟩ := h
  unfold tupleD at e
  split at e
  · obtain ⟨x, rfl, hx⟩ := reps1 rs
    cases hx with
    | tup h1 r1 =>
    cases e
    exact call_tuple_of pins s σ H _ us Q I r ⟨_, _, rfl, .inr ⟨h1.sq, q _ _ (Same.refl H) (.tup h1 r1)⟩⟩
  · obtain ⟨x, rfl, a, vs, rfl, h1, r1⟩ := reps1 rs
    cases e
    exact call_tuple_of pins s σ H _ us Q I r ⟨_, _, rfl, .inl ⟨.inl h1, fun p hp => tup_new hp r1 q⟩⟩
  · cases e
theorem callfrz {f : Value} {r : List V → Hp → VK → Prop} (h : CallR X f r) : CallR X f fun xs H Q => r xs H (FrQ Q) := by
  intro pins s σ H xs us Q I rx q
  exact thn (h pins s σ H xs us _ I rx q) fun _ _ z => efrz z
theorem list_ok : CallP X (.type "list") listD := by
  intro pins s σ H xs us Q I r h
  obtain ⟨ds, d, rs, e, q⟩ := h
  unfold listD at e
  split at e
  · obtain ⟨x, rfl, hx⟩ := reps1 rs
    cases hx with
    | tup h1 r1 =>
    cases e
    exact callfrz call_list_of pins s σ H _ us Q I r ⟨_, _, rfl, .inr h1.sq, fun p hp => fr_new hp r1 q⟩
  · obtain ⟨x, rfl, a, vs, rfl, h1, r1⟩ := reps1 rs
    cases e
    exact callfrz call_list_of pins s σ H _ us Q I r ⟨_, _, rfl, .inl (.inl h1), fun p hp => fr_new hp r1 q⟩
  · cases e
theorem minI_spec : ∀ {ns : List Int}, 0 < ns.length → ∀ m, m ∈ ns → (∀ y, y ∈ ns → m ≤ y) → m = minI ns := by
  have key : ∀ ns : List Int, 0 < ns.length → minI ns ∈ ns ∧ ∀ y, y ∈ ns → minI ns ≤ y := by
    intro ns
    induction ns with
    | nil => intro h; cases h
    | cons a r ih =>
      intro _
      cases r with
      | nil => simp [minI]
      | cons b r =>
        obtain ⟨h1, h2⟩ := ih (by simp)
        have e : minI (a :: b :: r) = min a (minI (b :: r)) := rfl
        rw [e]
        constructor
        · by_cases h : a ≤ minI (b :: r)
          · rw [Int.min_eq_left h]; exact List.mem_cons_self
          · rw [Int.min_eq_right (by omega)]; exact List.mem_cons_of_mem _ h1
        · intro y hy
          rcases List.mem_cons.mp hy with rfl | hy
          · exact Int.min_le_left _ _
          · exact Int.le_trans (Int.min_le_right _ _) (h2 y hy)
  intro ns h m h1 h2
  obtain ⟨k1, k2⟩ := key ns h
  exact Int.le_antisymm (h2 _ k1) (k2 _ h1)
theorem maxI_spec : ∀ {ns : List Int}, 0 < ns.length → ∀ m, m ∈ ns → (∀ y, y ∈ ns → y ≤ m) → m = maxI ns := by
  have key : ∀ ns : List Int, 0 < ns.length → maxI ns ∈ ns ∧ ∀ y, y ∈ ns → y ≤ maxI ns := by
    intro ns
    induction ns with
    | nil => intro h; cases h
    | cons a r ih =>
      intro _
      cases r with
      | nil => simp [maxI]
      | cons b r =>
        obtain ⟨h1, h2⟩ := ih (by simp)
        have e : maxI (a :: b :: r) = max a (maxI (b :: r)) := rfl
        rw [e]
        constructor
        · by_cases h : maxI (b :: r) ≤ a
          · rw [Int.max_eq_left h]; exact List.mem_cons_self
          · rw [Int.max_eq_right (by omega)]; exact List.mem_cons_of_mem _ h1
        · intro y hy
          rcases List.mem_cons.mp hy with rfl | hy
          · exact Int.le_max_left _ _
          · exact Int.le_trans (h2 y hy) (Int.le_max_right _ _)
  intro ns h m h1 h2
  obtain ⟨k1, k2⟩ := key ns h
  exact Int.le_antisymm (k2 _ h1) (h2 _ k1)
theorem intsD_len : ∀ {ds : List D} {ns : List Int}, intsD ds = some ns → ns.length = ds.length
  | [], _, e => by cases e; rfl
  | d :: ds, _, e => by
    cases d <;> simp only [intsD] at e <;> try cases e
    cases e1 : intsD ds with
    | none => rw [e1] at e; cases e
    | some l => rw [e1] at e; cases e; simp [intsD_len e1]
/-- the lesser of two texts -/
def strItems (xs : Array (Str × Tok)) : Array Value := xs.map fun p => .str p.1 p.2
def strAt (xs : Array (Str × Tok)) (i : Nat) : Str := (xs[i]?.map (·.1)).getD ⟨#[]⟩
theorem strItems_at {xs : Array (Str × Tok)} {i : Nat} {v : Value} (h : (strItems xs)[i]? = some v) : ∃ t, v = .str (strAt xs i) t := by
  simp only [strItems, Array.getElem?_map, Option.map_eq_some_iff] at h
  obtain ⟨p, hp, rfl⟩ := h
  exact ⟨p.2, by simp [strAt, hp]⟩
theorem min_two_strs {prog : Program} {w : World} {A : Around} {E : Value → Shared → Prop} {s : Shared} {a b : Str} {t u : Tok} {Q : Value → Shared → Prop} (hh : A.handled = none)
    (h : ∀ h' tk, (∀ c o, s.heap.get? c = some o → h'.get? c = some o) → Q (if ltS b a = true then .str b u else .str a t) { s with heap := h', toks := tk }) :
    wpAny (model prog w) A (call (.builtin "min") [.str a t, .str b u]) Q E s := by
  have hT : (s.heap.push { cls := .type "tuple", data := .seq #[.str a t, .str b u] }).IsTuple s.heap.objs.size (strItems #[(a, t), (b, u)]) := ⟨_, Heap.get?_push_size _ rfl, rfl, 0, by simp [strItems]⟩
  refine call_min_two (wpAny_pyIter_tuple hT ?_)
  have hsz : (s.heap.push { cls := .type "tuple", data := .seq #[.str a t, .str b u] }).objs.size = s.heap.objs.size + 1 := Heap.size_push ..
  have hcmp : CmpOf prog w A.in1 .Lt (fun i v => (strItems #[(a, t), (b, u)])[i]? = some v) (fun i j => ltS (strAt #[(a, t), (b, u)] i) (strAt #[(a, t), (b, u)] j)) := fun i j vi vj s Q E hi hj h => by
    obtain ⟨t1, rfl⟩ := strItems_at hi
    obtain ⟨t2, rfl⟩ := strItems_at hj
    exact PyProof.Rows.lt_str h
  refine ⟨_, [_, s.heap.objs.size], [_], _, _, _, _, rfl, Walks.tuple (A := A.in1) hh _ s.heap.objs.size (by rw [hsz]; exact Nat.ne_of_lt (Nat.lt_succ_self _)) (strItems #[(a, t), (b, u)]),
    ⟨⟨_, Heap.get?_push_size _ rfl, rfl, rfl⟩, hT.push _⟩, fun c hc => ?_, by simp [strItems], hcmp, fun v h' tk hP hk => ?_⟩
  · show c < ((s.heap.push _).push _).objs.size
    rw [Heap.size_push, hsz]
    rcases List.mem_cons.mp hc with rfl | hc
    · rw [hsz]; exact Nat.lt_succ_self _
    · rcases List.mem_cons.mp hc with rfl | hc
      · exact Nat.lt_succ_of_lt (Nat.lt_succ_self _)
      · cases hc
  · have hold : ∀ c o, s.heap.get? c = some o → h'.get? c = some o := fun c o e => by
      refine hk c o (fun hm => ?_) (Heap.get?_push_of_some _ (Heap.get?_push_of_some _ e))
      rcases List.mem_cons.mp hm with e1 | hm
      · have := Heap.lt_size e; rw [e1, hsz] at this; exact Nat.lt_irrefl _ (Nat.lt_of_succ_lt this)
      · cases hm
    have := h h' tk hold
    have hv : v = if ltS b a = true then Value.str b u else Value.str a t := by
      have hP' : (strItems #[(a, t), (b, u)])[argBest (fun i j => ltS (strAt #[(a, t), (b, u)] i) (strAt #[(a, t), (b, u)] j)) 1]? = some v := by
        have hsz2 : (strItems #[(a, t), (b, u)]).size - 1 = 1 := by simp [strItems]
        rw [← hsz2]; exact hP
      by_cases hba : ltS b a = true
      · have e : argBest (fun i j => ltS (strAt #[(a, t), (b, u)] i) (strAt #[(a, t), (b, u)] j)) 1 = 1 := by simp [argBest, strAt, hba]
        rw [e] at hP'
        simpa [strItems, hba] using hP'.symm
      · have e : argBest (fun i j => ltS (strAt #[(a, t), (b, u)] i) (strAt #[(a, t), (b, u)] j)) 1 = 0 := by simp [argBest, strAt, hba]
        rw [e] at hP'
        simpa [strItems, hba] using hP'.symm
    rw [hv]; exact this
theorem call_min2S {X : Cx} (hc : X.calm = true) : CallR X (.builtin "min") (fun xs H Q => ∃ i j, xs = [.str i, .str j] ∧ Q (.str (if ltS j i = true then j else i)) H) := by
  intro pins s σ H xs us Q I r h
  obtain ⟨i, j, rfl, q⟩ := h
  obtain ⟨u, w', rfl, ⟨t, rfl⟩, ⟨t', rfl⟩⟩ := vals2 r
  refine min_two_strs (I.ok.hd hc) fun h' tk k => ⟨_, H, I.kept k, ?_, q⟩
  by_cases hj : ltS j i = true
  · rw [if_pos hj, if_pos hj]; exact ⟨_, rfl⟩
  · rw [if_neg hj, if_neg hj]; exact ⟨_, rfl⟩
theorem min_ok (hc : X.calm = true) : CallP X (.builtin "min") minD := by
  intro pins s σ H xs us Q I r h
  obtain ⟨ds, d, rs, e, q⟩ := h
  unfold minD at e
  split at e
  · obtain ⟨x, y, rfl, hx, hy⟩ := reps2 rs
    cases hx; cases hy; cases e
    exact call_min2 hc pins s σ H _ us Q I r ⟨_, _, rfl, q _ _ (Same.refl H) (.int _)⟩
  · obtain ⟨x, y, rfl, hx, hy⟩ := reps2 rs
    cases hx; cases hy; cases e
    exact call_min2S hc pins s σ H _ us Q I r ⟨_, _, rfl, q _ _ (Same.refl H) (.str _)⟩
  · rename_i z zs
    obtain ⟨x, rfl, a, vs, rfl, h1, r1⟩ := reps1 rs
    cases e1 : intsD (z :: zs) with
    | none => rw [e1] at e; cases e
    | some ns =>
      rw [e1] at e; cases e
      have ev := ints_reps r1 e1
      subst ev
      have hl := intsD_len e1
      have h0 : 0 < ns.length := by rw [hl]; simp
      refine cr_min hc pins s σ H _ us Q I r ⟨a, ns, rfl, .inl h1, h0, fun m k1 k2 => ?_⟩
      rw [minI_spec h0 m k1 k2]
      exact q _ _ (Same.refl H) (.int _)
  · cases e
theorem max_ok (hc : X.calm = true) : CallP X (.builtin "max") maxD := by
  intro pins s σ H xs us Q I r h
  obtain ⟨ds, d, rs, e, q⟩ := h
  unfold maxD at e
  split at e
  · obtain ⟨x, y, rfl, hx, hy⟩ := reps2 rs
    cases hx; cases hy; cases e
    exact call_max2 hc pins s σ H _ us Q I r ⟨_, _, rfl, q _ _ (Same.refl H) (.int _)⟩
  · rename_i z zs
    obtain ⟨x, rfl, a, vs, rfl, h1, r1⟩ := reps1 rs
    cases e1 : intsD (z :: zs) with
    | none => rw [e1] at e; cases e
    | some ns =>
      rw [e1] at e; cases e
      have ev := ints_reps r1 e1
      subst ev
      have hl := intsD_len e1
      have h0 : 0 < ns.length := by rw [hl]; simp
      refine cr_max hc pins s σ H _ us Q I r ⟨a, ns, rfl, .inl h1, h0, fun m k1 k2 => ?_⟩
      rw [maxI_spec h0 m k1 k2]
      exact q _ _ (Same.refl H) (.int _)
  · cases e

/-! ### isinstance -/
theorem ty_rep {K : PySem.W.Frag} {H : Hp} {v : V} {d : D} {a : String} (r : RepR K H v d) (e : tyName d = some a) : TyX K H v (.type a) := by
  cases d <;> simp only [tyName] at e <;> try cases e
  · cases r; exact .base .non
  · cases r; exact .base (.bl _)
  · cases r; exact .base (.int _)
  · cases r; exact .base (.str _)
  · cases r with
    | tup h _ =>
      rcases h with h | ⟨o, its, n, h1, h2, _⟩
      · exact .base (.tup h)
      · exact .kTuple h1 h2
  · obtain ⟨p, vs, rfl, h | ⟨o, h⟩, _⟩ := r
    · exact .base (.lst h)
    · exact .base (.frz h)
  · cases r with
    | dct0 h => exact .fDict h
theorem kit_all : ∀ (d : D) (t : Ty) (a b : String), tyName d = some a → t.name = some b → kitB a b = some (subTy a b) := by
  have k : ∀ a ∈ ["NoneType", "bool", "int", "str", "tuple", "list", "dict"], ∀ b ∈ ["str", "int", "bool", "tuple", "list", "dict"], kitB a b = some (subTy a b) := by decide +kernel
  intro d t a b ha hb
  refine k a ?_ b ?_
  · cases d <;> simp only [tyName] at ha <;> cases ha <;> decide
  · cases t <;> simp only [Ty.name] at hb <;> cases hb <;> decide
theorem isi1_read {K : PySem.W.Frag} {σ : L2.St} {H : Hp} {Q : VK} {m : Env' → M D} {t : Ty} {b : String} (hb : t.name = some b) (h : tE K xc W (fun env => m env >>= fun x => op1 (isiD [t]) x) σ H Q) :
    tE K xc W m σ H fun x H1 => rIsi K [x, .ty b] H1 Q := by
  obtain ⟨w, env, s, rel, p⟩ := h
  refine (tE_of rel p).imp2 fun v H1 ⟨w1, d, s1, g, rel1, r, p1⟩ => ?_
  unfold op1 at p1
  have rr := r.rd rel1.st
  generalize vw s1 d = y at p1 rr
  unfold isiD at p1
  cases e : tyName y with
  | none => simp only [e] at p1; exact p1.elim
  | some a =>
    simp only [e, List.all_cons, List.all_nil, hb, List.any_cons, List.any_nil, Option.isSome_some, Bool.and_true, if_true, Bool.or_false] at p1
    exact ⟨v, .ty b, .type a, .type b, subTy a b, rfl, .ty b, ty_rep rr e, kit_ty (kit_all y t a b e hb), Post.new p1 rel1.st _ _ (Same.refl _) (.bl _)⟩
theorem pd_isi {a te : Expr} {p pos : Pos} {m : Env' → M D} {t : Ty} {b : String} (hg : Gl X "isinstance") (hm : X.mg "isinstance" = none) (hb : t.name = some b) (ha : PE X a (tE X.K xc W m)) (ht : PE X te (tC (.ty b)))
    (he : starEach [a, te] X.env = (false, eval a X.env) :: starEach [te] X.env) (he2 : starEach [te] X.env = [(false, eval te X.env)]) :
    PE X (.Call (.Name "isinstance" p) [a, te] [] pos) (tE X.K xc W fun env => m env >>= fun x => op1 (isiD [t]) x) := by
  have hp : (backTo pos (starEach [te] X.env)).any (·.1) = false := by rw [he2]; rfl
  refine pimp (pe_callB call_isi hg hm (by decide +kernel) (pa_cons ha (pa_cons ht pa_nil he2) he) (by decide) (by decide) he hp) fun σ H Q h => ?_
  exact (isi1_read hb h).imp2 fun v H1 q => q
/-- the types of a tuple of types -/
def tysOf : List Ty → List V
  | [] => []
  | t :: r => .ty (t.name.getD "") :: tysOf r
theorem kit_any {K : PySem.W.Frag} {d : D} {a : String} (e : tyName d = some a) : ∀ {ts : List Ty}, ts.all (fun t => t.name.isSome) = true →
    ∃ us, Paired ClsV (tysOf ts) us ∧ PySem.W.kitAny K (.type a) us = some (ts.any fun t => match t.name with | some b => subTy a b | none => false)
  | [], _ => ⟨[], .nil, rfl⟩
  | t :: ts, h => by
    rw [List.all_cons, Bool.and_eq_true] at h
    obtain ⟨b, hb⟩ := Option.isSome_iff_exists.mp h.1
    obtain ⟨us, h1, h2⟩ := kit_any e h.2
    refine ⟨.type b :: us, ?_, ?_⟩
    · unfold tysOf
      rw [hb]
      exact .cons (.ty b) h1
    · refine kitAny_cons (kit_ty (kit_all d t a b e hb)) (fun z => ?_) fun z => ?_
      · rw [h2, List.any_cons, hb]
        simp only [z, Bool.false_or]
      · rw [List.any_cons, hb]
        simp only [z, Bool.true_or]
theorem pd_isiT {a : Expr} {tes : List Expr} {k : Nat} {p pos pt : Pos} {m : Env' → M D} {ts : List Ty} (hg : Gl X "isinstance") (hm : X.mg "isinstance" = none) (ha : PE X a (tE X.K xc W m)) (ht : PA X tes (fun _ H Q => Q (tysOf ts) H))
    (hl : (tysOf ts).length ≤ sizeLine) (he : starEach [a, .Tuple tes k pt] X.env = (false, eval a X.env) :: starEach [.Tuple tes k pt] X.env) :
    PE X (.Call (.Name "isinstance" p) [a, .Tuple tes k pt] [] pos) (tE X.K xc W fun env => m env >>= fun x => op1 (isiD ts) x) := by
  have he2 : starEach [.Tuple tes k pt] X.env = [(false, eval (.Tuple tes k pt) X.env)] := rfl
  have hp : (backTo pos (starEach [.Tuple tes k pt] X.env)).any (·.1) = false := by rw [he2]; rfl
  refine pimp (pe_callB call_isiT hg hm (by decide +kernel) (pa_cons ha (pa_cons (pe_tup ht) pa_nil he2) he) (by decide) (by decide) he hp) fun σ H Q h => ?_
  obtain ⟨w, env, s, rel, pp⟩ := h
  refine (tE_of rel pp).imp2 fun v H1 ⟨w1, d, s1, g, rel1, r, p1⟩ => ?_
  refine ⟨hl, fun q hq => ?_⟩
  unfold op1 at p1
  have rr := r.rd rel1.st
  generalize vw s1 d = y at p1 rr
  unfold isiD at p1
  cases e : tyName y with
  | none => simp only [e] at p1; exact p1.elim
  | some a =>
    simp only [e] at p1
    by_cases hall : ts.all (fun t => t.name.isSome) = true
    · rw [if_pos hall] at p1
      have sm : Same H1 (upd H1 q (.tup (tysOf ts))) := snew hq
      obtain ⟨us, k1, k2⟩ := kit_any (K := X.K) e hall
      have ty : TyX X.K (upd H1 q (.tup (tysOf ts))) v (.type a) := by
        have rr2 : RepR X.K (upd H1 q (.tup (tysOf ts))) v y := by
          cases y with
          | lst ds =>
            obtain ⟨z, vs, rfl, h, hr⟩ := rr
            exact ⟨z, vs, rfl, h.imp (sm _ _) (fun ⟨o, h⟩ => ⟨o, sm _ _ h⟩), hr.mono (sext sm)⟩
          | own _ => trivial
          | drw => trivial
          | non => exact Rep.mono (sext sm) rr
          | bl _ => exact Rep.mono (sext sm) rr
          | int _ => exact Rep.mono (sext sm) rr
          | str _ => exact Rep.mono (sext sm) rr
          | tup _ => exact Rep.mono (sext sm) rr
          | dct _ _ => exact Rep.mono (sext sm) rr
          | obj _ _ _ => exact Rep.mono (sext sm) rr
        exact ty_rep rr2 e
      exact ⟨v, q, tysOf ts, .type a, us, _, rfl, upd_same, k1, ty, k2, Post.new p1 rel1.st _ _ sm (.bl _)⟩
    · rw [if_neg hall] at p1; exact p1.elim
end
end PI

set_option maxHeartbeats 1000000
/-! PI, part i: what is walked. -/
namespace PI
open PySem L2
/-- an iterator that hands out the things ds, whatever is laid meanwhile -/
structure ItOk (K : PySem.W.Frag) (J : It) (H : Hp) (ds : List D) : Prop where
  go : ∀ (i : Nat) (H' : Hp), Ext H H' → i < ds.length → J.go i H'
  yld : ∀ (i : Nat) (d : D) (H1 : Hp) (x : V) (H2 : Hp), Ext H H1 → ds[i]? = some d → J.yld i H1 x H2 → Same H1 H2 ∧ Rep K H2 x d
  stop : ∀ (i : Nat) (H' : Hp), Ext H H' → ds.length ≤ i → J.stop i H'
section
variable {X : Cx} {xc : XC} {W : WX}
def PostI (K : PySem.W.Frag) (xc : XC) (W : WX) (σ : L2.St) (w : Wd) (H : Hp) (Q : It → Hp → Prop) : R (List D) → Prop
  | .ok ds s' => ∀ J H' w', Go w H w' H' → Sto K w' s' H' → ItOk K J H' ds → Q J H'
  | .exc c f s' => ∀ x v H' w', Go w H w' H' → Sto K w' s' H' → H' x = some (.xd [(xc.fld c, v)]) → Rep K H' v f → W (.ref (xc.cls c)) (some x) σ H'
  | .stuck => False
def tI (K : PySem.W.Frag) (xc : XC) (W : WX) (m : Env' → M (List D)) : TI := fun σ H R => ∃ w env s, Rel K w env s σ H ∧ PostI K xc W σ w H R (m env s)
theorem PostI.mono {K : PySem.W.Frag} {σ : L2.St} {w w1 : Wd} {H H1 : Hp} {Q : It → Hp → Prop} (g : Go w H w1 H1) : ∀ {r : R (List D)}, PostI K xc W σ w H Q r → PostI K xc W σ w1 H1 Q r
  | .ok d s', h => fun v H' w' g' t r => h v H' w' (g.trans g') t r
  | .exc c f s', h => fun x v H' w' g' t e r => h x v H' w' (g.trans g') t e r
  | .stuck, h => h
theorem PostI.bind {K : PySem.W.Frag} {σ : L2.St} {w : Wd} {H : Hp} {Q : It → Hp → Prop} {x : M D} {f : D → M (List D)} {s : SS} (h : PostI K xc W σ w H Q ((x >>= f) s)) :
    Post K xc W σ w H (fun v H1 => ∃ w1 d s1, Go w H w1 H1 ∧ Sto K w1 s1 H1 ∧ RepT K w1 H1 v d ∧ PostI K xc W σ w1 H1 Q (f d s1)) (x s) := by
  rw [M_bind] at h
  unfold M.bnd at h
  cases q : x s with
  | ok d s' =>
    rw [q] at h
    intro v H' w' g t r
    exact ⟨w', d, s', g, t, r, h.mono g⟩
  | exc c f' s' => rw [q] at h; exact h
  | stuck => rw [q] at h; exact h
theorem PostI.bindA {K : PySem.W.Frag} {σ : L2.St} {w : Wd} {H : Hp} {Q : It → Hp → Prop} {x : M (List D)} {f : List D → M (List D)} {s : SS} (h : PostI K xc W σ w H Q ((x >>= f) s)) :
    PostA K xc W σ w H (fun vs H1 => ∃ w1 ds s1, Go w H w1 H1 ∧ Sto K w1 s1 H1 ∧ RepTs K w1 H1 vs ds ∧ PostI K xc W σ w1 H1 Q (f ds s1)) (x s) := by
  rw [M_bind] at h
  unfold M.bnd at h
  cases q : x s with
  | ok d s' =>
    rw [q] at h
    intro v H' w' g t r
    exact ⟨w', d, s', g, t, r, h.mono g⟩
  | exc c f' s' => rw [q] at h; exact h
  | stuck => rw [q] at h; exact h
theorem piimp {tg e : Expr} {t t' : TI} (h : PI X tg e t) (hi : ∀ σ H Q, t' σ H Q → t σ H Q) : PI X tg e t' :=
  ⟨fun pins s σ H Q I q => h.run pins s σ H Q I (hi σ H Q q)⟩

theorem it_list {K : PySem.W.Frag} {H : Hp} {a : Addr} {vs : List V} {ds : List D} (h : FzL H a vs) (r : Reps K H vs ds) : ItOk K (Itl K a) H ds where
  go := fun i H' x hi => by
    obtain ⟨v, e, _⟩ := r.get (List.getElem?_eq_getElem hi)
    exact ⟨vs, v, (h.mono x).sq, e⟩
  yld := fun i d H1 v H2 x e y => by
    obtain ⟨e1, y⟩ := y
    subst e1
    obtain ⟨u, e2, ru⟩ := r.get e
    have e3 := y vs (h.mono x).sq
    rw [e2] at e3
    cases e3
    exact ⟨Same.refl _, ru.mono x⟩
  stop := fun i H' x hi => ⟨vs, (h.mono x).sq, by rw [r.length]; exact hi⟩
theorem it_tup {K : PySem.W.Frag} {H : Hp} {a : Addr} {vs : List V} {ds : List D} (h : FzT K H a vs) (r : Reps K H vs ds) : ItOk K (Itt K a) H ds where
  go := fun i H' x hi => by
    obtain ⟨v, e, _⟩ := r.get (List.getElem?_eq_getElem hi)
    exact ⟨vs, v, (h.mono x).sq, e⟩
  yld := fun i d H1 v H2 x e y => by
    obtain ⟨e1, y⟩ := y
    subst e1
    obtain ⟨u, e2, ru⟩ := r.get e
    have e3 := y vs (h.mono x).sq
    rw [e2] at e3
    cases e3
    exact ⟨Same.refl _, ru.mono x⟩
  stop := fun i H' x hi => ⟨vs, (h.mono x).sq, by rw [r.length]; exact hi⟩
theorem it_str {K : PySem.W.Frag} {H : Hp} (z : Str) : ItOk K (Its z) H (z.cps.toList.map fun c => .str ⟨#[c]⟩) where
  go := fun i H' x hi => by
    show i < z.cps.size
    simpa using hi
  yld := fun i d H1 v H2 x e y => by
    obtain ⟨e1, c, e2, e3⟩ := y
    subst e1 e3
    rw [List.getElem?_map, Array.getElem?_toList, e2] at e
    cases e
    exact ⟨Same.refl _, .str _⟩
  stop := fun i H' x hi => by
    show z.cps.size ≤ i
    simpa using hi
theorem it_rng {K : PySem.W.Frag} {H : Hp} (lo hi : Int) : ItOk K (Itr lo (hi - lo).toNat) H (rangeL lo hi) where
  go := fun i H' x h => by
    show i < (hi - lo).toNat
    simpa [rangeL] using h
  yld := fun i d H1 v H2 x e y => by
    obtain ⟨e1, e2⟩ := y
    subst e1 e2
    unfold rangeL at e
    rw [List.getElem?_map] at e
    cases q : (List.range (hi - lo).toNat)[i]? with
    | none => rw [q] at e; cases e
    | some k =>
      rw [q] at e; cases e
      obtain ⟨h1, h2⟩ := List.getElem?_eq_some_iff.mp q
      rw [List.getElem_range] at h2
      subst h2
      exact ⟨Same.refl _, .int _⟩
  stop := fun i H' x h => by
    show (hi - lo).toNat ≤ i
    simpa [rangeL] using h
theorem zip_get {xs ys : List D} {i : Nat} {d : D} (e : ((xs.zip ys).map fun p : D × D => D.tup [p.1, p.2])[i]? = some d) : ∃ x y, xs[i]? = some x ∧ ys[i]? = some y ∧ d = .tup [x, y] := by
  rw [List.getElem?_map] at e
  cases q : (xs.zip ys)[i]? with
  | none => rw [q] at e; cases e
  | some p =>
    rw [q] at e; cases e
    obtain ⟨h1, h2⟩ := List.getElem?_zip_eq_some.mp q
    exact ⟨_, _, h1, h2, rfl⟩
theorem it_zipT {K : PySem.W.Frag} {H : Hp} {a b : Addr} {vs us : List V} {ds es : List D} (h : FzT K H a vs) (r : Reps K H vs ds) (h' : FzT K H b us) (r' : Reps K H us es) : ItOk K (RZ.ItzT K a b) H ((ds.zip es).map fun p => .tup [p.1, p.2]) where
  go := fun i H' x hi => by
    rw [List.length_map, List.length_zip] at hi
    obtain ⟨v, e, _⟩ := r.get (List.getElem?_eq_getElem (show i < ds.length by omega))
    obtain ⟨u, e', _⟩ := r'.get (List.getElem?_eq_getElem (show i < es.length by omega))
    exact ⟨vs, us, v, u, (h.mono x).sq, (h'.mono x).sq, e, e'⟩
  yld := fun i d H1 v H2 x e y => by
    obtain ⟨T, v1, v2, rfl, hT, rfl, y1, y2⟩ := y
    obtain ⟨d1, d2, q1, q2, rfl⟩ := zip_get e
    obtain ⟨u1, k1, ru1⟩ := r.get q1
    obtain ⟨u2, k2, ru2⟩ := r'.get q2
    have z1 := y1 vs (h.mono x).sq
    have z2 := y2 us (h'.mono x).sq
    rw [k1] at z1
    rw [k2] at z2
    cases z1; cases z2
    have sm : Same H1 (upd H1 T (.tup [v1, v2])) := snew hT
    exact ⟨sm, .tup (.inl upd_same) (.cons ((ru1.mono x).mono (sext sm)) (.cons ((ru2.mono x).mono (sext sm)) .nil))⟩
  stop := fun i H' x hi => by
    rw [List.length_map, List.length_zip] at hi
    refine ⟨vs, us, (h.mono x).sq, (h'.mono x).sq, ?_⟩
    rw [r.length, r'.length]; omega
theorem it_zipL {K : PySem.W.Frag} {H : Hp} {a b : Addr} {vs us : List V} {ds es : List D} (h : FzL H a vs) (r : Reps K H vs ds) (h' : FzL H b us) (r' : Reps K H us es) : ItOk K (Itz K a b) H ((ds.zip es).map fun p => .tup [p.1, p.2]) where
  go := fun i H' x hi => by
    rw [List.length_map, List.length_zip] at hi
    obtain ⟨v, e, _⟩ := r.get (List.getElem?_eq_getElem (show i < ds.length by omega))
    obtain ⟨u, e', _⟩ := r'.get (List.getElem?_eq_getElem (show i < es.length by omega))
    exact ⟨vs, us, v, u, (h.mono x).sq, (h'.mono x).sq, e, e'⟩
  yld := fun i d H1 v H2 x e y => by
    obtain ⟨T, v1, v2, rfl, hT, rfl, y1, y2⟩ := y
    obtain ⟨d1, d2, q1, q2, rfl⟩ := zip_get e
    obtain ⟨u1, k1, ru1⟩ := r.get q1
    obtain ⟨u2, k2, ru2⟩ := r'.get q2
    have z1 := y1 vs (h.mono x).sq
    have z2 := y2 us (h'.mono x).sq
    rw [k1] at z1
    rw [k2] at z2
    cases z1; cases z2
    have sm : Same H1 (upd H1 T (.tup [v1, v2])) := snew hT
    exact ⟨sm, .tup (.inl upd_same) (.cons ((ru1.mono x).mono (sext sm)) (.cons ((ru2.mono x).mono (sext sm)) .nil))⟩
  stop := fun i H' x hi => by
    rw [List.length_map, List.length_zip] at hi
    refine ⟨vs, us, (h.mono x).sq, (h'.mono x).sq, ?_⟩
    rw [r.length, r'.length]; omega
theorem enumL_len : ∀ (k : Nat) (xs : List D), (enumL k xs).length = xs.length
  | _, [] => rfl
  | k, x :: xs => by simp [enumL, enumL_len (k + 1) xs]
theorem enumL_get : ∀ (k : Nat) (xs : List D) (i : Nat) (d : D), (enumL k xs)[i]? = some d → ∃ x, xs[i]? = some x ∧ d = .tup [.int ((k + i : Nat) : Int), x]
  | _, [], _, _, e => by simp [enumL] at e
  | k, x :: xs, 0, d, e => by
    simp [enumL] at e
    exact ⟨x, rfl, e.symm⟩
  | k, x :: xs, i + 1, d, e => by
    simp only [enumL, List.getElem?_cons_succ] at e
    obtain ⟨y, h1, h2⟩ := enumL_get (k + 1) xs i d e
    refine ⟨y, by simpa using h1, ?_⟩
    rw [h2]
    have : k + 1 + i = k + (i + 1) := by omega
    rw [this]
theorem it_enum {K : PySem.W.Frag} {H : Hp} {a : Addr} {vs : List V} {ds : List D} (h : FzL H a vs) (r : Reps K H vs ds) : ItOk K (Ite K a) H (enumL 0 ds) where
  go := fun i H' x hi => by
    rw [enumL_len] at hi
    obtain ⟨v, e, _⟩ := r.get (List.getElem?_eq_getElem hi)
    exact ⟨vs, v, (h.mono x).sq, e⟩
  yld := fun i d H1 v H2 x e y => by
    obtain ⟨T, v1, rfl, hT, rfl, y1⟩ := y
    obtain ⟨d1, q1, rfl⟩ := enumL_get 0 ds i d e
    obtain ⟨u1, k1, ru1⟩ := r.get q1
    have z1 := y1 vs (h.mono x).sq
    rw [k1] at z1
    cases z1
    have sm : Same H1 (upd H1 T (.tup [.int (i : Nat), v1])) := snew hT
    refine ⟨sm, .tup (.inl upd_same) (.cons ?_ (.cons ((ru1.mono x).mono (sext sm)) .nil))⟩
    rw [Nat.zero_add]; exact .int _
  stop := fun i H' x hi => by
    rw [enumL_len] at hi
    exact ⟨vs, (h.mono x).sq, by rw [r.length]; exact hi⟩

/-- a list, a tuple or a text is walked -/
theorem pdi_walk {tg e : Expr} {m : Env' → M D} (he : PE X e (tE X.K xc W m)) : PI X tg e (tI X.K xc W fun env => walkM (m env)) := by
  refine ⟨fun pins s σ H R I ⟨w, env, ss, rel, p⟩ => ?_⟩
  have key : PE X e fun σ H Q => tE X.K xc W m σ H (FrO Q) := pfro he
  refine thn (key.run pins s σ H (fun v H1 => ∃ w1 d s1, Go w H w1 H1 ∧ Sto X.K w1 s1 H1 ∧ RepT X.K w1 H1 v d ∧ PostI X.K xc W σ w1 H1 R (M.opt (itemsD d) s1)) I ?_) fun v s1 ⟨x, H1, I1, r1, w1, d, s2, g, t, r, p1⟩ => ?_
  · refine ⟨w, env, ss, rel, (PostI.bind p).imp fun v H1 ⟨w1, d, s1, g, t, r, p1⟩ => ?_⟩
    have q := frz_read (K := X.K) (PQ := fun w H r => PostI X.K xc W σ w H R r) (fun g h => h.mono g) (fun _ _ h => h) t r p1
    rcases q with ⟨w2, d2, s2, g2, rest⟩ | ⟨a, xs, e1, e2, q⟩
    · exact .inl ⟨w2, d2, s2, g.trans g2, rest⟩
    · refine .inr ⟨a, xs, e1, e2, fun o => ?_⟩
      obtain ⟨w2, d2, s2, g2, rest⟩ := q o
      exact ⟨w2, d2, s2, g.trans g2, rest⟩
  · cases d with
    | tup ds =>
      cases r with
      | @tup a vs _ h rs =>
      cases r1
      obtain ⟨its, rv, pt, hz⟩ := I1.tuple h.sq
      refine wpAny_pyIter_tuple (show s1.heap.IsTuple a its.toArray from pt) ?_
      refine ⟨s1.heap.objs.size, [s1.heap.objs.size], _, _, H1, rfl, I1.kept (t' := s1.toks) fun b o e => Heap.get?_push_of_some _ e, turn_tuple a _, ⟨_, Heap.get?_push_size _ rfl, rfl, rfl⟩, fun b hb => ?_, p1 _ H1 w1 (Go.refl _ _) t (it_tup h rs)⟩
      have e : b = s1.heap.objs.size := by simpa using hb
      subst e
      exact I1.fpOk (Nat.le_refl _) (I1.hok.fresh (Nat.le_refl _))
    | lst ds =>
      cases r with
      | @lst a vs _ h rs =>
      cases r1
      obtain ⟨its, rv, pl, hz⟩ := I1.list (show SqL X.K H1 a vs from h.sq)
      refine wpAny_pyIter_list pl.isList ?_
      refine ⟨s1.heap.objs.size, [s1.heap.objs.size], _, _, H1, rfl, I1.kept (t' := s1.toks) fun b o e => Heap.get?_push_of_some _ e, turn_list a _, ⟨_, Heap.get?_push_size _ rfl, rfl, rfl⟩, fun b hb => ?_, p1 _ H1 w1 (Go.refl _ _) t (it_list h rs)⟩
      have e : b = s1.heap.objs.size := by simpa using hb
      subst e
      exact I1.fpOk (Nat.le_refl _) (I1.hok.fresh (Nat.le_refl _))
    | str z =>
      cases r
      obtain ⟨tk, rfl⟩ := r1
      have q := p1 (Its z) H1 w1 (Go.refl _ _) t (it_str z)
      cases ha : z.cps.all (· < 128)
      · exact wpAny_pyIter_wide ha (pi_one (tk := s1.toks) I1 _ (turn_str _ z tk "str_iterator" (.inr rfl)) ⟨_, Heap.get?_push_size _ rfl, rfl, rfl⟩ q)
      · exact wpAny_pyIter_ascii ha (pi_one (tk := s1.toks) I1 _ (turn_str _ z tk "str_ascii_iterator" (.inl rfl)) ⟨_, Heap.get?_push_size _ rfl, rfl, rfl⟩ q)
    | _ => exact p1.elim
theorem inR_ok {i : Int} (h : inR i = true) : -(2 ^ 62) ≤ i ∧ i < 2 ^ 62 := by
  unfold inR at h
  rw [Bool.and_eq_true, decide_eq_true_eq, decide_eq_true_eq] at h
  exact h
theorem int_ts {K : PySem.W.Frag} {w : Wd} {H : Hp} {vs : List V} {i : Int} (r : RepTs K w H vs [.int i]) : vs = [.int i] := by
  cases r with
  | cons h r => cases r; cases h; rfl
theorem int_ts2 {K : PySem.W.Frag} {w : Wd} {H : Hp} {vs : List V} {i j : Int} (r : RepTs K w H vs [.int i, .int j]) : vs = [.int i, .int j] := by
  cases r with
  | cons h r => cases r with
    | cons h2 r => cases r; cases h; cases h2; rfl
theorem pdi_rng1 {tg a : Expr} {p pos : Pos} {ms : Env' → M (List D)} (hg : Gl X "range") (hm : X.mg "range" = none) (ha : PA X [a] (tA X.K xc W ms)) (hs : starEach [a] X.env = [(false, eval a X.env)]) (h1 : ∀ env s ds s', ms env s = .ok ds s' → ds.length = 1) :
    PI X tg (.Call (.Name "range" p) [a] [] pos) (tI X.K xc W fun env => rangeM (ms env)) :=
  piimp (pi_range1 hg hm ha hs) fun σ H R ⟨w, env, s, rel, p⟩ => by
    refine ⟨w, env, s, rel, ?_⟩
    have b := PostI.bindA p
    cases q : ms env s with
    | ok ds s' =>
      rw [q] at b
      have hl := h1 env s ds s' q
      match ds, hl with
      | [d], _ =>
        intro vs H1 w1 g t r
        obtain ⟨w2, ds2, s2, g2, t2, r2, p2⟩ := b vs H1 w1 g t r
        have p' : PostI X.K xc W σ w H R (M.bnd (ms env) _ s) := p
        unfold M.bnd at p'
        rw [q] at p'
        cases d with
        | int j =>
          dsimp only at p'
          by_cases hj : inR j = true
          · rw [if_pos hj] at p'
            have e := int_ts r
            subst e
            obtain ⟨k1, k2⟩ := inR_ok hj
            refine ⟨j, rfl, k1, k2, ?_⟩
            have z := it_rng (K := X.K) (H := H1) 0 j
            rw [Int.sub_zero] at z
            exact p' _ H1 w1 g t z
          · rw [if_neg hj] at p'; exact p'.elim
        | _ => exact p'.elim
    | exc c f s' => rw [q] at b; exact b
    | stuck => rw [q] at b; exact b
theorem pdi_rng2 {tg a c : Expr} {p pos : Pos} {ms : Env' → M (List D)} (hg : Gl X "range") (hm : X.mg "range" = none) (ha : PA X [a, c] (tA X.K xc W ms)) (hs : starEach [a, c] X.env = [(false, eval a X.env), (false, eval c X.env)])
    (hs2 : starEach [c] X.env = [(false, eval c X.env)]) (h1 : ∀ env s ds s', ms env s = .ok ds s' → ds.length = 2) :
    PI X tg (.Call (.Name "range" p) [a, c] [] pos) (tI X.K xc W fun env => rangeM (ms env)) :=
  piimp (pi_range2 hg hm ha hs hs2) fun σ H R ⟨w, env, s, rel, p⟩ => by
    refine ⟨w, env, s, rel, ?_⟩
    have p' : PostI X.K xc W σ w H R (M.bnd (ms env) _ s) := p
    unfold M.bnd at p'
    cases q : ms env s with
    | ok ds s' =>
      rw [q] at p'
      have hl := h1 env s ds s' q
      match ds, hl with
      | [d, d2], _ =>
        intro vs H1 w1 g t r
        cases d with
        | int i =>
          cases d2 with
          | int j =>
            dsimp only at p'
            by_cases hj : (inR i && inR j) = true
            · rw [if_pos hj] at p'
              rw [Bool.and_eq_true] at hj
              have e := int_ts2 r
              subst e
              obtain ⟨k1, k2⟩ := inR_ok hj.1
              obtain ⟨k3, k4⟩ := inR_ok hj.2
              exact ⟨i, j, rfl, ⟨k1, k2, k3, k4⟩, p' _ H1 w1 g t (it_rng i j)⟩
            · rw [if_neg hj] at p'; exact p'.elim
          | _ => exact p'.elim
        | _ => exact p'.elim
    | exc c f s' => rw [q] at p'; exact p'
    | stuck => rw [q] at p'; exact p'
theorem pdi_zip {a c : Expr} {p pos tpos : Pos} {elts : List Expr} {kk : Nat} {ms : Env' → M (List D)} (hg : Gl X "zip") (hm : X.mg "zip" = none) (ha : PA X [a, c] (tA X.K xc W ms)) (hs : starEach [a, c] X.env = (false, eval a X.env) :: starEach [c] X.env)
    (hpl : (backTo pos (starEach [c] X.env)).any (·.1) = false) : PI X (.Tuple elts kk tpos) (.Call (.Name "zip" p) [a, c] [] pos) (tI X.K xc W fun env => zipM (ms env)) :=
  piimp (RZ.pi_zipA hg hm ha hs hpl) fun σ H R ⟨w, env, s, rel, p⟩ => by
    refine ⟨w, env, s, rel, ?_⟩
    have p' : PostI X.K xc W σ w H R (M.bnd (ms env) _ s) := p
    unfold M.bnd at p'
    cases q : ms env s with
    | ok ds s' =>
      rw [q] at p'
      dsimp only at p'
      intro vs H1 w1 g t r
      split at p'
      · cases r with
        | cons h r => cases r with
          | cons h2 r => cases r; cases h with
            | tup h r1 => cases h2 with
              | tup h2 r2 => exact ⟨_, _, _, _, rfl, .inr ⟨h.sq, h2.sq, p' _ H1 w1 g t (it_zipT h r1 h2 r2)⟩⟩
      · cases r with
        | cons h r => cases r with
          | cons h2 r => cases r; cases h with
            | lst h r1 => cases h2 with
              | lst h2 r2 => exact ⟨_, _, _, _, rfl, .inl ⟨h.sq, h2.sq, p' _ H1 w1 g t (it_zipL h r1 h2 r2)⟩⟩
      · exact p'.elim
    | exc c f s' => rw [q] at p'; exact p'
    | stuck => rw [q] at p'; exact p'
theorem pdi_enum {a : Expr} {p pos tpos : Pos} {elts : List Expr} {kk : Nat} {ms : Env' → M (List D)} (hg : Gl X "enumerate") (hm : X.mg "enumerate" = none) (ha : PA X [a] (tA X.K xc W ms)) (hs : starEach [a] X.env = [(false, eval a X.env)]) :
    PI X (.Tuple elts kk tpos) (.Call (.Name "enumerate" p) [a] [] pos) (tI X.K xc W fun env => enumM (ms env)) :=
  piimp (pi_enum hg hm ha hs) fun σ H R ⟨w, env, s, rel, p⟩ => by
    refine ⟨w, env, s, rel, ?_⟩
    have p' : PostI X.K xc W σ w H R (M.bnd (ms env) _ s) := p
    unfold M.bnd at p'
    cases q : ms env s with
    | ok ds s' =>
      rw [q] at p'
      dsimp only at p'
      intro vs H1 w1 g t r
      split at p'
      · cases r with
        | cons h r => cases r; cases h with
          | lst h r1 => exact ⟨_, _, rfl, h.sq, p' _ H1 w1 g t (it_enum h r1)⟩
      · exact p'.elim
    | exc c f s' => rw [q] at p'; exact p'
    | stuck => rw [q] at p'; exact p'
end
end PI

set_option maxHeartbeats 1000000
/-! PI, part j: targets, comprehensions. -/
namespace PI
open PySem L2
/-- slots but those of l are kept -/
structure Frm (l : List Nat) (σ σ' : L2.St) : Prop where
  len : σ'.length = σ.length
  kp : ∀ j : Nat, j ∉ l → σ'[j]? = σ[j]?
theorem Frm.refl (l : List Nat) (σ : L2.St) : Frm l σ σ := ⟨rfl, fun _ _ => rfl⟩
theorem Frm.trans {l : List Nat} {σ σ1 σ2 : L2.St} (a : Frm l σ σ1) (b : Frm l σ1 σ2) : Frm l σ σ2 := ⟨b.len.trans a.len, fun j h => (b.kp j h).trans (a.kp j h)⟩
theorem Frm.mono {l l' : List Nat} {σ σ' : L2.St} (a : Frm l σ σ') (h : ∀ j ∈ l, j ∈ l') : Frm l' σ σ' := ⟨a.len, fun j hj => a.kp j fun z => hj (h j z)⟩
section
variable {X : Cx} {xc : XC} {W : WX}
def tG (K : PySem.W.Frag) (t : T) : TG := fun v σ H Q => ∃ w env s d env', Rel K w env s σ H ∧ RepT K w H v d ∧ asgT t d env = some env' ∧ ∀ σ', Rel K w env' s σ' H → Frm (slotsT t) σ σ' → Q σ' H
def tGs (K : PySem.W.Frag) (ts : List T) : TGs := fun vs σ H Q => ∃ w env s ds env', Rel K w env s σ H ∧ RepTs K w H vs ds ∧ asgTs ts ds env = some env' ∧ ∀ σ', Rel K w env' s σ' H → Frm (slotsTs ts) σ σ' → Q σ' H
theorem pgimp {e : Expr} {t t' : TG} (h : PG X e t) (hi : ∀ v σ H Q, t' v σ H Q → t v σ H Q) : PG X e t' :=
  ⟨fun pins s σ H v u Q I r q => h.run pins s σ H v u Q I r (hi v σ H Q q)⟩
theorem pgsimp {e : List Expr} {t t' : TGs} (h : PGs X e t) (hi : ∀ v σ H Q, t' v σ H Q → t v σ H Q) : PGs X e t' :=
  ⟨fun pins s σ H v u Q I r q => h.run pins s σ H v u Q I r (hi v σ H Q q)⟩
theorem Rel.set {K : PySem.W.Frag} {w : Wd} {env : Env'} {s : SS} {σ : L2.St} {H : Hp} {i : Nat} {v : V} {d : D} (r : Rel K w env s σ H) (q : RepT K w H v d) : Rel K w (env.set i (some d)) s (σ.set i (some v)) H := by
  refine ⟨by rw [List.length_set, List.length_set]; exact r.len, fun j e h => ?_, r.st⟩
  by_cases hj : i = j
  · subst hj
    have hi : i < env.length := by
      have := (List.getElem?_eq_some_iff.mp h).1
      rwa [List.length_set] at this
    rw [List.getElem?_set_self hi] at h
    cases h
    exact ⟨v, List.getElem?_set_self (by rw [← r.len]; exact hi), q⟩
  · rw [List.getElem?_set_ne hj] at h
    rw [List.getElem?_set_ne hj]
    exact r.sl j e h
theorem frm_set (σ : L2.St) (i : Nat) (v : Option V) : Frm [i] σ (σ.set i v) := ⟨List.length_set, fun j h => List.getElem?_set_ne fun z => h (by rw [z]; exact List.mem_singleton.mpr rfl)⟩
theorem pdg_nm {x : Str} {pos : Pos} {i : Nat} (h : PG X (.Name x pos) (gName i)) : PG X (.Name x pos) (tG X.K (.nm i)) :=
  pgimp h fun v σ H Q ⟨w, env, s, d, env', rel, r, e, q⟩ => by
    unfold asgT at e
    split at e
    · cases e
      exact q _ (rel.set r) (by unfold slotsT; exact frm_set σ i _)
    · cases e
theorem pdgs_nil : PGs X [] (tGs X.K []) :=
  pgsimp pgs_nil fun vs σ H Q ⟨w, env, s, ds, env', rel, r, e, q⟩ => by
    cases ds with
    | nil =>
      cases r
      unfold asgTs at e
      cases e
      exact ⟨rfl, q σ rel (Frm.refl _ σ)⟩
    | cons d ds => unfold asgTs at e; cases e
theorem pdgs_cons {e : Expr} {es : List Expr} {t : T} {ts : List T} (h1 : PG X e (tG X.K t)) (h2 : PGs X es (tGs X.K ts)) (hs : (assignEach (e :: es) X.env).map (·.2) = assign e X.env :: (assignEach es X.env).map (·.2)) : PGs X (e :: es) (tGs X.K (t :: ts)) :=
  pgsimp (pgs_cons h1 h2 hs) fun vs σ H Q ⟨w, env, s, ds, env', rel, r, e, q⟩ => by
    cases r with
    | nil => unfold asgTs at e; cases e
    | @cons v vs d ds rv rs =>
      unfold asgTs at e
      obtain ⟨env1, e1, e2⟩ := Option.bind_eq_some_iff.mp e
      refine ⟨v, vs, rfl, w, env, s, d, env1, rel, rv, e1, fun σ1 rel1 f1 => ?_⟩
      refine ⟨w, env1, s, ds, env', rel1, rs, e2, fun σ2 rel2 f2 => q σ2 rel2 ?_⟩
      unfold slotsTs
      exact (f1.mono fun j h => List.mem_append_left _ h).trans (f2.mono fun j h => List.mem_append_right _ h)
theorem asgTs_len : ∀ {ts : List T} {ds : List D} {env env' : Env'}, asgTs ts ds env = some env' → ds.length = ts.length
  | [], [], _, _, _ => rfl
  | [], _ :: _, _, _, e => by unfold asgTs at e; cases e
  | _ :: _, [], _, _, e => by unfold asgTs at e; cases e
  | t :: ts, d :: ds, env, env', e => by
    unfold asgTs at e
    obtain ⟨env1, e1, e2⟩ := Option.bind_eq_some_iff.mp e
    simp [asgTs_len e2]
theorem pdg_tup {es : List Expr} {k : Nat} {pos : Pos} {ts : List T} (hc : X.calm = true) (h : PGs X es (tGs X.K ts)) (hn : (assignEach es X.env).length = ts.length) (hst : (assignEach es X.env).findIdx? (·.1) = none) : PG X (.Tuple es k pos) (tG X.K (.tup ts)) :=
  pgimp (pg_tup hc h hn hst) fun v σ H Q ⟨w, env, s, d, env', rel, r, e, q⟩ => by
    cases d with
    | tup ds =>
      cases r with
      | tup hf rs =>
      unfold asgT at e
      refine ⟨_, _, rfl, hf.sq, ?_, w, env, s, ds, env', rel, rs.ts, e, fun σ' rel' f => q σ' rel' (by unfold slotsT; exact f)⟩
      rw [rs.length, asgTs_len e]
    | _ => unfold asgT at e; cases e

/-! ### the block of a comprehension -/
theorem wipeE_len (env : Env') : ∀ vs : List Nat, (wipeE env vs).length = env.length
  | [] => rfl
  | v :: vs => by unfold wipeE; rw [List.length_set, wipeE_len env vs]
theorem wipeE_some {env : Env'} {i : Nat} {d : D} : ∀ {vs : List Nat}, (wipeE env vs)[i]? = some (some d) → env[i]? = some (some d) ∧ i ∉ vs
  | [], h => ⟨h, by simp⟩
  | v :: vs, h => by
    unfold wipeE at h
    by_cases hi : v = i
    · subst hi
      by_cases hv : v < (wipeE env vs).length
      · rw [List.getElem?_set_self hv] at h; cases h
      · rw [List.getElem?_eq_none (by simpa using hv)] at h; cases h
    · rw [List.getElem?_set_ne hi] at h
      obtain ⟨h1, h2⟩ := wipeE_some h
      exact ⟨h1, by simp only [List.mem_cons, not_or]; exact ⟨fun e => hi e.symm, h2⟩⟩
theorem wipe_get {σ : L2.St} {i : Nat} : ∀ {vs : List Nat}, i ∉ vs → (wipe σ vs)[i]? = σ[i]?
  | [], _ => rfl
  | v :: vs, h => by
    simp only [List.mem_cons, not_or] at h
    unfold wipe
    rw [List.getElem?_set_ne (fun e => h.1 e.symm), wipe_get h.2]
theorem Rel.wipe {K : PySem.W.Frag} {w : Wd} {env : Env'} {s : SS} {σ : L2.St} {H : Hp} (r : Rel K w env s σ H) (vs : List Nat) : Rel K w (wipeE env vs) s (wipe σ vs) H := by
  refine ⟨by rw [wipeE_len, wipe_length]; exact r.len, fun i d h => ?_, r.st⟩
  obtain ⟨h1, h2⟩ := wipeE_some h
  rw [wipe_get h2]
  exact r.sl i d h1
theorem wipe_mem {σ : L2.St} {i : Nat} : ∀ {vs : List Nat}, i ∈ vs → i < σ.length → (wipe σ vs)[i]? = some none
  | v :: vs, h, hl => by
    unfold wipe
    by_cases hi : v = i
    · subst hi
      exact List.getElem?_set_self (by rw [wipe_length]; exact hl)
    · rw [List.getElem?_set_ne hi]
      rcases List.mem_cons.mp h with e | h
      · exact absurd e.symm hi
      · exact wipe_mem h hl
/-- the block's own slots alone have changed -/
theorem wipe_frm {vs : List Nat} {σ σ' : L2.St} (f : Frm vs σ σ') : wipe σ' vs = wipe σ vs := by
  apply List.ext_getElem?
  intro i
  by_cases hi : i ∈ vs
  · by_cases hl : i < σ.length
    · rw [wipe_mem hi hl, wipe_mem hi (by rw [f.len]; exact hl)]
    · rw [List.getElem?_eq_none (by rw [wipe_length, f.len]; omega), List.getElem?_eq_none (by rw [wipe_length]; omega)]
  · rw [wipe_get hi, wipe_get hi, f.kp i hi]
theorem wipe_wipe (σ : L2.St) (vs : List Nat) : wipe (wipe σ vs) vs = wipe σ vs :=
  wipe_frm ⟨wipe_length _ _, fun j h => wipe_get h⟩
/-- what may change is there -/
theorem ws_some {K : PySem.W.Frag} {w : Wd} {s : SS} {H : Hp} (t : Sto K w s H) {a : Addr} (h : a ∈ w.ws) : ∃ o, H a = some o := by
  unfold Wd.ws at h
  rcases List.mem_append.mp h with h | h
  · have hm := t.m
    cases em : w.m with
    | none => rw [em] at h; cases h
    | some p =>
      obtain ⟨am, al⟩ := p
      rw [em] at h hm
      cases es : s.m with
      | none => rw [es] at hm; exact hm.elim
      | some m =>
        rw [es] at hm
        obtain ⟨cc, h1, h2, h3, h4⟩ := hm
        simp at h
        rcases h with rfl | rfl
        · exact ⟨_, h1⟩
        · exact ⟨_, h3⟩
  · obtain ⟨i, hi, e⟩ := List.getElem_of_mem h
    have hs : i < s.cs.length := by rw [← t.len]; exact hi
    have hc := t.cs i a _ (by rw [← e]; exact List.getElem?_eq_getElem hi) (List.getElem?_eq_getElem hs)
    generalize s.cs[i] = c at hc
    obtain ⟨fz, oc⟩ := c
    cases oc with
    | lst xs =>
      cases fz with
      | false => obtain ⟨vs, h1, _⟩ := hc; exact ⟨_, h1⟩
      | true => obtain ⟨vs, o, h1, _⟩ := hc; exact ⟨_, h1⟩
    | dct _ _ => cases fz <;> exact hc.elim
    | ins _ _ _ => cases fz <;> exact hc.elim
/-- an address that is not among what may change stays outside -/
theorem Go.out {w w' : Wd} {H H' : Hp} (g : Go w H w' H') {a : Addr} {o : HO} (e : H a = some o) (n : a ∉ w.ws) : a ∉ w'.ws := fun h => by
  rcases g.gr a h with z | z
  · exact n z
  · rw [z] at e; cases e

/-- a turn's reading: the target, the test, the element -/
theorem turn_read {K : PySem.W.Frag} {σ : L2.St} {vs : List Nat} {t : T} {tst el : Env' → M D} {w : Wd} {env : Env'} {s : SS} {H : Hp} {x : V} {d : D} {QY : V → Hp → Prop} {QN : Hp → Prop}
    (hsub : ∀ j ∈ slotsT t, j ∈ vs) (rel : Rel K w env s (wipe σ vs) H) (rx : Rep K H x d)
    (p : match turnM t tst el env d s with
      | .ok (some y) s' => ∀ v H' w', Go w H w' H' → Sto K w' s' H' → Rep K H' v y → QY v H'
      | .ok none s' => ∀ H' w', Go w H w' H' → Sto K w' s' H' → QN H'
      | _ => False) :
    tG K t x (wipe σ vs) H fun σ2 H2 => wipe σ2 vs = wipe σ vs ∧ tTst K xc (fun _ _ _ _ => False) tst σ2 H2 fun b H3 =>
      if b = true then tE K xc (fun _ _ _ _ => False) (fun env => el env >>= frz) σ2 H3 fun y H4 => QY y H4
      else QN H3 := by
  unfold turnM at p
  cases e : asgT t d env with
  | none => simp only [e] at p; exact p.elim
  | some env' =>
    simp only [e] at p
    refine ⟨w, env, s, d, env', rel, .of rx, e, fun σ2 rel2 f => ⟨?_, ?_⟩⟩
    · rw [wipe_frm (f.mono hsub), wipe_wipe]
    · refine ⟨w, env', s, rel2, ?_⟩
      unfold iteM at p
      rw [M_bind] at p
      unfold M.bnd at p
      cases q : tst env' s with
      | ok b s1 =>
        rw [q] at p
        intro v H3 w3 g3 t3 r3
        cases b with
        | bl b =>
          refine ⟨b, bl_of r3, ?_⟩
          cases b with
          | true =>
            dsimp only at p
            rw [if_pos rfl]
            refine ⟨w3, env', s1, rel2.go g3 t3, ?_⟩
            show Post K xc (fun _ _ _ _ => False) σ2 w3 H3 _ (M.bnd (el env') frz s1)
            rw [M_bind] at p
            unfold M.bnd at p ⊢
            cases q2 : el env' s1 with
            | ok y s2 =>
              rw [q2] at p
              dsimp only at p ⊢
              rw [M_bind] at p
              unfold M.bnd at p
              cases q3 : frz y s2 with
              | ok z s3 =>
                rw [q3] at p
                dsimp only at p ⊢
                by_cases hz : pureB z = true
                · rw [if_pos hz] at p
                  intro u H4 w4 g4 t4 r4
                  have r4' := RepT.pure hz r4
                  exact p u H4 w4 (g3.trans g4) t4 r4'
                · rw [if_neg hz] at p; exact p.elim
              | exc _ _ _ => rw [q3] at p; exact p.elim
              | stuck => rw [q3] at p; exact p.elim
            | exc _ _ _ => rw [q2] at p; exact p.elim
            | stuck => rw [q2] at p; exact p.elim
          | false =>
            dsimp only at p
            rw [if_neg Bool.false_ne_true]
            exact p H3 w3 g3 t3
        | _ => exact p.elim
      | exc _ _ _ => rw [q] at p; exact p.elim
      | stuck => rw [q] at p; exact p.elim
theorem pd_frz {X : Cx} {W : WX} {e : Expr} {m : Env' → M D} (he : PE X e (tE X.K xc W m)) : PE X e (tE X.K xc W fun env => m env >>= frz) :=
  pimp (pfro he) fun σ H Q ⟨w, env, s, rel, p⟩ => by
    refine ⟨w, env, s, rel, (Post.bind p).imp fun v H1 ⟨w1, d, s1, g, t, r, p1⟩ => ?_⟩
    have e1 : frz d s1 = (frz d >>= M.ret) s1 := by
      rw [M_bind]
      unfold M.bnd
      cases frz d s1 <;> rfl
    rw [e1] at p1
    have q := frz_read (K := X.K) (PQ := fun w H r => Post X.K xc W σ w H Q r) (fun g h => h.mono g) (fun _ _ h => h) t r p1
    rcases q with ⟨w2, d2, s2, g2, t2, r2, p2⟩ | ⟨a, xs, e1, e2, q⟩
    · exact .inl (Post.ret p2 t2 r2)
    · refine .inr ⟨a, xs, e1, e2, fun o => ?_⟩
      obtain ⟨w2, d2, s2, g2, t2, r2, p2⟩ := q o
      exact Post.ret p2 t2 r2
/-- an address outside, that does not stay: it may be exchanged -/
theorem sto_out {K : PySem.W.Frag} {w : Wd} {s : SS} {H : Hp} {p : Addr} {o : HO} (t : Sto K w s H) (np : p ∉ w.ws) (nf : ∀ u, H p = some u → ¬ Fz u) : Ext H (upd H p o) ∧ Sto K w s (upd H p o) := by
  have x : Ext H (upd H p o) := ⟨fun b u e f => by
    have ne : b ≠ p := by rintro rfl; exact nf u e f
    rw [upd_ne ne]; exact e⟩
  refine ⟨x, ?_, t.len, fun i a c h1 h2 => ?_, t.nd⟩
  · have hm := t.m
    cases em : w.m with
    | none => rw [em] at hm; cases es : s.m with
      | none => trivial
      | some _ => rw [es] at hm; exact hm.elim
    | some q =>
      obtain ⟨am, al⟩ := q
      rw [em] at hm
      cases es : s.m with
      | none => rw [es] at hm; exact hm.elim
      | some m =>
        rw [es] at hm
        obtain ⟨cc, h1, h2, h3, h4⟩ := hm
        have n1 : am ≠ p := fun z => np (by unfold Wd.ws; rw [em, ← z]; simp)
        have n2 : al ≠ p := fun z => np (by unfold Wd.ws; rw [em, ← z]; simp)
        exact ⟨cc, by rw [upd_ne n1]; exact h1, h2.mono x, by rw [upd_ne n2]; exact h3, h4⟩
  · have ne : a ≠ p := fun z => np (by rw [← z]; exact mem_ws h1)
    have hb := t.cs i a c h1 h2
    obtain ⟨fz, oc⟩ := c
    cases oc with
    | lst xs =>
      cases fz with
      | false => obtain ⟨vs, q1, q2⟩ := hb; exact ⟨vs, by rw [upd_ne ne]; exact q1, q2.mono x⟩
      | true => obtain ⟨vs, o', q1, q2⟩ := hb; exact ⟨vs, o', by rw [upd_ne ne]; exact q1, q2.mono x⟩
    | dct _ _ => cases fz <;> exact hb.elim
    | ins _ _ _ => cases fz <;> exact hb.elim
theorem go_out {w w1 : Wd} {H0 H : Hp} {p : Addr} {o : HO} (g : Go w H0 w1 H) (h0 : H0 p = none) : Go w H0 w1 (upd H p o) :=
  ⟨fun b u e f => by
    have ne : b ≠ p := ne_of_none e h0
    rw [upd_ne ne]; exact g.kp b u e f, g.gr, g.pre, g.ms⟩
theorem compM_cons {f : D → M (Option D)} {d : D} {ds : List D} {s : SS} : compM f (d :: ds) s = (f d >>= fun o => compM f ds >>= fun r => M.ret (match o with | some y => y :: r | none => r)) s := rfl
/-- the state between two turns: the list at l holds acc -/
structure CI (K : PySem.W.Frag) (w0 : Wd) (H0 : Hp) (l : Addr) (w : Wd) (s : SS) (acc : List D) (vs : List V) (H : Hp) : Prop where
  go : Go w0 H0 w H
  st : Sto K w s H
  out : l ∉ w.ws
  at_ : H l = some (.lst vs)
  rp : Reps K H vs acc
theorem CI.next {K : PySem.W.Frag} {w0 w w4 : Wd} {H0 H H4 : Hp} {l : Addr} {s s4 : SS} {acc : List D} {vs : List V} (c : CI K w0 H0 l w s acc vs H) (g : Go w H w4 H4) (t : Sto K w4 s4 H4) : CI K w0 H0 l w4 s4 acc vs H4 :=
  ⟨c.go.trans g, t, g.out c.at_ c.out, g.kp _ _ c.at_ (.inl c.out), c.rp.mono g.ext⟩
theorem CI.push {K : PySem.W.Frag} {w0 w : Wd} {H0 H : Hp} {l : Addr} {s : SS} {acc : List D} {vs : List V} {v : V} {y : D} (c : CI K w0 H0 l w s acc vs H) (hl : H0 l = none) (r : Rep K H v y) : CI K w0 H0 l w s (acc ++ [y]) (vs ++ [v]) (upd H l (.lst (vs ++ [v]))) := by
  obtain ⟨x5, t5⟩ := sto_out (o := .lst (vs ++ [v])) c.st c.out fun u e f => by rw [c.at_] at e; cases e; exact f
  exact ⟨go_out c.go hl, t5, c.out, upd_same, (c.rp.mono x5).append (.cons (r.mono x5) .nil)⟩
/-- a loop's turns: Rest i acc s says that what is left to be done from the i-th thing on comes to a good end -/
theorem turns {K : PySem.W.Frag} {J : It} {ds : List D} {own : List Nat} {t : T} {tst el : Env' → M D} {env : Env'} {w0 w1 : Wd} {s1 : SS} {σ : L2.St} {H0 H1 : Hp} {l : Addr} {N : Hp → Prop} {Rest : Nat → List D → SS → Prop} {acc0 : List D} {vs0 : List V}
    (jo : ItOk K J H1 ds) (hsub : ∀ j ∈ slotsT t, j ∈ own) (rel : Rel K w1 env s1 σ H1) (hl : H0 l = none) (c0 : CI K w0 H0 l w1 s1 acc0 vs0 H1) (h0 : Rest 0 acc0 s1)
    (step : ∀ (i : Nat) (d : D) (acc : List D) (s : SS), ds[i]? = some d → Rest i acc s → match turnM t tst el (wipeE env own) d s with
      | .ok (some y) s' => acc.length < LIM ∧ Rest (i + 1) (acc ++ [y]) s'
      | .ok none s' => Rest (i + 1) acc s'
      | _ => False)
    (fin : ∀ w s acc vs H, Gx w1 H1 w H → CI K w0 H0 l w s acc vs H → Rest ds.length acc s → N H) :
    ∃ W : Nat → Nat → Hp → Prop, (∃ m, W 0 m H1) ∧ ∀ i m H, W i m H → (J.stop i H ∧ N H) ∨
      (J.go i H ∧ ∃ Nx : Hp → Prop, (∀ H', Nx H' → ∃ m', m' < m ∧ W (i + 1) m' H') ∧ ∀ x H', J.yld i H x H' → tG K t x (wipe σ own) H' fun σ2 H2 => wipe σ2 own = wipe σ own ∧ tTst K xc (fun _ _ _ _ => False) tst σ2 H2 fun b H3 =>
        if b = true then tE K xc (fun _ _ _ _ => False) (fun env => el env >>= frz) σ2 H3 fun y H4 => ∃ acc, H4 l = some (.lst acc) ∧ acc.length < sizeLine ∧ Nx (upd H4 l (.lst (acc ++ [y]))) else Nx H3) := by
  let Iv : Nat → Hp → Prop := fun i H => ∃ w s acc vs, CI K w0 H0 l w s acc vs H ∧ Gx w1 H1 w H ∧ Rest i acc s
  refine ⟨fun i m H => m = ds.length - i ∧ i ≤ ds.length ∧ Iv i H, ⟨ds.length, by simp, Nat.zero_le _, w1, s1, acc0, vs0, c0, (Go.refl _ _).gx, h0⟩, ?_⟩
  rintro i m H ⟨rfl, hi, w, s, acc, vs, c, gg, rest⟩
  have xH : Ext H1 H := gg.ext
  by_cases hlt : i < ds.length
  · refine .inr ⟨jo.go i H xH hlt, Iv (i + 1), fun H' v => ⟨ds.length - (i + 1), by omega, rfl, hlt, v⟩, fun x H' y => ?_⟩
    have ed : ds[i]? = some ds[i] := List.getElem?_eq_getElem hlt
    obtain ⟨sm, rx⟩ := jo.yld i _ H x H' xH ed y
    have st' := c.st.same sm
    have g' : Gx w1 H1 w H' := gg.trans (sgo sm).gx
    have c' : CI K w0 H0 l w s acc vs H' := c.next (sgo sm) st'
    have rel' : Rel K w (wipeE env own) s (wipe σ own) H' := (rel.wipe own).goX g' st'
    refine turn_read (xc := xc) (QY := fun v H4 => ∃ a4, H4 l = some (.lst a4) ∧ a4.length < sizeLine ∧ Iv (i + 1) (upd H4 l (.lst (a4 ++ [v])))) (QN := fun H3 => Iv (i + 1) H3) hsub rel' rx ?_
    have st2 := step i ds[i] acc s ed rest
    cases q : turnM t tst el (wipeE env own) ds[i] s with
    | ok o s2 =>
      rw [q] at st2
      cases o with
      | some y =>
        obtain ⟨hlen, rest2⟩ := st2
        intro v H4 w4 g4 t4 r4
        have c4 := c'.next g4 t4
        have hv := c.rp.length
        refine ⟨vs, c4.at_, ?_, w4, s2, acc ++ [y], vs ++ [v], c4.push hl r4, ?_, rest2⟩
        · have : (LIM : Nat) ≤ sizeLine := by decide
          omega
        · have x5 : Ext H4 (upd H4 l (.lst (vs ++ [v]))) := (sto_out (o := .lst (vs ++ [v])) t4 c4.out fun u e f => by rw [c4.at_] at e; cases e; exact f).1
          exact (g'.trans g4.gx).trans ⟨x5, ⟨[], by simp⟩, fun _ => rfl⟩
      | none =>
        intro H4 w4 g4 t4
        exact ⟨w4, s2, acc, vs, c'.next g4 t4, g'.trans g4.gx, st2⟩
    | exc _ _ _ => rw [q] at st2; exact st2.elim
    | stuck => rw [q] at st2; exact st2.elim
  · have e : i = ds.length := by omega
    subst e
    exact .inl ⟨jo.stop _ H xH (Nat.le_refl _), fin w s acc vs H gg c rest⟩
/-- the start of a comprehension's list -/
theorem CI.start {K : PySem.W.Frag} {w : Wd} {s : SS} {H : Hp} {l : Addr} (t : Sto K w s H) (hl : H l = none) : CI K w H l w s [] [] (upd H l (.lst [])) :=
  ⟨go_out (Go.refl _ _) hl, t.same (snew hl), (fun h => by
    obtain ⟨o, e⟩ := ws_some t h
    rw [hl] at e
    cases e), upd_same, .nil⟩
theorem CI.done {K : PySem.W.Frag} {w0 w : Wd} {H0 H : Hp} {l : Addr} {s : SS} {acc : List D} {vs : List V} {Q : VK} (c : CI K w0 H0 l w s acc vs H) (hl : H0 l = none) (q : ∀ v H' w', Go w0 H0 w' H' → Sto K w' s H' → RepT K w' H' v (.lst acc) → Q v H') : FrQ Q (.ref l) H := by
  refine ⟨l, vs, rfl, c.at_, fun o => ?_⟩
  obtain ⟨x1, st1⟩ := sto_out (o := .frz o (.lst vs)) c.st c.out fun u e f => by rw [c.at_] at e; cases e; exact f
  exact q _ _ w (go_out c.go hl) st1 (.of (.lst ⟨o, upd_same⟩ (c.rp.mono x1)))
theorem it_ext {K : PySem.W.Frag} {J : It} {H H' : Hp} {ds : List D} (jo : ItOk K J H ds) (x : Ext H H') : ItOk K J H' ds :=
  ⟨fun i H2 y h => jo.go i H2 (x.trans y) h, fun i d H1 v H2 y e z => jo.yld i d H1 v H2 (x.trans y) e z, fun i H2 y h => jo.stop i H2 (x.trans y) h⟩
/-- what is left of a comprehension -/
def RestC (f : D → M (Option D)) (Fin : List D → SS → Prop) (ds : List D) (i : Nat) (acc : List D) (s : SS) : Prop :=
  match compM f (ds.drop i) s with
  | .ok r s' => Fin (acc ++ r) s'
  | _ => False
theorem restC_step {f : D → M (Option D)} {Fin : List D → SS → Prop} {ds : List D} (hf : ∀ r s, Fin r s → r.length ≤ LIM) {i : Nat} {d : D} {acc : List D} {s : SS} (e : ds[i]? = some d) (h : RestC f Fin ds i acc s) :
    match f d s with
      | .ok (some y) s' => acc.length < LIM ∧ RestC f Fin ds (i + 1) (acc ++ [y]) s'
      | .ok none s' => RestC f Fin ds (i + 1) acc s'
      | _ => False := by
  obtain ⟨hlt, e1⟩ := List.getElem?_eq_some_iff.mp e
  unfold RestC at h
  rw [List.drop_eq_getElem_cons hlt, e1, compM_cons, M_bind] at h
  unfold M.bnd at h
  cases q : f d s with
  | ok o s2 =>
    rw [q] at h
    dsimp only at h
    rw [M_bind] at h
    unfold M.bnd at h
    cases q2 : compM f (ds.drop (i + 1)) s2 with
    | ok r s3 =>
      rw [q2] at h
      cases o with
      | some y =>
        have h' : Fin (acc ++ y :: r) s3 := h
        have hl := hf _ _ h'
        rw [List.length_append, List.length_cons] at hl
        refine ⟨by omega, ?_⟩
        unfold RestC
        rw [q2]
        dsimp only
        rw [List.append_assoc]; exact h'
      | none =>
        show RestC f Fin ds (i + 1) acc s2
        unfold RestC
        rw [q2]; exact h
    | exc _ _ _ => rw [q2] at h; exact h.elim
    | stuck => rw [q2] at h; exact h.elim
  | exc _ _ _ => rw [q] at h; exact h.elim
  | stuck => rw [q] at h; exact h.elim
theorem restC_end {f : D → M (Option D)} {Fin : List D → SS → Prop} {ds : List D} {acc : List D} {s : SS} (h : RestC f Fin ds ds.length acc s) : Fin acc s := by
  unfold RestC at h
  rw [List.drop_length] at h
  have h' : Fin (acc ++ []) s := h
  rwa [List.append_nil] at h'
/-- [el for t in it if tst] -/
theorem lc_post {K : PySem.W.Frag} {σ : L2.St} {w : Wd} {env : Env'} {s : SS} {H : Hp} {Q : VK} {ds : List D} {vs : List Nat} {t : T} {tst el : Env' → M D} {l : Addr} {J : It} (jo : ItOk K J H ds) (hsub : ∀ j ∈ slotsT t, j ∈ vs) (rel : Rel K w env s σ H) (hl : H l = none)
    (p : Post K xc W σ w H Q ((M.calm (compM (turnM t tst el (wipeE env vs)) ds) >>= fun r => if r.length ≤ LIM then M.ret (.lst r) else M.stk) s)) :
    ∃ W : Nat → Nat → Hp → Prop, (∃ m, W 0 m (upd H l (.lst []))) ∧ ∀ i m H, W i m H → (J.stop i H ∧ FrQ Q (.ref l) H) ∨
      (J.go i H ∧ ∃ Nx : Hp → Prop, (∀ H', Nx H' → ∃ m', m' < m ∧ W (i + 1) m' H') ∧ ∀ x H', J.yld i H x H' → tG K t x (wipe σ vs) H' fun σ2 H2 => wipe σ2 vs = wipe σ vs ∧ tTst K xc (fun _ _ _ _ => False) tst σ2 H2 fun b H3 =>
        if b = true then tE K xc (fun _ _ _ _ => False) (fun env => el env >>= frz) σ2 H3 fun y H4 => ∃ acc, H4 l = some (.lst acc) ∧ acc.length < sizeLine ∧ Nx (upd H4 l (.lst (acc ++ [y]))) else Nx H3) := by
  have sm : Same H (upd H l (.lst [])) := snew hl
  let Fin : List D → SS → Prop := fun r s' => r.length ≤ LIM ∧ ∀ v H' w', Go w H w' H' → Sto K w' s' H' → RepT K w' H' v (.lst r) → Q v H'
  refine turns (xc := xc) (Rest := RestC (turnM t tst el (wipeE env vs)) Fin ds) (it_ext jo (sext sm)) hsub (rel.go (sgo sm) (rel.st.same sm)) hl (CI.start rel.st hl) ?_ (fun i d acc s e h => restC_step (fun _ _ z => z.1) e h) fun w' s' acc vs' H' _ c rest => ?_
  · unfold RestC
    rw [List.drop_zero]
    rw [M_bind] at p
    unfold M.bnd M.calm at p
    cases q2 : compM (turnM t tst el (wipeE env vs)) ds s with
    | ok r s2 =>
      rw [q2] at p
      dsimp only at p ⊢
      rw [List.nil_append]
      by_cases hr : r.length ≤ LIM
      · rw [if_pos hr] at p; exact ⟨hr, p⟩
      · rw [if_neg hr] at p; exact p.elim
    | exc _ _ _ => rw [q2] at p; exact p.elim
    | stuck => rw [q2] at p; exact p.elim
  · exact c.done hl (restC_end rest).2
theorem pd_lc {elt tg iter : Expr} {ifs : List Expr} {scope : Scope} {own : List (Str × Nat)} {pos : Pos} {t : T} {mi : Env' → M (List D)} {tst el : Env' → M D} (hc : X.calm = true) (hN : X.N.Nodup) (hi : PI X tg iter (tI X.K xc W mi)) (ok : BlkOk X.N X.env.scope scope own)
    (hg : ∀ (s : Shared) (H : Hp) (C : Addr) (cl : List (Str × Addr)) (fp : List Addr), PG (X.blk s H scope (compEnvC scope cl C X.env) fp) tg (tG X.K t))
    (ht : ∀ (s : Shared) (H : Hp) (C : Addr) (cl : List (Str × Addr)) (fp : List Addr), PTs (X.blk s H scope (compEnvC scope cl C X.env) fp) ifs (tTst X.K xc (fun _ _ _ _ => False) tst))
    (he : ∀ (s : Shared) (H : Hp) (C : Addr) (cl : List (Str × Addr)) (fp : List Addr), PE (X.blk s H scope (compEnvC scope cl C X.env) fp) elt (tE X.K xc (fun _ _ _ _ => False) el))
    (hs : ∀ x, foldedSetIterable iter X.env x = pure x) (hsub : ∀ j ∈ slotsT t, j ∈ own.map (·.2)) :
    PE X (.ListComp elt [⟨tg, iter, ifs, 0⟩] scope pos) (tE X.K xc W fun env => lcM (own.map (·.2)) t (mi env) tst el env) := by
  refine pimp (pfrz (pe_lc (te := tE X.K xc (fun _ _ _ _ => False) fun env => el env >>= frz) hc hN hi ok hg ht (fun s H C cl fp => pd_frz (he s H C cl fp)) hs)) fun σ H Q ⟨w, env, s, rel, p⟩ => ?_
  refine ⟨w, env, s, rel, ?_⟩
  have p' : Post X.K xc W σ w H Q (M.bnd (mi env) _ s) := p
  unfold M.bnd at p'
  cases q : mi env s with
  | ok ds s1 =>
    rw [q] at p'
    intro J H1 w1 g t1 jo l hl
    exact lc_post (W := W) jo hsub (rel.go g t1) hl (p'.mono g)
  | exc c f s' => rw [q] at p'; exact p'
  | stuck => rw [q] at p'; exact p'

/-! ### two clauses -/
def RestK (f : D → M (List D)) (Fin : List D → SS → Prop) (ds : List D) (i : Nat) (acc : List D) (s : SS) : Prop :=
  match catM f (ds.drop i) s with
  | .ok r s' => Fin (acc ++ r) s'
  | _ => False
theorem catM_cons {f : D → M (List D)} {d : D} {ds : List D} {s : SS} : catM f (d :: ds) s = (f d >>= fun l => catM f ds >>= fun r => M.ret (l ++ r)) s := rfl
theorem restK_step {f : D → M (List D)} {Fin : List D → SS → Prop} {ds : List D} {i : Nat} {d : D} {acc : List D} {s : SS} (e : ds[i]? = some d) (h : RestK f Fin ds i acc s) :
    match f d s with
      | .ok l s' => RestK f Fin ds (i + 1) (acc ++ l) s'
      | _ => False := by
  obtain ⟨hlt, e1⟩ := List.getElem?_eq_some_iff.mp e
  unfold RestK at h
  rw [List.drop_eq_getElem_cons hlt, e1, catM_cons, M_bind] at h
  unfold M.bnd at h
  cases q : f d s with
  | ok l s2 =>
    rw [q] at h
    dsimp only at h ⊢
    rw [M_bind] at h
    unfold M.bnd at h
    unfold RestK
    cases q2 : catM f (ds.drop (i + 1)) s2 with
    | ok r s3 =>
      rw [q2] at h
      have h' : Fin (acc ++ (l ++ r)) s3 := h
      dsimp only
      rw [List.append_assoc]; exact h'
    | exc _ _ _ => rw [q2] at h; exact h.elim
    | stuck => rw [q2] at h; exact h.elim
  | exc _ _ _ => rw [q] at h; exact h.elim
  | stuck => rw [q] at h; exact h.elim
theorem restK_end {f : D → M (List D)} {Fin : List D → SS → Prop} {ds : List D} {acc : List D} {s : SS} (h : RestK f Fin ds ds.length acc s) : Fin acc s := by
  unfold RestK at h
  rw [List.drop_length] at h
  have h' : Fin (acc ++ []) s := h
  rwa [List.append_nil] at h'
theorem restK_le {f : D → M (List D)} {Fin : List D → SS → Prop} {ds : List D} (hf : ∀ r s, Fin r s → r.length ≤ LIM) {i : Nat} {acc : List D} {s : SS} (h : RestK f Fin ds i acc s) : acc.length ≤ LIM := by
  unfold RestK at h
  cases q : catM f (ds.drop i) s with
  | ok r s' =>
    rw [q] at h
    have := hf _ _ h
    rw [List.length_append] at this
    omega
  | exc _ _ _ => rw [q] at h; exact h.elim
  | stuck => rw [q] at h; exact h.elim
theorem lc2_post {K : PySem.W.Frag} {σ : L2.St} {w : Wd} {env : Env'} {s : SS} {H : Hp} {Q : VK} {ds : List D} {vs vs1 : List Nat} {t t2 : T} {mi2 : Env' → M (List D)} {tst el : Env' → M D} {l : Addr} {J : It} (jo : ItOk K J H ds) (hsub : ∀ j ∈ slotsT t, j ∈ vs) (hsub2 : ∀ j ∈ slotsT t2, j ∈ vs1)
    (rel : Rel K w env s σ H) (hl : H l = none)
    (p : Post K xc W σ w H Q ((M.calm (catM (turn2M t mi2 vs1 t2 tst el (wipeE env vs)) ds) >>= fun r => if r.length ≤ LIM then M.ret (.lst r) else M.stk) s)) :
    ∃ W : Nat → Nat → Hp → Prop, (∃ m, W 0 m (upd H l (.lst []))) ∧ ∀ i m H, W i m H → (J.stop i H ∧ FrQ Q (.ref l) H) ∨
      (J.go i H ∧ ∃ Nx : Hp → Prop, (∀ H', Nx H' → ∃ m', m' < m ∧ W (i + 1) m' H') ∧ ∀ x H', J.yld i H x H' → tG K t x (wipe σ vs) H' fun σ2 H2 => wipe σ2 vs = wipe σ vs ∧ tYes σ2 H2 fun b H3 =>
        if b = true then tI K xc (fun _ _ _ _ => False) mi2 σ2 H3 fun J1 H4 => ∃ W1 : Nat → Nat → Hp → Prop, (∃ m, W1 0 m H4) ∧ ∀ j k H, W1 j k H →
          (J1.stop j H ∧ Nx H) ∨ (J1.go j H ∧ ∃ Nx1 : Hp → Prop, (∀ H', Nx1 H' → ∃ k', k' < k ∧ W1 (j + 1) k' H') ∧ ∀ x H', J1.yld j H x H' → tG K t2 x (wipe σ2 vs1) H' fun σ3 H5 => wipe σ3 vs1 = wipe σ2 vs1 ∧ tTst K xc (fun _ _ _ _ => False) tst σ3 H5 fun b H6 =>
            if b = true then tE K xc (fun _ _ _ _ => False) (fun env => el env >>= frz) σ3 H6 fun y H7 => ∃ acc, H7 l = some (.lst acc) ∧ acc.length < sizeLine ∧ Nx1 (upd H7 l (.lst (acc ++ [y]))) else Nx1 H6)
        else Nx H3) := by
  have sm : Same H (upd H l (.lst [])) := snew hl
  let Fin : List D → SS → Prop := fun r s' => r.length ≤ LIM ∧ ∀ v H' w', Go w H w' H' → Sto K w' s' H' → RepT K w' H' v (.lst r) → Q v H'
  let f := turn2M t mi2 vs1 t2 tst el (wipeE env vs)
  have hfin : ∀ r s, Fin r s → r.length ≤ LIM := fun _ _ z => z.1
  have rest0 : RestK f Fin ds 0 [] s := by
    unfold RestK
    rw [List.drop_zero]
    rw [M_bind] at p
    unfold M.bnd M.calm at p
    show match catM (turn2M t mi2 vs1 t2 tst el (wipeE env vs)) ds s with | .ok r s' => Fin ([] ++ r) s' | _ => False
    cases q2 : catM (turn2M t mi2 vs1 t2 tst el (wipeE env vs)) ds s with
    | ok r s2 =>
      rw [q2] at p
      dsimp only at p ⊢
      rw [List.nil_append]
      by_cases hr : r.length ≤ LIM
      · rw [if_pos hr] at p; exact ⟨hr, p⟩
      · rw [if_neg hr] at p; exact p.elim
    | exc _ _ _ => rw [q2] at p; exact p.elim
    | stuck => rw [q2] at p; exact p.elim
  let H1 := upd H l (.lst [])
  let Iv : Nat → Hp → Prop := fun i H2 => ∃ w2 s2 acc vs2, CI K w H l w2 s2 acc vs2 H2 ∧ Gx w H1 w2 H2 ∧ RestK f Fin ds i acc s2
  refine ⟨fun i m H2 => m = ds.length - i ∧ i ≤ ds.length ∧ Iv i H2, ⟨ds.length, by simp, Nat.zero_le _, w, s, [], [], CI.start rel.st hl, (Go.refl _ _).gx, rest0⟩, ?_⟩
  rintro i m H2 ⟨rfl, hi, w2, s2, acc, vs2, c, gg, rest⟩
  have xH : Ext H H2 := (sext sm).trans gg.ext
  by_cases hlt : i < ds.length
  · refine .inr ⟨jo.go i H2 xH hlt, Iv (i + 1), fun H' v => ⟨ds.length - (i + 1), by omega, rfl, hlt, v⟩, fun x H' y => ?_⟩
    have ed : ds[i]? = some ds[i] := List.getElem?_eq_getElem hlt
    obtain ⟨smy, rx⟩ := jo.yld i _ H2 x H' xH ed y
    have st' := c.st.same smy
    have g' : Gx w H1 w2 H' := gg.trans (sgo smy).gx
    have c' : CI K w H l w2 s2 acc vs2 H' := c.next (sgo smy) st'
    have rel1 : Rel K w env s σ H1 := rel.go (sgo sm) (rel.st.same sm)
    have rel' : Rel K w2 (wipeE env vs) s2 (wipe σ vs) H' := (rel1.wipe vs).goX g' st'
    have step := restK_step ed rest
    show tG K t x (wipe σ vs) H' _
    have ef : f ds[i] s2 = turn2M t mi2 vs1 t2 tst el (wipeE env vs) ds[i] s2 := rfl
    rw [ef] at step
    unfold turn2M at step
    cases e : asgT t ds[i] (wipeE env vs) with
    | none => simp only [e] at step; exact step.elim
    | some env1 =>
      simp only [e] at step
      refine ⟨w2, _, s2, ds[i], env1, rel', .of rx, e, fun σ2 rel2 fr => ⟨by rw [wipe_frm (fr.mono hsub), wipe_wipe], ?_⟩⟩
      unfold tYes
      dsimp only
      rw [if_pos rfl]
      refine ⟨w2, env1, s2, rel2, ?_⟩
      rw [M_bind] at step
      unfold M.bnd at step
      cases q : mi2 env1 s2 with
      | ok ys s3 =>
        rw [q] at step
        intro J1 H4 w4 g4 t4 jo4
        have c4 := c'.next g4 t4
        refine turns (xc := xc) (Rest := RestC (turnM t2 tst el (wipeE env1 vs1)) (fun r s' => RestK f Fin ds (i + 1) r s') ys) jo4 hsub2 (rel2.go g4 t4) hl c4 ?_ (fun j d acc s e h => restC_step (fun _ _ z => restK_le hfin z) e h) fun w5 s5 acc5 vs5 H5 gx5 c5 rest5 => ?_
        · unfold RestC
          rw [List.drop_zero]
          cases q5 : compM (turnM t2 tst el (wipeE env1 vs1)) ys s3 with
          | ok r s4 => simp only [q5] at step; exact step
          | exc _ _ _ => simp only [q5] at step
          | stuck => simp only [q5] at step
        · exact ⟨w5, s5, acc5, vs5, c5, (g'.trans g4.gx).trans gx5, restC_end rest5⟩
      | exc _ _ _ => rw [q] at step; exact step.elim
      | stuck => rw [q] at step; exact step.elim
  · have e : i = ds.length := by omega
    subst e
    exact .inl ⟨jo.stop _ H2 xH (Nat.le_refl _), c.done hl (restK_end rest).2⟩
theorem pd_lc2 {elt tg iter tg1 iter1 : Expr} {ifs1 : List Expr} {scope : Scope} {own : List (Str × Nat)} {vs1 : List Nat} {pos : Pos} {t t2 : T} {mi mi2 : Env' → M (List D)} {tst el : Env' → M D} (hc : X.calm = true) (hN : X.N.Nodup) (hi : PI X tg iter (tI X.K xc W mi)) (ok : BlkOk X.N X.env.scope scope own) (hv : ∀ i ∈ vs1, i ∈ own.map (·.2))
    (hg : ∀ (s : Shared) (H : Hp) (C : Addr) (cl : List (Str × Addr)) (fp : List Addr), PG (X.blk s H scope (compEnvC scope cl C X.env) fp) tg (tG X.K t))
    (hi1 : ∀ (s : Shared) (H : Hp) (C : Addr) (cl : List (Str × Addr)) (fp : List Addr), PI (X.blk s H scope (compEnvC scope cl C X.env) fp) tg1 iter1 (tI X.K xc (fun _ _ _ _ => False) mi2))
    (hg1 : ∀ (s : Shared) (H : Hp) (C : Addr) (cl : List (Str × Addr)) (fp : List Addr), PG (X.blk s H scope (compEnvC scope cl C X.env) fp) tg1 (tG X.K t2))
    (ht1 : ∀ (s : Shared) (H : Hp) (C : Addr) (cl : List (Str × Addr)) (fp : List Addr), PTs (X.blk s H scope (compEnvC scope cl C X.env) fp) ifs1 (tTst X.K xc (fun _ _ _ _ => False) tst))
    (he : ∀ (s : Shared) (H : Hp) (C : Addr) (cl : List (Str × Addr)) (fp : List Addr), PE (X.blk s H scope (compEnvC scope cl C X.env) fp) elt (tE X.K xc (fun _ _ _ _ => False) el))
    (hs : ∀ x, foldedSetIterable iter X.env x = pure x) (hs1 : ∀ env x, foldedSetIterable iter1 env x = pure x) (hsub : ∀ j ∈ slotsT t, j ∈ own.map (·.2)) (hsub2 : ∀ j ∈ slotsT t2, j ∈ vs1) :
    PE X (.ListComp elt [⟨tg, iter, [], 0⟩, ⟨tg1, iter1, ifs1, 0⟩] scope pos) (tE X.K xc W fun env => lc2M (own.map (·.2)) t (mi env) mi2 vs1 t2 tst el env) := by
  refine pimp (pfrz (pe_lc2 (te := tE X.K xc (fun _ _ _ _ => False) fun env => el env >>= frz) hc hN hi ok hv hg (fun _ _ _ _ _ => pts_nil) hi1 hg1 ht1 (fun s H C cl fp => pd_frz (he s H C cl fp)) hs hs1)) fun σ H Q ⟨w, env, s, rel, p⟩ => ?_
  refine ⟨w, env, s, rel, ?_⟩
  have p' : Post X.K xc W σ w H Q (M.bnd (mi env) _ s) := p
  unfold M.bnd at p'
  cases q : mi env s with
  | ok ds s1 =>
    rw [q] at p'
    intro J H1 w1 g t1 jo l hl
    exact lc2_post (W := W) jo hsub hsub2 (rel.go g t1) hl (p'.mono g)
  | exc c f s' => rw [q] at p'; exact p'
  | stuck => rw [q] at p'; exact p'
end
end PI

set_option maxHeartbeats 1000000
/-! PI, part k: statements. -/
namespace PI
open PySem L2
/-- how a block of statements ends -/
inductive SR where
  | nx (env : Env') (s : SS)
  | rt (d : D) (s : SS)
  | brk (env : Env') (s : SS)
  | cont (env : Env') (s : SS)
  | exc (c : Nat) (f : D) (env : Env') (s : SS)
  | stuck
abbrev SM := Env' → SS → SR
def passS : SM := fun env s => .nx env s
def brkS : SM := fun env s => .brk env s
def contS : SM := fun env s => .cont env s
def seqS (a b : SM) : SM := fun env s => match a env s with
  | .nx env' s' => b env' s'
  | r => r
def exprS (m : Env' → M D) : SM := fun env s => match m env s with
  | .ok _ s' => .nx env s'
  | .exc c f s' => .exc c f env s'
  | .stuck => .stuck
def retS (m : Env' → M D) : SM := fun env s => match m env s with
  | .ok d s' => match frz d s' with
    | .ok d s'' => .rt d s''
    | _ => .stuck
  | .exc c f s' => .exc c f env s'
  | .stuck => .stuck
def retN : SM := fun _ s => .rt .non s
def asgS (t : T) (m : Env' → M D) : SM := fun env s => match m env s with
  | .ok d s' => match asgT t d env with
    | some env' => .nx env' s'
    | none => .stuck
  | .exc c f s' => .exc c f env s'
  | .stuck => .stuck
/-- a, b = x, y: names alone -/
def setsE (env : Env') : List Nat → List D → Option Env'
  | [], [] => some env
  | i :: is, d :: ds => if i < env.length then setsE (env.set i (some d)) is ds else none
  | _, _ => none
def parS (is : List Nat) (ms : Env' → M (List D)) : SM := fun env s => match ms env s with
  | .ok ds s' => match setsE env is ds with
    | some env' => .nx env' s'
    | none => .stuck
  | .exc c f s' => .exc c f env s'
  | .stuck => .stuck
def ifS (c : Env' → M D) (a b : SM) : SM := fun env s => match c env s with
  | .ok (.bl true) s' => a env s'
  | .ok (.bl false) s' => b env s'
  | .ok _ _ => .stuck
  | .exc c f s' => .exc c f env s'
  | .stuck => .stuck
def forL (t : T) (b : SM) : List D → SM
  | [], env, s => .nx env s
  | d :: ds, env, s => match asgT t d env with
    | none => .stuck
    | some env1 => match b env1 s with
      | .nx e s => forL t b ds e s
      | .cont e s => forL t b ds e s
      | .brk e s => .nx e s
      | r => r
def forS (t : T) (m : Env' → M (List D)) (b : SM) : SM := fun env s => match m env s with
  | .ok ds s' => forL t b ds env s'
  | .exc c f s' => .exc c f env s'
  | .stuck => .stuck
def whileL (c : Env' → M D) (b : SM) : Nat → SM
  | 0, _, _ => .stuck
  | n + 1, env, s => match c env s with
    | .ok (.bl true) s' => match b env s' with
      | .nx e s => whileL c b n e s
      | .cont e s => whileL c b n e s
      | .brk e s => .nx e s
      | r => r
    | .ok (.bl false) s' => .nx env s'
    | .ok _ _ => .stuck
    | .exc c f s' => .exc c f env s'
    | .stuck => .stuck
def whileS (n : Nat) (c : Env' → M D) (b : SM) : SM := fun env s => whileL c b n env s

section
variable {X : Cx} {xc : XC} {W : WX}
def PostS (K : PySem.W.Frag) (xc : XC) (W : WX) (E : Ends) (w : Wd) (H : Hp) : SR → Prop
  | .nx env' s' => ∀ σ' H' w', Go w H w' H' → Rel K w' env' s' σ' H' → E.nx σ' H'
  | .brk env' s' => ∀ σ' H' w', Go w H w' H' → Rel K w' env' s' σ' H' → E.bk σ' H'
  | .cont env' s' => ∀ σ' H' w', Go w H w' H' → Rel K w' env' s' σ' H' → E.ct σ' H'
  | .rt d s' => ∀ v H' w', Go w H w' H' → Sto K w' s' H' → RepT K w' H' v d → E.rt v H'
  | .exc c f env' s' => ∀ x v σ' H' w', Go w H w' H' → Rel K w' env' s' σ' H' → H' x = some (.xd [(xc.fld c, v)]) → Rep K H' v f → W (.ref (xc.cls c)) (some x) σ' H'
  | .stuck => False
def tS (K : PySem.W.Frag) (xc : XC) (W : WX) (m : SM) : TS := fun E σ H => ∃ w env s, Rel K w env s σ H ∧ PostS K xc W E w H (m env s)
theorem PostS.mono {K : PySem.W.Frag} {E : Ends} {w w1 : Wd} {H H1 : Hp} (g : Go w H w1 H1) : ∀ {r : SR}, PostS K xc W E w H r → PostS K xc W E w1 H1 r
  | .nx _ _, h => fun σ' H' w' g' r => h σ' H' w' (g.trans g') r
  | .brk _ _, h => fun σ' H' w' g' r => h σ' H' w' (g.trans g') r
  | .cont _ _, h => fun σ' H' w' g' r => h σ' H' w' (g.trans g') r
  | .rt _ _, h => fun v H' w' g' t r => h v H' w' (g.trans g') t r
  | .exc _ _ _ _, h => fun x v σ' H' w' g' t e r => h x v σ' H' w' (g.trans g') t e r
  | .stuck, h => h
theorem psimp {st : Stmt} {t t' : TS} (h : PS X st t) (hi : ∀ E σ H, t' E σ H → t E σ H) : PS X st t' :=
  ⟨fun pins s σ H E I q => h.run pins s σ H E I (hi E σ H q)⟩
theorem pssimp {st : List Stmt} {t t' : TS} (h : PSs X st t) (hi : ∀ E σ H, t' E σ H → t E σ H) : PSs X st t' :=
  ⟨fun pins s σ H E I q => h.run pins s σ H E I (hi E σ H q)⟩
theorem nx_here {K : PySem.W.Frag} {E : Ends} {w : Wd} {H : Hp} {env : Env'} {s : SS} {σ : L2.St} (p : PostS K xc W E w H (.nx env s)) (rel : Rel K w env s σ H) : E.nx σ H := p σ H w (Go.refl _ _) rel
theorem pds_pass {pos : Pos} : PS X (.Pass pos) (tS X.K xc W passS) := psimp ps_pass fun E σ H ⟨w, env, s, rel, p⟩ => nx_here p rel
theorem pds_brk {pos : Pos} : PS X (.Break pos) (tS X.K xc W brkS) := psimp ps_break fun E σ H ⟨w, env, s, rel, p⟩ => p σ H w (Go.refl _ _) rel
theorem pds_cont {pos : Pos} : PS X (.Continue pos) (tS X.K xc W contS) := psimp ps_continue fun E σ H ⟨w, env, s, rel, p⟩ => p σ H w (Go.refl _ _) rel
theorem pds_nil : PSs X [] (tS X.K xc W passS) := pssimp pss_nil fun E σ H ⟨w, env, s, rel, p⟩ => nx_here p rel
theorem pds_cons {st : Stmt} {rest : List Stmt} {a b : SM} (h1 : PS X st (tS X.K xc W a)) (h2 : PSs X rest (tS X.K xc W b)) : PSs X (st :: rest) (tS X.K xc W (seqS a b)) :=
  pssimp (pss_cons h1 h2) fun E σ H ⟨w, env, s, rel, p⟩ => by
    refine ⟨w, env, s, rel, ?_⟩
    unfold seqS at p
    cases q : a env s with
    | nx env' s' =>
      rw [q] at p
      intro σ' H' w' g rel'
      exact ⟨w', env', s', rel', p.mono g⟩
    | brk env' s' => rw [q] at p; exact p
    | cont env' s' => rw [q] at p; exact p
    | rt d s' => rw [q] at p; exact p
    | exc c f env' s' => rw [q] at p; exact p
    | stuck => rw [q] at p; exact p
theorem pds_one {st : Stmt} {a : SM} (h1 : PS X st (tS X.K xc W a)) : PSs X [st] (tS X.K xc W a) := pss_one h1
/-- an exception in an expression -/
theorem exc_post {K : PySem.W.Frag} {E : Ends} {w : Wd} {H : Hp} {env : Env'} {s s' : SS} {σ : L2.St} {c : Nat} {f : D} (rel : Rel K w env s σ H) (p : PostS K xc W E w H (.exc c f env s')) :
    ∀ x v H' w', Go w H w' H' → Sto K w' s' H' → H' x = some (.xd [(xc.fld c, v)]) → Rep K H' v f → W (.ref (xc.cls c)) (some x) σ H' :=
  fun x v H' w' g t e r => p x v σ H' w' g (rel.go g t) e r
theorem pds_expr {e : Expr} {pos : Pos} {m : Env' → M D} (he : PE X e (tE X.K xc W m)) (hs : swapsWith e none pos.line X.env = pure false) : PS X (.Expr e pos) (tS X.K xc W (exprS m)) :=
  psimp (ps_expr he hs) fun E σ H ⟨w, env, s, rel, p⟩ => by
    refine ⟨w, env, s, rel, ?_⟩
    unfold exprS at p
    cases q : m env s with
    | ok d s' =>
      rw [q] at p
      intro v H' w' g t r
      exact p σ H' w' g (rel.go g t)
    | exc c f s' => rw [q] at p; exact exc_post rel p
    | stuck => rw [q] at p; exact p
theorem pds_doc {x : Str} {j : Nat} {pos pos' : Pos} : PS X (.Expr (.Constant (.str x) j pos) pos') (tS X.K xc W passS) := psimp ps_doc fun E σ H ⟨w, env, s, rel, p⟩ => nx_here p rel
theorem pds_retN {pos : Pos} : PS X (.Return none pos) (tS X.K xc W retN) := psimp ps_retN fun E σ H ⟨w, env, s, rel, p⟩ => p .non H w (Go.refl _ _) rel.st (.of .non)
theorem pds_ret {e : Expr} {pos : Pos} {m : Env' → M D} (he : PE X e (tE X.K xc W m)) : PS X (.Return (some e) pos) (tS X.K xc W (retS m)) :=
  psimp (ps_ret (pd_frz he)) fun E σ H ⟨w, env, s, rel, p⟩ => by
    refine ⟨w, env, s, rel, ?_⟩
    unfold retS at p
    show Post X.K xc W σ w H E.rt (M.bnd (m env) frz s)
    unfold M.bnd
    cases q : m env s with
    | ok d s' =>
      rw [q] at p
      dsimp only at p ⊢
      cases q2 : frz d s' with
      | ok d2 s2 => rw [q2] at p; exact p
      | exc _ _ _ => rw [q2] at p; exact p.elim
      | stuck => rw [q2] at p; exact p.elim
    | exc c f s' => rw [q] at p; exact exc_post rel p
    | stuck => rw [q] at p; exact p
theorem pds_asg {tg e : Expr} {pos : Pos} {t : T} {m : Env' → M D} (he : PE X e (tE X.K xc W m)) (hg : PG X tg (tG X.K t)) (hs : swapsWithSole [tg] e pos.line X.env = pure false) (hw : swappedStores [tg] e X.env = pure none)
    (h1 : (assignEach [tg] X.env).map (·.2) = [assign tg X.env]) : PS X (.Assign [tg] e pos) (tS X.K xc W (asgS t m)) :=
  psimp (ps_asg he hg hs hw h1) fun E σ H ⟨w, env, s, rel, p⟩ => by
    refine ⟨w, env, s, rel, ?_⟩
    unfold asgS at p
    cases q : m env s with
    | ok d s' =>
      rw [q] at p
      dsimp only at p
      cases q2 : asgT t d env with
      | none => rw [q2] at p; exact p.elim
      | some env' =>
        rw [q2] at p
        intro v H' w' g st r
        exact ⟨w', env, s', d, env', rel.go g st, r, q2, fun σ' rel' _ => p σ' H' w' g rel'⟩
    | exc c f s' => rw [q] at p; exact exc_post rel p
    | stuck => rw [q] at p; exact p
theorem pds_set {x : Str} {i : Nat} {e : Expr} {pos pos' : Pos} {m : Env' → M D} (hN : X.N.Nodup) (hi : X.N[i]? = some x) (hx : Loc X.env.scope x) (he : PE X e (tE X.K xc W m)) (hs : swapsWith e (some (.Name x pos')) pos.line X.env = pure false) (hf : X.fn x = true ∨ X.env.scope.names.lookup x = some .local) :
    PS X (.Assign [.Name x pos'] e pos) (tS X.K xc W (asgS (.nm i) m)) :=
  psimp (ps_set hN hi hx he hs hf) fun E σ H ⟨w, env, s, rel, p⟩ => by
    refine ⟨w, env, s, rel, ?_⟩
    unfold asgS at p
    cases q : m env s with
    | ok d s' =>
      rw [q] at p
      dsimp only at p
      cases q2 : asgT (.nm i) d env with
      | none => rw [q2] at p; exact p.elim
      | some env' =>
        rw [q2] at p
        intro v H' w' g st r
        unfold asgT at q2
        split at q2
        · cases q2
          exact p _ H' w' g ((rel.go g st).set r)
        · cases q2
    | exc c f s' => rw [q] at p; exact exc_post rel p
    | stuck => rw [q] at p; exact p
theorem pds_if {c : Expr} {a b : List Stmt} {pos : Pos} {mc : Env' → M D} {ma mb : SM} (hc : PT X c (tTst X.K xc W mc)) (ha : PSs X a (tS X.K xc W ma)) (hb : PSs X b (tS X.K xc W mb)) : PS X (.If c a b pos) (tS X.K xc W (ifS mc ma mb)) :=
  psimp (ps_if hc ha hb) fun E σ H ⟨w, env, s, rel, p⟩ => by
    unfold ifS at p
    refine ⟨w, env, s, rel, ?_⟩
    cases q : mc env s with
    | ok d s' =>
      rw [q] at p
      intro v H' w' g t r
      cases d with
      | bl b =>
        refine ⟨b, bl_of r, ?_⟩
        cases b with
        | true => rw [if_pos rfl]; exact ⟨w', env, s', rel.go g t, PostS.mono g p⟩
        | false => rw [if_neg Bool.false_ne_true]; exact ⟨w', env, s', rel.go g t, PostS.mono g p⟩
      | _ => exact p.elim
    | exc c f s' => rw [q] at p; exact exc_post rel p
    | stuck => rw [q] at p; exact p
theorem it_ext' {K : PySem.W.Frag} {J : It} {H H' : Hp} {ds : List D} (j : ItOk K J H ds) (x : Ext H H') : ItOk K J H' ds :=
  ⟨fun i H2 y => j.go i H2 (x.trans y), fun i d H1 v H2 y => j.yld i d H1 v H2 (x.trans y), fun i H2 y => j.stop i H2 (x.trans y)⟩
theorem pds_for {tg iter : Expr} {body : List Stmt} {pos : Pos} {t : T} {mi : Env' → M (List D)} {mb : SM} (hp : PassesOwn (model X.prog X.w) X.A X.env X.xe) (hc : X.calm = true) (hi : PI X tg iter (tI X.K xc W mi)) (hg : PG X tg (tG X.K t)) (hb : PSs X body (tS X.K xc W mb))
    (hs : ∀ x, foldedSetIterable iter X.env x = pure x) : PS X (.For tg iter body [] pos) (tS X.K xc W (forS t mi mb)) :=
  psimp (ps_for hp hc hi hg hb hs) fun E σ H ⟨w, env, s, rel, p⟩ => by
    unfold forS at p
    refine ⟨w, env, s, rel, ?_⟩
    cases q : mi env s with
    | ok ds s1 =>
      rw [q] at p
      intro J H1 w1 g1 t1 jo
      have rel1 := rel.go g1 t1
      have p1 : PostS X.K xc W E w1 H1 (forL t mb ds env s1) := PostS.mono g1 p
      let Iv : Nat → L2.St → Hp → Prop := fun i σ H => ∃ w2 env s, Go w1 H1 w2 H ∧ Rel X.K w2 env s σ H ∧ PostS X.K xc W E w2 H (forL t mb (ds.drop i) env s)
      refine ⟨fun i m σ H => m = ds.length - i ∧ i ≤ ds.length ∧ Iv i σ H, ⟨ds.length, by simp, Nat.zero_le _, w1, env, s1, Go.refl _ _, rel1, by rw [List.drop_zero]; exact p1⟩, ?_⟩
      rintro i m σ2 H2 ⟨rfl, hi, w2, env2, s2, g2, rel2, p2⟩
      by_cases hlt : i < ds.length
      · refine .inr ⟨jo.go i H2 g2.ext hlt, Iv (i + 1), fun σ' H' v => ⟨ds.length - (i + 1), by omega, rfl, hlt, v⟩, fun x H' y => ?_⟩
        have ed : ds[i]? = some ds[i] := List.getElem?_eq_getElem hlt
        obtain ⟨smy, rx⟩ := jo.yld i _ H2 x H' g2.ext ed y
        rw [List.drop_eq_getElem_cons hlt] at p2
        unfold forL at p2
        cases e : asgT t ds[i] env2 with
        | none => rw [e] at p2; exact p2.elim
        | some env3 =>
          rw [e] at p2
          dsimp only at p2
          refine ⟨w2, env2, s2, ds[i], env3, rel2.go (sgo smy) (rel2.st.same smy), .of rx, e, fun σ3 rel3 _ => ?_⟩
          refine ⟨w2, env3, s2, rel3, ?_⟩
          have g3 : Go w1 H1 w2 H' := g2.trans (sgo smy)
          cases q3 : mb env3 s2 with
          | nx env4 s4 => rw [q3] at p2; exact fun σ' H4 w4 g4 rel4 => ⟨w4, env4, s4, g3.trans g4, rel4, p2.mono ((sgo smy).trans g4)⟩
          | cont env4 s4 => rw [q3] at p2; exact fun σ' H4 w4 g4 rel4 => ⟨w4, env4, s4, g3.trans g4, rel4, p2.mono ((sgo smy).trans g4)⟩
          | brk env4 s4 => rw [q3] at p2; exact PostS.mono (r := .nx env4 s4) (sgo smy) p2
          | rt d s4 => rw [q3] at p2; exact PostS.mono (r := .rt d s4) (sgo smy) p2
          | exc c f env4 s4 => rw [q3] at p2; exact PostS.mono (r := .exc c f env4 s4) (sgo smy) p2
          | stuck => rw [q3] at p2; exact p2
      · have e : i = ds.length := by omega
        subst e
        rw [List.drop_length] at p2
        exact .inl ⟨jo.stop _ H2 g2.ext (Nat.le_refl _), nx_here p2 rel2⟩
    | exc c f s' => rw [q] at p; exact exc_post rel p
    | stuck => rw [q] at p; exact p
theorem pds_while {c : Expr} {body : List Stmt} {pos : Pos} {n : Nat} {mc : Env' → M D} {mb : SM} (hp : PassesOwn (model X.prog X.w) X.A X.env X.xe) (hc : PT X c (tTst X.K xc W mc)) (hb : PSs X body (tS X.K xc W mb)) : PS X (.While c body [] pos) (tS X.K xc W (whileS n mc mb)) :=
  psimp (ps_while hp hc hb) fun E σ H ⟨w, env, s, rel, p⟩ => by
    refine ⟨fun m σ' H' => ∃ w' env' s', Rel X.K w' env' s' σ' H' ∧ PostS X.K xc W E w' H' (whileL mc mb m env' s'), ⟨n, w, env, s, rel, p⟩, ?_⟩
    rintro m σ1 H1 ⟨w1, env1, s1, rel1, p1⟩
    refine ⟨w1, env1, s1, rel1, ?_⟩
    cases m with
    | zero => exact False.elim p1
    | succ m =>
      unfold whileL at p1
      cases q : mc env1 s1 with
      | ok d s' =>
        rw [q] at p1
        intro v H' w' g t r
        cases d with
        | bl b =>
          refine ⟨b, bl_of r, ?_⟩
          cases b with
          | true =>
            dsimp only at p1 ⊢
            rw [if_pos rfl]
            refine ⟨fun σ' H' => ∃ w' env' s', Rel X.K w' env' s' σ' H' ∧ PostS X.K xc W E w' H' (whileL mc mb m env' s'), fun σ' H' z => ⟨m, Nat.lt_succ_self _, z⟩, w', env1, s', rel1.go g t, ?_⟩
            cases q3 : mb env1 s' with
            | nx env4 s4 => rw [q3] at p1; exact fun σ' H4 w4 g4 rel4 => ⟨w4, env4, s4, rel4, p1.mono (g.trans g4)⟩
            | cont env4 s4 => rw [q3] at p1; exact fun σ' H4 w4 g4 rel4 => ⟨w4, env4, s4, rel4, p1.mono (g.trans g4)⟩
            | brk env4 s4 => rw [q3] at p1; exact PostS.mono (r := .nx env4 s4) g p1
            | rt d s4 => rw [q3] at p1; exact PostS.mono (r := .rt d s4) g p1
            | exc c f env4 s4 => rw [q3] at p1; exact PostS.mono (r := .exc c f env4 s4) g p1
            | stuck => rw [q3] at p1; exact p1
          | false => dsimp only at p1 ⊢; rw [if_neg Bool.false_ne_true]; exact nx_here (PostS.mono (r := .nx env1 s') g p1) (rel1.go g t)
        | _ => exact p1.elim
      | exc c f s' => rw [q] at p1; exact exc_post rel1 p1
      | stuck => rw [q] at p1; exact p1
end
end PI

set_option maxHeartbeats 1000000
/-! PI, part l: names set to comprehensions; several names at once. -/
namespace PI
open PySem L2
section
variable {X : Cx} {xc : XC} {W : WX}
/-- what is stored is frozen behind the statement -/
def FrS (i : Nat) (σ : L2.St) (E : Ends) : L2.St → Hp → Prop := fun σ' H' => ∃ a xs, σ' = σ.set i (some (.ref a)) ∧ H' a = some (.lst xs) ∧ ∀ o, E.nx σ' (upd H' a (.frz o (.lst xs)))
theorem psfr {st : Stmt} {t : TS} {i : Nat} (h : PS X st t) : PS X st (fun E σ H => t { E with nx := FrS i σ E } σ H) := by
  refine ⟨fun pins s σ H E I hw => thn (h.run pins s σ H _ I hw) fun f s1 q => ?_⟩
  cases f with
  | next =>
    obtain ⟨σ', H', I', a, xs, e, hH, q⟩ := q
    obtain ⟨o, I2⟩ := I'.lock hH trivial
    exact ⟨σ', _, I2, q o⟩
  | ret v => exact q
  | brk => exact q
  | cont => exact q
theorem frs_of {K : PySem.W.Frag} {w : Wd} {H : Hp} {i : Nat} {env : Env'} {s s' : SS} {σ : L2.St} {E : Ends} {r : List D} {l : Addr} {H2 : Hp} (h : FrQ (fun v H' => E.nx (σ.set i (some v)) H') (.ref l) H2) : FrS i σ E (σ.set i (some (.ref l))) H2 := by
  obtain ⟨a, xs, e, h1, h2⟩ := h
  cases e
  exact ⟨l, xs, rfl, h1, h2⟩
theorem set_post {K : PySem.W.Frag} {E : Ends} {w : Wd} {H : Hp} {env : Env'} {s : SS} {σ : L2.St} {i : Nat} {m : Env' → M D} (rel : Rel K w env s σ H) (p : PostS K xc W E w H (asgS (.nm i) m env s)) :
    Post K xc W σ w H (fun v H' => E.nx (σ.set i (some v)) H') (m env s) := by
  unfold asgS at p
  cases q : m env s with
  | ok d s' =>
    rw [q] at p
    dsimp only at p
    cases q2 : asgT (.nm i) d env with
    | none => rw [q2] at p; exact p.elim
    | some env' =>
      rw [q2] at p
      intro v H' w' g st r
      unfold asgT at q2
      split at q2
      · cases q2
        exact p _ H' w' g ((rel.go g st).set r)
      · cases q2
  | exc c f s' => rw [q] at p; exact exc_post rel p
  | stuck => rw [q] at p; exact p
theorem pds_setLc {i : Nat} {y : Str} {py : Pos} {elt tg iter : Expr} {ifs : List Expr} {scope : Scope} {own : List (Str × Nat)} {pos spos : Pos} {t : T} {mi : Env' → M (List D)} {tst el : Env' → M D} (hc : X.calm = true) (hN : X.N.Nodup) (hy : X.N[i]? = some y) (hyl : X.env.scope.names.lookup y = some .local)
    (hsw : swapsWith (.ListComp elt [⟨tg, iter, ifs, 0⟩] scope pos) (some (.Name y py)) spos.line X.env = pure true) (hi : PI X tg iter (tI X.K xc W mi)) (ok : BlkOk X.N X.env.scope scope own)
    (hg : ∀ (s : Shared) (H : Hp) (C : Addr) (cl : List (Str × Addr)) (fp : List Addr), PG (X.blk s H scope (compEnvC scope cl C X.env) fp) tg (tG X.K t))
    (ht : ∀ (s : Shared) (H : Hp) (C : Addr) (cl : List (Str × Addr)) (fp : List Addr), PTs (X.blk s H scope (compEnvC scope cl C X.env) fp) ifs (tTst X.K xc (fun _ _ _ _ => False) tst))
    (he : ∀ (s : Shared) (H : Hp) (C : Addr) (cl : List (Str × Addr)) (fp : List Addr), PE (X.blk s H scope (compEnvC scope cl C X.env) fp) elt (tE X.K xc (fun _ _ _ _ => False) el))
    (hs : ∀ x, foldedSetIterable iter X.env x = pure x) (hsub : ∀ j ∈ slotsT t, j ∈ own.map (·.2)) :
    PS X (.Assign [.Name y py] (.ListComp elt [⟨tg, iter, ifs, 0⟩] scope pos) spos) (tS X.K xc W (asgS (.nm i) fun env => lcM (own.map (·.2)) t (mi env) tst el env)) := by
  refine psimp (psfr (i := i) (ps_setLc (te := tE X.K xc (fun _ _ _ _ => False) fun env => el env >>= frz) hc hN hy hyl hsw hi ok hg ht (fun s H C cl fp => pd_frz (he s H C cl fp)) hs)) fun E σ H ⟨w, env, s, rel, p⟩ => ?_
  refine ⟨w, env, s, rel, ?_⟩
  have p' : Post X.K xc W σ w H (fun v H' => E.nx (σ.set i (some v)) H') (M.bnd (mi env) _ s) := set_post rel p
  unfold M.bnd at p'
  cases q : mi env s with
  | ok ds s1 =>
    rw [q] at p'
    intro J H1 w1 g t1 jo l hl
    obtain ⟨Wv, h0, h1⟩ := lc_post (W := W) jo hsub (rel.go g t1) hl (p'.mono g)
    refine ⟨Wv, h0, fun j m H2 wj => ?_⟩
    rcases h1 j m H2 wj with ⟨z1, z2⟩ | z
    · exact .inl ⟨z1, frs_of (K := X.K) (w := w) (H := H) (env := env) (s := s) (s' := s) (r := []) z2⟩
    · exact .inr z
  | exc c f s' => rw [q] at p'; exact p'
  | stuck => rw [q] at p'; exact p'
theorem pds_setLc2 {i : Nat} {y : Str} {py : Pos} {elt tg iter tg1 iter1 : Expr} {ifs1 : List Expr} {scope : Scope} {own : List (Str × Nat)} {vs1 : List Nat} {pos spos : Pos} {t t2 : T} {mi mi2 : Env' → M (List D)} {tst el : Env' → M D} (hc : X.calm = true) (hN : X.N.Nodup) (hy : X.N[i]? = some y) (hyl : X.env.scope.names.lookup y = some .local)
    (hsw : swapsWith (.ListComp elt [⟨tg, iter, [], 0⟩, ⟨tg1, iter1, ifs1, 0⟩] scope pos) (some (.Name y py)) spos.line X.env = pure true) (hi : PI X tg iter (tI X.K xc W mi)) (ok : BlkOk X.N X.env.scope scope own) (hv : ∀ i ∈ vs1, i ∈ own.map (·.2))
    (hg : ∀ (s : Shared) (H : Hp) (C : Addr) (cl : List (Str × Addr)) (fp : List Addr), PG (X.blk s H scope (compEnvC scope cl C X.env) fp) tg (tG X.K t))
    (hi1 : ∀ (s : Shared) (H : Hp) (C : Addr) (cl : List (Str × Addr)) (fp : List Addr), PI (X.blk s H scope (compEnvC scope cl C X.env) fp) tg1 iter1 (tI X.K xc (fun _ _ _ _ => False) mi2))
    (hg1 : ∀ (s : Shared) (H : Hp) (C : Addr) (cl : List (Str × Addr)) (fp : List Addr), PG (X.blk s H scope (compEnvC scope cl C X.env) fp) tg1 (tG X.K t2))
    (ht1 : ∀ (s : Shared) (H : Hp) (C : Addr) (cl : List (Str × Addr)) (fp : List Addr), PTs (X.blk s H scope (compEnvC scope cl C X.env) fp) ifs1 (tTst X.K xc (fun _ _ _ _ => False) tst))
    (he : ∀ (s : Shared) (H : Hp) (C : Addr) (cl : List (Str × Addr)) (fp : List Addr), PE (X.blk s H scope (compEnvC scope cl C X.env) fp) elt (tE X.K xc (fun _ _ _ _ => False) el))
    (hs : ∀ x, foldedSetIterable iter X.env x = pure x) (hs1 : ∀ env x, foldedSetIterable iter1 env x = pure x) (hsub : ∀ j ∈ slotsT t, j ∈ own.map (·.2)) (hsub2 : ∀ j ∈ slotsT t2, j ∈ vs1) :
    PS X (.Assign [.Name y py] (.ListComp elt [⟨tg, iter, [], 0⟩, ⟨tg1, iter1, ifs1, 0⟩] scope pos) spos) (tS X.K xc W (asgS (.nm i) fun env => lc2M (own.map (·.2)) t (mi env) mi2 vs1 t2 tst el env)) := by
  refine psimp (psfr (i := i) (ps_setLc2 (te := tE X.K xc (fun _ _ _ _ => False) fun env => el env >>= frz) hc hN hy hyl hsw hi ok hv hg (fun _ _ _ _ _ => pts_nil) hi1 hg1 ht1 (fun s H C cl fp => pd_frz (he s H C cl fp)) hs hs1)) fun E σ H ⟨w, env, s, rel, p⟩ => ?_
  refine ⟨w, env, s, rel, ?_⟩
  have p' : Post X.K xc W σ w H (fun v H' => E.nx (σ.set i (some v)) H') (M.bnd (mi env) _ s) := set_post rel p
  unfold M.bnd at p'
  cases q : mi env s with
  | ok ds s1 =>
    rw [q] at p'
    intro J H1 w1 g t1 jo l hl
    obtain ⟨Wv, h0, h1⟩ := lc2_post (W := W) jo hsub hsub2 (rel.go g t1) hl (p'.mono g)
    refine ⟨Wv, h0, fun j m H2 wj => ?_⟩
    rcases h1 j m H2 wj with ⟨z1, z2⟩ | z
    · exact .inl ⟨z1, frs_of (K := X.K) (w := w) (H := H) (env := env) (s := s) (s' := s) (r := []) z2⟩
    · exact .inr z
  | exc c f s' => rw [q] at p'; exact p'
  | stuck => rw [q] at p'; exact p'
/-! ### a, b = x, y -/
theorem setsE_rel {K : PySem.W.Frag} {w : Wd} {s : SS} {H : Hp} : ∀ {is : List Nat} {ds : List D} {vs : List V} {env env' : Env'} {σ : L2.St}, Rel K w env s σ H → RepTs K w H vs ds → setsE env is ds = some env' →
    Rel K w env' s ((is.zip vs).foldl (fun σ p => σ.set p.1 (some p.2)) σ) H ∧ vs.length = is.length
  | [], [], _, env, env', σ, rel, r, e => by
    cases r
    unfold setsE at e
    cases e
    exact ⟨rel, rfl⟩
  | [], _ :: _, _, _, _, _, _, _, e => by unfold setsE at e; cases e
  | _ :: _, [], _, _, _, _, _, _, e => by unfold setsE at e; cases e
  | i :: is, d :: ds, _, env, env', σ, rel, r, e => by
    cases r with
    | @cons v vs _ _ rv rs =>
      unfold setsE at e
      split at e
      · obtain ⟨h1, h2⟩ := setsE_rel (rel.set (i := i) rv) rs e
        exact ⟨h1, by simp [h2]⟩
      · cases e
theorem par_post {K : PySem.W.Frag} {E : Ends} {w : Wd} {H : Hp} {env : Env'} {s : SS} {σ : L2.St} {is : List Nat} {ms : Env' → M (List D)} (rel : Rel K w env s σ H) (p : PostS K xc W E w H (parS is ms env s)) :
    PostA K xc W σ w H (fun vs H' => vs.length = is.length ∧ E.nx ((is.zip vs).foldl (fun σ p => σ.set p.1 (some p.2)) σ) H') (ms env s) := by
  unfold parS at p
  cases q : ms env s with
  | ok ds s' =>
    rw [q] at p
    dsimp only at p
    cases q2 : setsE env is ds with
    | none => rw [q2] at p; exact p.elim
    | some env' =>
      rw [q2] at p
      intro vs H' w' g st r
      obtain ⟨h1, h2⟩ := setsE_rel (rel.go g st) r q2
      exact ⟨h2, p _ H' w' g h1⟩
  | exc c f s' => rw [q] at p; exact exc_post rel p
  | stuck => rw [q] at p; exact p
theorem pds_par2 {i j : Nat} {x y : Str} {a b : Expr} {ms : Env' → M (List D)} {px py pt pos : Pos} {kt k2 pt2} (hc : X.calm = true) (hN : X.N.Nodup) (hi : X.N[i]? = some x) (hj : X.N[j]? = some y) (hij : i ≠ j)
    (hx : X.env.scope.names.lookup x = some .local) (hy : X.env.scope.names.lookup y = some .local) (ha : PA X [a, b] (tA X.K xc W ms))
    (hw : swappedStores [.Tuple [.Name x px, .Name y py] kt pt] (.Tuple [a, b] k2 pt2) X.env = pure (some [x, y]))
    (hs : swapsWithSole [.Tuple [.Name x px, .Name y py] kt pt] (.Tuple [a, b] k2 pt2) pos.line X.env = pure false) :
    PS X (.Assign [.Tuple [.Name x px, .Name y py] kt pt] (.Tuple [a, b] k2 pt2) pos) (tS X.K xc W (parS [i, j] ms)) :=
  psimp (ps_par hc hN hi hj hij hx hy ha hw hs) fun E σ H ⟨w, env, s, rel, p⟩ => by
    refine ⟨w, env, s, rel, (par_post rel p).imp fun vs H' ⟨hl, q⟩ => ?_⟩
    match vs, hl with
    | [v, u], _ => exact ⟨v, u, rfl, q⟩
theorem pds_par3 {i j l : Nat} {x y z : Str} {a b c : Expr} {ms : Env' → M (List D)} {px py pz pt pos : Pos} {kt k2 pt2} (hc : X.calm = true) (hN : X.N.Nodup) (hi : X.N[i]? = some x) (hj : X.N[j]? = some y) (hl : X.N[l]? = some z) (hij : i ≠ j) (hil : i ≠ l) (hjl : j ≠ l)
    (hx : X.env.scope.names.lookup x = some .local) (hy : X.env.scope.names.lookup y = some .local) (hz : X.env.scope.names.lookup z = some .local) (ha : PA X [a, b, c] (tA X.K xc W ms))
    (hw : swappedStores [.Tuple [.Name x px, .Name y py, .Name z pz] kt pt] (.Tuple [a, b, c] k2 pt2) X.env = pure (some [x, y, z]))
    (hs : swapsWithSole [.Tuple [.Name x px, .Name y py, .Name z pz] kt pt] (.Tuple [a, b, c] k2 pt2) pos.line X.env = pure false) :
    PS X (.Assign [.Tuple [.Name x px, .Name y py, .Name z pz] kt pt] (.Tuple [a, b, c] k2 pt2) pos) (tS X.K xc W (parS [i, j, l] ms)) :=
  psimp (ps_par3 hc hN hi hj hl hij hil hjl hx hy hz ha hw hs) fun E σ H ⟨w, env, s, rel, p⟩ => by
    refine ⟨w, env, s, rel, (par_post rel p).imp fun vs H' ⟨hl, q⟩ => ?_⟩
    match vs, hl with
    | [v, u, t], _ => exact ⟨v, u, t, rfl, q⟩
end
end PI

set_option maxHeartbeats 1000000
/-! PI, part m: defs and their calls. -/
namespace PI
open PySem L2 PyProof.Rows
/-- a def's promise, where no repr is under way -/
structure FnG (P : Program) (w : World) (K : PySem.W.Frag) (mg : Str → Option Value) (base : Heap) (CX : CXT) (k : Nat) (f : Addr) (fd : FuncData) (ps : List Str) (sp : Sp) : Prop where
  len : ∀ vs H Q E, sp vs H Q E → vs.length = ps.length
  run : ∀ (A : Around) (out : List Env) (s : Shared) (H : Hp) (args : Args) (us : List Value) (vs : List V) (Q : VK) (E : XK), Room k A → A.guards = some [] → Env0 P w K mg base A out s H → BindsTo s fd args (ps.zip us) →
    Vals vs us → sp vs H Q E → codeAny (model P w) A (.call (.ref f) args) (CR CX out P w H s Q E) s
theorem FnG.up {P : Program} {w : World} {K : PySem.W.Frag} {mg : Str → Option Value} {base : Heap} {CX : CXT} {j k : Nat} {f : Addr} {fd : FuncData} {ps : List Str} {sp : Sp} (F : FnG P w K mg base CX j f fd ps sp) (h : j ≤ k) : FnG P w K mg base CX k f fd ps sp :=
  ⟨F.len, fun A out s H args us vs Q E hr => F.run A out s H args us vs Q E (hr.mono h)⟩
theorem fnG_of {CX : CXT} {P : Program} {w : World} {K : PySem.W.Frag} {mg : Str → Option Value} {base : Heap} {k : Nat} {f : Addr} {name qual : Str} {params : Arguments} {body : List Stmt} {scope : Scope} {dV kV doc pm cdv ct oc : Value} {an od : Option Addr} {osl : Array (Option Value)} {N ps : List Str} {sp : Sp}
    (lk : K.lookup f = some ⟨oc, od, .func (PySem.W.fnOf name qual params body scope dV kV doc pm an cdv ct), osl⟩) (hcd : PySem.W.codeIn K cdv qual = true) (S : FnScope N ps scope)
    (len : ∀ vs H Q E, sp vs H Q E → vs.length = ps.length)
    (hb : ∀ (A : Around) (out : List Env) (s : Shared) (H : Hp) (vs : List V) (Q : VK) (E : XK), Room k (A.deeper (envOfC qual scope s.heap.objs.size f cdv)) → A.guards = some [] → sp vs H Q E →
      ∃ t, PSs (cxOf CX P w K mg base N qual scope f cdv A out s H E) body t ∧ t { nx := fun _ H' => Q .non H', rt := Q } (L2.start N vs) H) :
    FnG P w K mg base CX (k + 1) f (PySem.W.fnOf name qual params body scope dV kV doc pm an cdv ct) ps sp := by
  refine ⟨len, fun A out s H args us vs Q E hr hgd e0 bt r hsp => ?_⟩
  obtain ⟨t, pt, ht⟩ := hb A out s H vs Q E (hr.deeper _) hgd hsp
  have inK : K.In s.heap := e0.mod.kin.keeps fun b o e => (e0.bs b o e).1
  have noL : s.heap.NoLimit := e0.mod.nolimit.keeps fun b o e => (e0.bs b o e).1
  have kinds : ((ps.zip us).all fun y => scope.names.lookup y.1 == some .local || scope.names.lookup y.1 == some .cell) = true := by
    refine List.all_eq_true.mpr fun y hy => ?_
    rcases S.par y.1 (List.of_mem_zip (a := y.1) (b := y.2) hy).1 with z | z <;> rw [z] <;> rfl
  refine Att.call_fn inK noL lk hcd hr.depth bt kinds (fun s1 x => ?_) S.co S.gen S.kind
  have J := inv_start (CX := CX) (E := E) S hr.hd e0 (len _ _ _ _ hsp) r x
  refine wpAny_mono (pt.run [] s1 _ H _ J ht) (fun fl s2 z => ?_) fun _ _ z => z
  cases fl with
  | brk => exact z.elim fun _ z => z.elim fun _ z => z.2.elim
  | cont => exact z.elim fun _ z => z.elim fun _ z => z.2.elim
  | next =>
    obtain ⟨_, H2, J2, q⟩ := z
    exact ⟨.non, H2, J2.os, J2.bare, J2.base, J2.hok, rfl, q⟩
  | ret u =>
    obtain ⟨v, _, H2, J2, rv, q⟩ := z
    exact ⟨v, H2, J2.os, J2.bare, J2.base, J2.hok, rv, q⟩

/-! ### a def's meaning -/
def startE (n : Nat) (ds : List D) : Env' := ds.map some ++ List.replicate (n - ds.length) none
def cutS (n : Nat) (s : SS) : SS := { s with cs := s.cs.take n }
def fnM (n : Nat) (b : SM) (ds : List D) : M D := fun s => match b (startE n ds) s with
  | .nx _ s' => .ok .non (cutS s.cs.length s')
  | .rt d s' => if pureB d then .ok d (cutS s.cs.length s') else .stuck
  | .exc c f _ s' => .exc c f (cutS s.cs.length s')
  | _ => .stuck
abbrev wE (E : XK) : WX := fun c d _ H => E c d H
def spM (xc : XC) (K : PySem.W.Frag) (n : Nat) (m : List D → M D) : Sp := fun vs H Q E => vs.length = n ∧ ∃ w ds s, Sto K w s H ∧ RepTs K w H vs ds ∧ Post K xc (wE E) [] w H Q (m ds s)
theorem repTs_get {K : PySem.W.Frag} {w : Wd} {H : Hp} : ∀ {vs : List V} {ds : List D} {i : Nat} {d : D}, RepTs K w H vs ds → ds[i]? = some d → ∃ v, vs[i]? = some v ∧ RepT K w H v d
  | _, _, _, _, .nil, e => by simp at e
  | _, _, 0, _, .cons h _, e => by simp at e; subst e; exact ⟨_, rfl, h⟩
  | _, _, i + 1, d, .cons _ r, e => by
    obtain ⟨v, h1, h2⟩ := repTs_get (i := i) (d := d) r (by simpa using e)
    exact ⟨v, by simpa using h1, h2⟩
theorem rel_start {K : PySem.W.Frag} {w : Wd} {H : Hp} {s : SS} {N : List Str} {vs : List V} {ds : List D} (t : Sto K w s H) (r : RepTs K w H vs ds) : Rel K w (startE N.length ds) s (L2.start N vs) H := by
  have hl := r.length
  refine ⟨?_, fun i d e => ?_, t⟩
  · unfold startE L2.start
    simp [hl]
  · unfold startE at e
    unfold L2.start
    by_cases hi : i < ds.length
    · rw [List.getElem?_append_left (by simpa using hi), List.getElem?_map] at e
      cases q : ds[i]? with
      | none => rw [q] at e; cases e
      | some d' =>
        rw [q] at e
        cases e
        obtain ⟨v, h1, h2⟩ := repTs_get r q
        refine ⟨v, ?_, h2⟩
        rw [List.getElem?_append_left (by rw [List.length_map, hl]; exact hi), List.getElem?_map, h1]
        rfl
    · rw [List.getElem?_append_right (by simpa using hi), List.getElem?_replicate] at e
      split at e <;> cases e
/-- behind a call: what it made is forgotten -/
theorem cut_go {K : PySem.W.Frag} {w w' : Wd} {H H' : Hp} {s s' : SS} (t : Sto K w s H) (g : Go w H w' H') (t' : Sto K w' s' H') : ∃ w2, Go w H w2 H' ∧ Sto K w2 (cutS s.cs.length s') H' := by
  obtain ⟨ext, he⟩ := g.pre
  have hl := t.len
  have hl' := t'.len
  refine ⟨⟨w'.m, w.ρ⟩, ⟨g.kp, fun a ha => ?_, ⟨[], by simp⟩, g.ms⟩, t'.m, ?_, fun i a c h1 h2 => ?_, ?_⟩
  · refine g.gr a ?_
    unfold Wd.ws at ha ⊢
    rcases List.mem_append.mp ha with z | z
    · exact List.mem_append_left _ z
    · exact List.mem_append_right _ (by rw [he]; exact List.mem_append_left _ z)
  · show w.ρ.length = (s'.cs.take s.cs.length).length
    rw [List.length_take, ← hl', he, List.length_append]
    omega
  · have h1 : w.ρ[i]? = some a := h1
    have hi : i < w.ρ.length := (List.getElem?_eq_some_iff.mp h1).1
    have h2 : (s'.cs.take s.cs.length)[i]? = some c := h2
    rw [List.getElem?_take_of_lt (by omega)] at h2
    refine t'.cs i a c ?_ h2
    rw [he, List.getElem?_append_left hi]
    exact h1
  · have nd := t'.nd
    unfold Wd.ws at nd ⊢
    rw [he, ← List.append_assoc] at nd
    exact (List.nodup_append.mp nd).1
theorem fn_post {K : PySem.W.Frag} {xc : XC} {w : Wd} {H : Hp} {s : SS} {n : Nat} {ds : List D} {b : SM} {Q : VK} {E : XK} (t : Sto K w s H) (p : Post K xc (wE E) [] w H Q (fnM n b ds s)) :
    PostS K xc (wE E) { nx := fun _ H' => Q .non H', rt := Q } w H (b (startE n ds) s) := by
  unfold fnM at p
  cases q : b (startE n ds) s with
  | nx env' s' =>
    rw [q] at p
    intro σ' H' w' g rel
    obtain ⟨w2, g2, t2⟩ := cut_go t g rel.st
    exact p .non H' w2 g2 t2 (.of .non)
  | rt d s' =>
    rw [q] at p
    dsimp only at p
    intro v H' w' g t' r
    split at p
    · rename_i hp
      obtain ⟨w2, g2, t2⟩ := cut_go t g t'
      exact p v H' w2 g2 t2 (.of (r.pure hp))
    · exact p.elim
  | exc c f env' s' =>
    rw [q] at p
    intro x v σ' H' w' g rel e r
    obtain ⟨w2, g2, t2⟩ := cut_go t g rel.st
    exact p x v H' w2 g2 t2 e r
  | brk _ _ => rw [q] at p; exact p.elim
  | cont _ _ => rw [q] at p; exact p.elim
  | stuck => rw [q] at p; exact p.elim
/-- what a name of the module that is a def gives -/
structure FnAt (P : Program) (w : World) (K : PySem.W.Frag) (mg : Str → Option Value) (base : Heap) (xc : XC) (k : Nat) (x : Str) (ps : List Str) (m : List D → M D) : Prop where
  at_ : ∃ (f : Addr) (fd : FuncData), mg x = some (.ref f) ∧ PySem.W.keepIn K (.ref f) = true ∧ Binds K fd ps [] ∧ FnG P w K mg base (L2.CX P w) k f fd ps (spM xc K ps.length m)
theorem FnAt.up {P : Program} {w : World} {K : PySem.W.Frag} {mg : Str → Option Value} {base : Heap} {xc : XC} {j k : Nat} {x : Str} {ps : List Str} {m : List D → M D} (F : FnAt P w K mg base xc j x ps m) (h : j ≤ k) : FnAt P w K mg base xc k x ps m := by
  obtain ⟨f, fd, h1, h2, h3, h4⟩ := F.at_
  exact ⟨f, fd, h1, h2, h3, h4.up h⟩
section
variable {X : Cx} {xc : XC} {W : WX}
theorem call_post {K : PySem.W.Frag} {σ : L2.St} {w : Wd} {H : Hp} {Q : VK} : ∀ {r : R D}, Post K xc W σ w H Q r → Post K xc (wE (WE W σ)) [] w H Q r
  | .ok _ _, p => p
  | .exc _ _ _, p => p
  | .stuck, p => p
theorem callG {k : Nat} {f : Addr} {fd : FuncData} {ps : List Str} {sp : Sp} {pins : List (Addr × Obj)} {σ : L2.St} {H : Hp} {s : Shared} {Q : VK} {us : List Value} {vs : List V} (F : FnG X.prog X.w X.K X.mg X.base (L2.CX X.prog X.w) k f fd ps sp) (hr : Room k X.A) (hgd : X.A.guards = some []) (hb : Binds X.K fd ps []) (tk : Takes X W)
    (I : Inv X pins σ H s) (r : Vals vs us) (h : sp vs H Q (WE W σ)) : wpAny (model X.prog X.w) X.A (call (.ref f) us) (EP X pins σ Q) X.xe s := by
  have e : us ++ [] = us := List.append_nil us
  have b := hb s us I.kIn (by rw [e, ← r.length]; exact F.len _ _ _ _ h)
  rw [e] at b
  refine wpAny_call (codeAny_mono (F.run X.A X.stack s H ⟨us, []⟩ us vs Q (WE W σ) hr hgd I.env0 b r h) fun res s' z => ?_)
  cases res with
  | error x => exact passAt tk σ pins H s x s' I z
  | ok fl =>
    cases fl with
    | ret u => exact I.after z
    | next => exact z.elim
    | brk => exact z.elim
    | cont => exact z.elim
theorem pd_call {k : Nat} {x : Str} {ps : List Str} {p pos : Pos} {e : Expr} {es : List Expr} {m : List D → M D} {ms : Env' → M (List D)} (F : FnAt X.prog X.w X.K X.mg X.base xc k x ps m) (hr : Room k X.A) (hgd : X.A.guards = some []) (hg : Gl X x) (tk : Takes X W)
    (hn : ∀ env s ds s', ms env s = .ok ds s' → ds.length = ps.length) (ha : PA X (e :: es) (tA X.K xc W ms)) (hdb : (x == ("__debug__" : Str)) = false) (he : starEach (e :: es) X.env = (false, eval e X.env) :: starEach es X.env) (hpl : (backTo pos (starEach es X.env)).any (·.1) = false) :
    PE X (.Call (.Name x p) (e :: es) [] pos) (tE X.K xc W fun env => ms env >>= m) := by
  obtain ⟨f, fd, h1, h2, h3, h4⟩ := F.at_
  refine ⟨fun pins s σ H Q I ⟨w, env, s0, rel, q⟩ => wpAny_Call_Name_kw (ld_glob I hg h1 ?_ hdb)⟩
  have q1 : tA X.K xc W ms σ H fun vs H1 => spM xc X.K ps.length m vs H1 Q (WE W σ) := by
    have z := Post.bindA q
    refine ⟨w, env, s0, rel, ?_⟩
    cases em : ms env s0 with
    | ok ds s1 =>
      rw [em] at z
      have hlen := hn env s0 ds s1 em
      have q' : Post X.K xc W σ w H Q (M.bnd (ms env) m s0) := q
      unfold M.bnd at q'
      rw [em] at q'
      intro vs H1 w1 g t r
      exact ⟨by rw [r.length, hlen], w1, ds, s1, t, r, call_post (q'.mono g)⟩
    | exc c d s1 => rw [em] at z; exact z
    | stuck => rw [em] at z; exact z
  refine PySem.W.callWith_K (h₀ := X.base) I.ok.mod.kin h2 (thn (ha.run pos pins s σ H _ I q1) fun us s1 ⟨vs, H1, I1, r, z⟩ => ⟨I1.kIn, callG h4 hr hgd h3 tk I1 r z⟩) he hpl
theorem pd_call0 {k : Nat} {x : Str} {p pos : Pos} {m : List D → M D} (F : FnAt X.prog X.w X.K X.mg X.base xc k x [] m) (hr : Room k X.A) (hgd : X.A.guards = some []) (hg : Gl X x) (tk : Takes X W) (hdb : (x == ("__debug__" : Str)) = false) :
    PE X (.Call (.Name x p) [] [] pos) (tE X.K xc W fun _ => m []) := by
  obtain ⟨f, fd, h1, h2, h3, h4⟩ := F.at_
  refine ⟨fun pins s σ H Q I ⟨w, env, s0, rel, q⟩ => wpAny_Call_Name_kw (ld_glob I hg h1 ?_ hdb)⟩
  exact PySem.W.callWith_K0 I.kIn h2 (callG (us := []) (vs := []) h4 hr hgd h3 tk I .nil ⟨rfl, w, [], s0, rel.st, .nil, call_post q⟩)
/-- a def of the module, by its body -/
theorem fnAt_of {P : Program} {w : World} {K : PySem.W.Frag} {mg : Str → Option Value} {base : Heap} {k : Nat} {x : Str} {st : Stmt} {f : Addr} {fd : FuncData} {N ps : List Str} {b : SM} (F : Fun K x x st f fd) (hm : mg x = some (.ref f)) (S : FnScope N ps (defScope st))
    (hb : ∀ (kV doc pm : Value) (an : Option Addr) (cdv ct : Value) (us : List Value), us.length = ps.length → bindArgs (PySem.W.fnOf x x (defArgs st) (defBody st) (defScope st) .none kV doc pm an cdv ct) ⟨us, []⟩ = pure (ps.zip us))
    (body : ∀ (cdv : Value) (A : Around) (out : List Env) (s : Shared) (H : Hp) (E : XK), Room k (A.deeper (envOfC x (defScope st) s.heap.objs.size f cdv)) → A.guards = some [] →
      Takes (cxOf (L2.CX P w) P w K mg base N x (defScope st) f cdv A out s H E) (wE E) → PassesOwn (model P w) (A.deeper (envOfC x (defScope st) s.heap.objs.size f cdv)) (envOfC x (defScope st) s.heap.objs.size f cdv) (cxOf (L2.CX P w) P w K mg base N x (defScope st) f cdv A out s H E).xe →
      PSs (cxOf (L2.CX P w) P w K mg base N x (defScope st) f cdv A out s H E) (defBody st) (tS K xc (wE E) b)) :
    FnAt P w K mg base xc (k + 1) x ps (fnM N.length b) := by
  refine ⟨f, fd, hm, F.kp, F.binds hb, ?_⟩
  obtain ⟨oc, od, kV, doc, pm, an, cdv, ct, osl, rfl, lk, hcd⟩ := F.ex
  refine fnG_of lk hcd S (fun vs H Q E z => z.1) fun A out s H vs Q E hr hgd z => ?_
  obtain ⟨_, w0, ds, s0, t0, r0, p0⟩ := z
  refine ⟨_, body cdv A out s H E hr hgd (takes_of rfl rfl rfl rfl) (passes_of rfl), ?_⟩
  exact ⟨w0, startE N.length ds, s0, rel_start t0 r0, fn_post t0 p0⟩
end
end PI

set_option maxHeartbeats 2000000
/-! PI, part x: an own exception (a ValueError) whose __init__ says super().__init__(text); self.f = p. -/
namespace PI
open PySem L2 PyProof.Rows
/-- the text of such an __init__ -/
def initBody (msg f pn : Str) (j : Nat) (q : Nat → Pos) : List Stmt :=
  [.Expr (.Call (.Attribute (.Call (.Name "super" (q 0)) [] [] (q 1)) "__init__" (q 2)) [.Constant (.str msg) j (q 3)] [] (q 4)) (q 5),
   .Assign [.Attribute (.Name "self" (q 6)) f (q 7)] (.Name pn (q 8)) (q 9)]
/-- what the written part says of the class at C, of its __init__ -/
structure SupC (P : Program) (K : PySem.W.Frag) (C : Addr) (f : Str) : Prop where
  T : OexC K C
  ini : ∃ (fI cc cda : Addr) (qual : Str) (params : Arguments) (msg pn : Str) (j : Nat) (q : Nat → Pos) (scope : Scope) (kV doc pm ct oc : Value) (an od : Option Addr) (osl : Array (Option Value)) (vs : Array Value) (file : Str) (tf : Tok) (ccl cl : Value) (cdd cld : Option Addr) (ccs csl : Array (Option Value)) (ar : Arg),
    PySem.W.findIn K (.ref C) "__init__" = some (some (.ref fI)) ∧ PySem.W.typeIn K (.ref fI) = some (.type "function") ∧
    K.lookup fI = some ⟨oc, od, .func (PySem.W.ksFn "__init__" qual params (initBody msg f pn j q) scope .none kV doc pm an (.ref cda) ct cc), osl⟩ ∧
    PySem.W.codeIn K (.ref cda) qual = true ∧ K.lookup cda = some ⟨ccl, cdd, .fields vs, ccs⟩ ∧ vs[2]? = some (.str file tf) ∧ ((P.main.file : Str) == file) = true ∧
    K.lookup cc = some ⟨cl, cld, .cell (some (.ref C)), csl⟩ ∧ (params.posonlyargs ++ params.args).head? = some ar ∧ ar.arg = ("self" : Str) ∧
    (∀ a u : Value, bindArgs (PySem.W.ksFn "__init__" qual params (initBody msg f pn j q) scope .none kV doc pm an (.ref cda) ct cc) ⟨[a, u], []⟩ = pure [(("self" : Str), a), (pn, u)]) ∧
    scope.names.lookup ("super" : Str) = some .globalImplicit ∧ scope.names.lookup ("__class__" : Str) = some .free ∧ scope.names.lookup ("self" : Str) = some .local ∧ scope.names.lookup pn = some .local ∧
    (∀ x ∈ scope.names, x.2 ≠ .cell) ∧ scope.kind = .function ∧ scope.isCoroutine = false ∧ scope.isGenerator = false ∧ pn ≠ ("self" : Str) ∧ (pn == ("__debug__" : Str)) = false ∧ ((q 2).endLine == (q 4).line) = true
  sup : PySem.W.ks_superIn K C C "__init__" = some (some (.builtin "ValueError.__init__"))
  ve : PySem.W.subIn K (.ref C) (.type "ValueError") = some true
  opq : PySem.W.nsIn K cStatics "thirdparty.any" = some none
  sub : PySem.W.mroIn K C (.ref C) = some true
  fld : PySem.W.findIn K (.ref C) f = some none
  top : (P.main.scope.names.lookup ("super" : Str)).isSome = false
section
variable {P : Program} {w : World} {A : Around} {K : PySem.W.Frag}
theorem sup_eval {env : Env} {o c : Expr} {name : Str} {apos pos : Pos} (hc : starEach [c] env = [(false, eval c env)]) (h : (apos.endLine == pos.line) = true) : eval (.Call (.Attribute o name apos) [c] [] pos) env = (do
      let ov ← attributeBase o name env (eval o env)
      standAt apos.atName
      let (f, first) ← holding [ov] (getMethod ov name (do return (← importBound o env).getD true))
      callWith pos f first (backTo pos (starEach [c] env)) []) := by
  show (do
    let ov ← attributeBase o name env (eval o env)
    standAt apos.atName
    methodCall o name apos pos env ov 1 (backTo pos (starEach [c] env)) []) = _
  have hform : methodCallForm 1 (backTo pos (starEach [c] env)) [] = true := by rw [hc]; rfl
  have hpos : methodCallPos true o env apos pos = pure pos := by unfold methodCallPos; simp [h]
  unfold methodCall
  rw [hform, hpos]
  rfl
theorem init_walk {C e t0 : Addr} {f : Str} {u : Value} {R : Result → Shared → Prop} {mg mb : Str → Option Value} {hp : Heap} {g : Array GenState} {d : Drawn} {t : Nat} {os : OsState} (S : SupC P K C f) (X : K.In hp) (G : hp.Ns mainGlobals mg) (B : hp.Ns builtinsNs mb)
    (hms : mg "super" = none) (hbs : mb "super" = some (.type "super")) (lim : hp.NoLimit) (room : A.depth < recursionLimit) (he : hp.get? e = some (PySem.HandSPX.excO C t0)) (hKe : K.lookup e = none) {fI : Addr} (hfI : PySem.W.findIn K (.ref C) "__init__" = some (some (.ref fI)))
    (hR : ∀ h' dx t1 tk, (∀ b o, b ≠ e → hp.get? b = some o → h'.get? b = some o) → hp.objs.size ≤ dx → dx ≠ e → h'.get? e = some ({ cls := .ref C, dict := some dx, data := .fields #[.ref t1, .none, .none, .none, .bool false, .none] } : Obj) →
      h'.Ns1 dx (fun y => if y = f then some u else none) → R (.ok (.ret .none)) ⟨h', g, d, tk, os⟩) :
    codeAny (model P w) A (.call (.ref fI) ⟨[.ref e, u], []⟩) R ⟨hp, g, d, t, os⟩ := by
  obtain ⟨fI', cc, cda, qual, params, msg, pn, j, q, scope, kV, doc, pm, ct, oc, an, od, osl, vs, file, tf, ccl, cl, cdd, cld, ccs, csl, ar, i1, i2, i3, i4, i5, i6, i7, i8, i9, i10, i11, i12, i13, i14, i15, i16, i17, i18, i19, i20, i21, i22⟩ := S.ini
  rw [hfI] at i1
  cases i1
  obtain ⟨nm, qn, Nn, bs, bm, sn, sb, ab, col, dd, k0, k1, k2, k3, k5, hC, hbm⟩ := S.T.cls
  have hcl : PySem.W.clsIn K C = some { name := nm, bases := bs, mro := .ref C :: bm, ns := Nn, qualname := qn, hasDict := true, slotNames := sn, subclasses := sb, abstract := ab, collection := col, hasDel := false } := by unfold PySem.W.clsIn; rw [hC] <;> rfl
  refine ks_codeAny_call_defAt (fd := PySem.W.ksFn "__init__" qual params (initBody msg f pn j q) scope .none kV doc pm an (.ref cda) ct cc) (body := initBody msg f pn j q) (binds := [(("self" : Str), .ref e), (pn, u)]) room (X _ _ i3) rfl lim (PySem.W.codeRec_of X i4) rfl (.of_eq (i11 _ _)) i16 (fun y hy => ?_) (fun h1 hns hk => ?_) i18 i19 i17
  · rcases List.mem_cons.mp hy with z | z
    · rw [z]; exact i14
    · rw [List.mem_singleton.mp z]; exact i15
  have X1 : K.In h1 := X.keeps hk
  have he1 := hk _ _ he
  have eself : (fun x => [(("self" : Str), Value.ref e), (pn, u)].reverse.lookup x) ("self" : Str) = some (.ref e) := by
    show List.lookup ("self" : Str) [(pn, u), (("self" : Str), Value.ref e)] = _
    rw [List.lookup_cons, show (("self" : Str) == pn) = false from beq_eq_false_iff_ne.mpr (Ne.symm i20)]
    simp
  have epn : (fun x => [(("self" : Str), Value.ref e), (pn, u)].reverse.lookup x) pn = some u := by
    show List.lookup pn [(pn, u), (("self" : Str), Value.ref e)] = _
    simp
  have hD1 := X1 _ _ hC
  have nI : interactive (callEnv (PySem.W.ksFn "__init__" qual params (initBody msg f pn j q) scope .none kV doc pm an (.ref cda) ct cc) hp.objs.size fI) = false := by
    show (scope.kind == .module && _) = false
    rw [i17]; rfl
  unfold initBody
  refine ks_wpAt_execs_cons (ks_wpAt_Expr_any (ks_wpAt_MethodCall (ks_wpAt_super_base (f := fI) (cc := cda) i12 i13 (by decide) rfl (X1 _ _ i3) rfl i9 rfl (X1 _ _ i5) rfl i6 i7 S.top ?_) (sup_eval rfl i22)) nI rfl)
  refine PySem.W.ks_loadName_global i17 i12 (Calls.loadGlobal_builtin (G.keeps hk) hms (B.keeps hk) hbs ⟨rfl, ?_⟩)
  refine wpAny_loadName_free i17 i13 rfl ⟨_, X1 _ _ i8, rfl⟩ ?_
  refine wpAny_loadName_local i17 (by rw [i10]; exact i14) hns (by rw [i10]; exact eself) ?_
  refine ks_wpAny_isType_cls hD1 rfl ⟨rfl, ?_⟩
  refine ks_wpAny_call_super hD1 rfl he1 rfl (fun c z => nomatch z) (PySem.W.looks_mroIn X1 S.sub) (fun h2 e2 k2 => ?_)
  have X2 : K.In h2 := X1.keeps k2
  have LT : PySem.W.Looks (model P w) h2 (typeOf (.ref e)) (.ref C) := fun A Q E s k q => wpAny_typeOf_ref (k _ _ (k2 _ _ he1)) q
  have hI : PySem.W.Looks (model P w) h2 (isInstance (.ref e) (.type "ValueError")) true := LT.andThen (PySem.W.looks_subIn X2 S.ve)
  have hsup := S.sup
  unfold PySem.W.ks_superIn at hsup
  rw [hcl] at hsup
  have hmro : PySem.W.Looks (model P w) h2 (mroOf (.ref C)) (.ref C :: bm) := fun A Q E s k q => wpAny_bind ((PySem.W.looks_clsIn X2 hcl) A _ E s k (wpAny_pure q))
  have hne : e ≠ C := fun z => by
    rw [z] at he1
    rw [hD1] at he1
    cases he1
  refine PySem.W.kxs_getMethod PySem.W.kxs_ValueError e2 (PySem.W.looks_opaque X2 S.opq) hmro rfl X2 hsup hI hne (by decide) ?_
  have hmw : (h2.push (PySem.W.kxs_mw "ValueError.__init__" e)).get? h2.objs.size = some (PySem.W.kxs_mw "ValueError.__init__" e) := Heap.get?_push_at rfl rfl
  have k3 : ∀ b o, h2.get? b = some o → (h2.push (PySem.W.kxs_mw "ValueError.__init__" e)).get? b = some o := fun b o z => Heap.get?_push_of_some _ z
  refine PySem.W.kxs_callWith (i := "ValueError.__init__") (x := e) rfl (Calls.evalArgs_plain (Calls.spliced_cons (Calls.Constant_str (k := j) (pos := q 3) (Calls.spliced_nil ⟨hmw, ?_⟩))))
  have X3 := X2.keeps k3
  have he3 := k3 _ _ (k2 _ _ he1)
  refine wpAny_call (codeAny_of_tree ?_)
  show wpAny _ _ (callAny (.ref h2.objs.size) ⟨[Value.str msg _], []⟩) _ _ _
  simp only [callAny]
  refine wpAny_bind (wpAny_load hmw ?_)
  simp only [show (Value.type "method-wrapper" == Value.type "method" || Value.type "method-wrapper" == Value.type "builtin_function_or_method" || Value.type "method-wrapper" == Value.type "method-wrapper") = true by decide, if_true]
  refine PySem.W.KFB.if_so (by decide) (wpAny_bind (PySem.W.check_bound_init F.excBase_ValueError.toExcCallFacts (X3 _ _ hC) he3 rfl (wpAny_bind (wpAny_pure (wpAny_pure ⟨plainId_quiet F.excBase_ValueError.init.plain _, codeAny_builtin F.excBase_ValueError.initEntry ?_⟩)))))
  refine PySem.W.exc_init_tree (cls := .ref C) (t0 := t0) (dv := none) (c2 := .none) (c3 := .none) (b4 := .bool false) he3 (by show 1 ≤ sizeLine; decide) fun h4 k4 he4 _ => ?_
  have hns4 : h4.Ns hp.objs.size (fun x => [(("self" : Str), Value.ref e), (pn, u)].reverse.lookup x) := by
    obtain ⟨oL, es, ep, hL, r⟩ := hns
    have nL : hp.objs.size ≠ e := fun z => absurd (Heap.lt_size he) (by rw [z]; exact Nat.lt_irrefl _)
    exact ⟨oL, es, ep, k4 _ _ nL (k3 _ _ (k2 _ _ hL)), r⟩
  have kk : ∀ b o, b ≠ e → hp.get? b = some o → h4.get? b = some o := fun b o hb z => k4 b o hb (k3 _ _ (k2 _ _ (hk _ _ z)))
  have nKe : K.lookup e = none := hKe
  have X4 : K.In h4 := fun b o z => kk b o (fun y => by rw [y, nKe] at z; cases z) (X _ _ z)
  refine ks_wpAt_execs_cons (wpAt_of_wpAny (plainObj_wpAny_Assign_Attribute (wpAny_Name (wpAny_loadName_local i17 i15 hns4 epn (wpAny_Name (wpAny_loadName_local i17 i14 hns4 eself ?_))) i21) ?_))
  · refine PySem.W.set_plain X4 (ox := { cls := .ref C, dict := none, data := .fields #[.ref (h2.push (PySem.W.kxs_mw "ValueError.__init__" e)).objs.size, .none, .none, .none, .bool false, .none] }) (od := none) ⟨he4, rfl, rfl, trivial⟩ S.T.sa ?_
    refine PySem.HandSPX.exc_osa X4 he4 hcl (show PySem.HandSPX.refsVE (.ref C :: bm) = true from hbm) rfl S.fld (fun h5 tk5 dx k5 hdx dne he5 hn5 => ?_)
    refine wpAt_of_wpAny (wpAny_execs_nil ?_)
    exact hR h5 dx _ tk5 (fun b o hb z => k5 b o hb (kk b o hb z)) (Nat.le_trans (Nat.le_of_lt hns4.lt) hdx) dne he5 hn5
  · rfl
end
/-- X(e): an exception with its field -/
def tSup (C : Addr) (f : Str) (te : TE) : L2.St → Hp → XK → Prop := fun σ H Q => te σ H fun v H1 => ∀ d, H1 d = none → Q (.ref C) (some d) (upd H1 d (.xd [(f, v)]))
theorem pmk_sup {X : Cx} {x f : Str} {C : Addr} {e : Expr} {te : TE} {p pos : Pos} (S : SupC X.prog X.K C f) (hr : Room 1 X.A) (hg : Gl X x) (hm : X.mg x = some (.ref C)) (hms : X.mg "super" = none) (he : PE X e te)
    (hdb : (x == ("__debug__" : Str)) = false) (hst : starEach [e] X.env = [(false, eval e X.env)]) : PMk X (.Call (.Name x p) [e] [] pos) (tSup C f te) := by
  intro pins s σ H Q I h
  refine wpAny_Call_Name_kw (ld_glob I hg hm ?_ hdb)
  refine PySem.W.callWith_K (h₀ := X.base) I.ok.mod.kin S.T.kC (thn ((pa_cons he pa_nil hst).run pos pins s σ H (fun vs H1 => match vs with | [v] => ∀ d, H1 d = none → Q (.ref C) (some d) (upd H1 d (.xd [(f, v)])) | _ => False) I h) fun us s1 ⟨vs, H1, I1, r1, q⟩ => ⟨I1.kIn, ?_⟩) hst rfl
  match vs, q, r1 with
  | [v], q, r1 =>
  obtain ⟨u, rfl, ru⟩ : ∃ u, us = [u] ∧ RelV v u := by
    cases r1 with
    | cons a b => cases b; exact ⟨_, rfl, a⟩
  show wpAny _ _ (call (.ref C) [u]) _ _ _
  obtain ⟨nm, qn, Nn, bs, bm, sn, sb, ab, col, dd, k0, k1, k2, k3, k5, hC, hbm⟩ := S.T.cls
  obtain ⟨fI, hfI, tI⟩ : ∃ fI, PySem.W.findIn X.K (.ref C) "__init__" = some (some (.ref fI)) ∧ PySem.W.typeIn X.K (.ref fI) = some (.type "function") := by
    obtain ⟨fI, _, _, _, _, _, _, _, _, _, _, _, _, _, _, _, _, _, _, _, _, _, _, _, _, _, _, _, i1, i2, _⟩ := S.ini
    exact ⟨fI, i1, i2⟩
  obtain ⟨hp, g, dr, tk, os⟩ := s1
  have hsz : hp.objs.size ≤ hp.objs.size + 1 := Nat.le_succ _
  have hn : H1 (hp.objs.size + 1) = none := I1.hok.fresh hsz
  have kk : ∀ b o, hp.get? b = some o → ((hp.push (PySem.W.kdv_tup [u])).push (PySem.HandSPX.excO C hp.objs.size)).get? b = some o := fun b o z => Heap.get?_push_of_some _ (Heap.get?_push_of_some _ z)
  have hget : ((hp.push (PySem.W.kdv_tup [u])).push (PySem.HandSPX.excO C hp.objs.size)).get? (hp.objs.size + 1) = some (PySem.HandSPX.excO C hp.objs.size) := by heap_get
  have X1 := I1.kIn
  have nK : X.K.lookup (hp.objs.size + 1) = none := by
    cases z : X.K.lookup (hp.objs.size + 1) with
    | none => rfl
    | some o => exact absurd (Heap.lt_size (X1 _ _ z)) (Nat.not_lt.mpr hsz)
  obtain ⟨mb, hb1, hb2⟩ := I1.mod.blt
  have bk : ∀ b o, X.base.get? b = some o → ((hp.push (PySem.W.kdv_tup [u])).push (PySem.HandSPX.excO C hp.objs.size)).get? b = some o := fun b o z => kk b o (I1.bk b o z)
  refine wpAny_call (PySem.HandSPX.call_own F.excBase_ValueError (fun Y => PySem.HandSPX.refsVE_contains Y bm hbm) (X1 _ _ hC) (PySem.W.looks_findIn X1 hfI) (fun self => PySem.W.bind_fn X1 self tI) (by show 1 ≤ sizeLine; decide) ?_)
  refine init_walk S (X1.keeps kk) (I1.mod.glob.keeps bk) (hb1.keeps bk) hms ((hb2 _ (by decide)).trans (by first | rfl | kernel_rfl)) (I1.nolimit.keeps kk) (hr.make C [u] []).depth hget nK hfI fun h2 dx t1 tk2 k2' hdx dne he2 hn2 => ⟨rfl, ?_⟩
  have hdx' : hp.objs.size ≤ dx := Nat.le_trans (Nat.le_trans hsz (Nat.le_succ _)) (by simpa [Heap.push] using hdx)
  have hnd : H1 dx = none := I1.hok.fresh hdx'
  have new : ∀ {b : Addr} {o : Obj}, ((hp.push (PySem.W.kdv_tup [u])).push (PySem.HandSPX.excO C hp.objs.size)).get? b = some o → b ≠ dx := fun {b o} z y => absurd (Heap.lt_size z) (by rw [y]; exact Nat.not_lt.mpr hdx)
  have na : ∀ {b : Addr}, upd H1 (hp.objs.size + 1) (exo (hp.objs.size + 1) C none) b = none → b ≠ hp.objs.size + 1 := fun {b} z y => by rw [y, upd_same] at z; cases z
  have hua : upd H1 (hp.objs.size + 1) (exo (hp.objs.size + 1) C none) (hp.objs.size + 1) = some (exo (hp.objs.size + 1) C none) := upd_same
  have off : ∀ {b : Addr} {o : HO}, upd H1 (hp.objs.size + 1) (exo (hp.objs.size + 1) C none) b = some o → exo (hp.objs.size + 1) C none ≠ o → H1 b = some o ∧ b ≠ hp.objs.size + 1 := fun {b o} z y => by
    have ne := at_ne hua z y
    rw [upd_ne ne] at z
    exact ⟨z, ne⟩
  have hok0 : HOk X.prog X.w (upd H1 (hp.objs.size + 1) (exo (hp.objs.size + 1) C none)) ((hp.push (PySem.W.kdv_tup [u])).push (PySem.HandSPX.excO C hp.objs.size)) := I1.hok.laid kk hsz (exo_ok hget)
  have U : Un (frs X.stack) [] (upd H1 (hp.objs.size + 1) (exo (hp.objs.size + 1) C none)) (upd (upd H1 dx (exd dx [(f, v)])) (hp.objs.size + 1) (exo (hp.objs.size + 1) C (some dx))) ((hp.push (PySem.W.kdv_tup [u])).push (PySem.HandSPX.excO C hp.objs.size)) h2 := by
    refine ⟨fun b o z n _ _ => k2' b o (na n) z, fun b o z n _ _ => ⟨o.slots, k2' b o (na n) z⟩, fun b o z n _ => ?_, fun b o z _ => ?_, fun b xs z => ?_, fun b o y z => ?_, fun b ps z => ?_⟩
    · rw [upd_ne (na n), upd_ne (new z)]
      rw [upd_ne (na n)] at n
      exact n
    · by_cases hb : b = hp.objs.size + 1
      · exact ⟨_, by rw [hb]; exact he2⟩
      · exact ⟨o, k2' b o hb z⟩
    · obtain ⟨z1, z2⟩ := off z exo_tup
      rw [upd_ne z2, upd_ne (ne_of_none z1 hnd)]; exact z1
    · obtain ⟨z1, z2⟩ := off z exo_frz
      rw [upd_ne z2, upd_ne (ne_of_none z1 hnd)]; exact z1
    · obtain ⟨z1, z2⟩ := off z exo_tbl
      exact ⟨#[], by rw [upd_ne z2, upd_ne (ne_of_none z1 hnd), z1]; simp⟩
  have hok2 : HOk X.prog X.w (upd (upd H1 dx (exd dx [(f, v)])) (hp.objs.size + 1) (exo (hp.objs.size + 1) C (some dx))) h2 := fun b o z => by
    by_cases hb : b = hp.objs.size + 1
    · subst hb
      rw [upd_same] at z
      cases z
      exact exo_ok he2
    · rw [upd_ne hb] at z
      by_cases hd : b = dx
      · subst hd
        rw [upd_same] at z
        cases z
        exact exd_ok hn2 (relO_put (fs := []) ru fun g => trivial)
      · rw [upd_ne hd] at z
        refine (hok0 b o (by rw [upd_ne hb]; exact z)).stay (fun c y hc w => k2' c y ?_ w) (fun c hc => ?_) (fun c xs hc => ?_)
        · rcases hc with hc | hc
          · rw [hc]; exact hb
          · exact (off hc exo_own).2
        · obtain ⟨z1, z2⟩ := off hc exo_own
          rw [upd_ne z2, upd_ne (ne_of_none z1 hnd)]; exact z1
        · obtain ⟨z1, z2⟩ := off hc exo_tup
          rw [upd_ne z2, upd_ne (ne_of_none z1 hnd)]; exact z1
  have hdel : upd (del (upd (upd H1 dx (exd dx [(f, v)])) (hp.objs.size + 1) (exo (hp.objs.size + 1) C (some dx))) (hp.objs.size + 1)) dx (.xd [(f, v)]) = upd H1 dx (.xd [(f, v)]) := by
    funext b
    by_cases hd : b = dx
    · rw [hd, upd_same, upd_same]
    · rw [upd_ne hd, upd_ne hd]
      by_cases hb : b = hp.objs.size + 1
      · rw [hb, del_same, hn]
      · rw [del_ne hb, upd_ne hb, upd_ne hd]
  exact mk_end (raises_own S.T.exC S.T.tyC) I1 hsz kk U hok2 rfl I1.bare upd_same (by rw [upd_ne dne, upd_same]) hnd (by rw [hdel]; exact q dx hnd)
end PI

set_option maxHeartbeats 1000000
/-! PI, part r: repr. -/
namespace PI
open PySem L2 PyProof.Rows
mutual
/-- data that repr tells: also dicts that are empty -/
def toPyR : D → PyData
  | .non => .none
  | .bl b => .bool b
  | .int i => .int i
  | .str x => .str x
  | .tup xs => .tuple (toPyRs xs)
  | .lst xs => .list (toPyRs xs)
  | .dct _ _ => .dict []
  | _ => .none
def toPyRs : List D → List PyData
  | [] => []
  | x :: xs => toPyR x :: toPyRs xs
end
mutual
def plainR : D → Bool
  | .non => true
  | .bl _ => true
  | .int _ => true
  | .str _ => true
  | .tup xs => plainRs xs
  | .lst xs => plainRs xs
  | .dct [] [] => true
  | _ => false
def plainRs : List D → Bool
  | [] => true
  | x :: xs => plainR x && plainRs xs
end
def reprS (d : D) : Str := (toPyR d).shown
def showR (d : D) : Bool := plainR d && (toPyR d).showable && decide ((toPyR d).depth ≤ 60) && decide ((reprS d).length ≤ LIM)
def reprD : List D → Option D
  | [d] => if showR d then some (.str (reprS d)) else none
  | _ => none
section
variable {X : Cx} {pins : List (Addr × Obj)} {σ : L2.St} {H : Hp} {s : Shared}
/-- how the text of a thing comes -/
structure Tells (prog : Program) (w : World) (h : Heap) (u : Value) (d : PyData) (as bs : List Addr) : Prop where
  rd : Reads h u d as
  mo : ReadAtMost h d.depth bs
  tl : ReprK prog w bs h d.depth u d.shown
structure TellsAll (prog : Program) (w : World) (h : Heap) (us : List Value) (ds : List PyData) (as bs : List Addr) : Prop where
  rd : ReadsAll h us ds as
  mo : ReadAtMost h (PyData.depthAll ds) bs
  tl : ReprAllK prog w bs h (PyData.depthAll ds) us (PyData.shownAll ds)
theorem tells_list {prog : Program} {w : World} {h : Heap} {a : Addr} {its : List Value} {n : Nat} {ds : List PyData} {as bs : List Addr} (e : h.get? a = some { cls := .type "list", data := .seq its.toArray n }) (T : TellsAll prog w h its ds as bs) :
    Tells prog w h (.ref a) (.list ds) (a :: as) (a :: bs) ∧ a ∉ bs := by
  have r : Reads h (.ref a) (.list ds) (a :: as) := .list e rfl rfl (by simpa using T.rd)
  have hna : a ∉ bs := not_mem_of_deeper r (by simp only [PyData.depth]; omega) T.mo
  refine ⟨⟨r, ReadAtMost.cons r (by simp only [PyData.depth]; omega) T.mo, ?_⟩, hna⟩
  simp only [PyData.depth, PyData.shown]
  cases its with
  | nil =>
    have z := T.rd
    cases z
    simp only [PyData.shownAll, listText_nil]
    exact ReprK.listEmpty e rfl rfl
  | cons x l => exact ReprK.list e rfl rfl hna (by simpa using T.tl.length_eq) fun i y z => T.tl.item i y (by simpa using z)
theorem tells_tup {prog : Program} {w : World} {h : Heap} {a : Addr} {o : Obj} {its : List Value} {n : Nat} {ds : List PyData} {as bs : List Addr} (e : h.get? a = some o) (hc : o.cls = .type "tuple") (hd : o.data = .seq its.toArray n) (T : TellsAll prog w h its ds as bs) :
    Tells prog w h (.ref a) (.tuple ds) as (a :: bs) ∧ a ∉ bs := by
  have r : Reads h (.ref a) (.tuple ds) as := .tuple e hc hd (by simpa using T.rd)
  have hna : a ∉ bs := not_mem_of_deeper r (by simp only [PyData.depth]; omega) T.mo
  refine ⟨⟨r, ReadAtMost.cons r (by simp only [PyData.depth]; omega) T.mo, ?_⟩, hna⟩
  simp only [PyData.depth, PyData.shown]
  exact ReprK.tuple e hc hd hna (by simpa using T.tl)
/-- an empty dict -/
theorem dict0_at (I : Inv X pins σ H s) {a : Addr} {o : Obj} (h : H a = some (.frz o (.dK []))) : ∃ od n, s.heap.get? a = some od ∧ od.cls = .type "dict" ∧ od.data = .dict #[] n ∧ (a == sysModules) = false := by
  obtain ⟨e, _, hs, vs, kv, o2, es, ep, e2, hex, hdt, _, hpr, _⟩ := I.hok a _ h
  cases kv
  refine ⟨o2, ep, e2, hex.1, ?_, hs⟩
  rw [hdt]
  have : es.toList = [] := by
    generalize es.toList = l at hpr
    cases hpr
    rfl
  rw [show es = #[] from by cases es; simp_all]
mutual
theorem Rep.tells (I : Inv X pins σ H s) : ∀ {v : V} {d : D} {u : Value}, Rep X.K H v d → plainR d = true → (toPyR d).showable = true → (toPyR d).shown.length ≤ sizeLine → RelV v u → ∃ as bs, Tells X.prog X.w s.heap u (toPyR d) as bs
  | _, _, _, .non, _, _, _, r => by
    cases r
    unfold toPyR
    exact ⟨_, [], .none, (fun _ h => nomatch h), by simp only [PyData.shown]; exact .of_is ReprIs.none _ _ _⟩
  | _, _, _, .bl b, _, _, _, r => by
    cases r
    unfold toPyR
    exact ⟨_, [], .bool b, (fun _ h => nomatch h), by simp only [PyData.shown]; exact .of_is (ReprIs.bool b) _ _ _⟩
  | _, _, _, .int i, _, hs, _, r => by
    obtain ⟨t, rfl⟩ := r
    unfold toPyR at hs ⊢
    exact ⟨_, [], .int i t, (fun _ h => nomatch h), by simp only [PyData.shown]; exact .of_is (ReprIs.int t (by simpa [PyData.showable] using hs)) _ _ _⟩
  | _, _, _, .str x, _, _, hz, r => by
    obtain ⟨t, rfl⟩ := r
    unfold toPyR at hz ⊢
    exact ⟨_, [], .str x t, (fun _ h => nomatch h), by simp only [PyData.shown] at hz ⊢; exact .of_is (ReprIs.str x t hz) _ _ _⟩
  | _, _, _, .tup (ds := ds) h rs, p, hs, hz, r => by
    cases r
    unfold toPyR at hs hz ⊢
    obtain ⟨its, rv, ⟨o, ho, hc, n, hd⟩, _⟩ := I.tuple h.sq
    obtain ⟨as, bs, T⟩ := Reps.tells I rs (by unfold plainR at p; exact p) (by simpa [PyData.showable] using hs) (fun t ht => Nat.le_trans (tupleText_mem_le ht) (by simpa only [PyData.shown] using hz)) rv
    exact ⟨_, _, (tells_tup ho hc hd T).1⟩
  | _, _, _, .lst (ds := ds) h rs, p, hs, hz, r => by
    cases r
    unfold toPyR at hs hz ⊢
    obtain ⟨z, its, n, rv, e⟩ := rd_list I h.rd
    obtain ⟨as, bs, T⟩ := Reps.tells I rs (by unfold plainR at p; exact p) (by simpa [PyData.showable] using hs) (fun t ht => Nat.le_trans (listText_mem_le ht) (by simpa only [PyData.shown] using hz)) rv
    exact ⟨_, _, (tells_list e T).1⟩
  | _, _, _, .dct0 h, _, _, _, r => by
    cases r
    unfold toPyR
    obtain ⟨od, n, e, hc, hd, hs⟩ := dict0_at I h
    have rr : Reads s.heap (.ref _) (.dict []) _ := .dict (kvs := []) e hc hd .nil .nil
    refine ⟨_, _, rr, ReadAtMost.cons (bs := []) rr (Nat.zero_le _) (fun _ h => nomatch h), ?_⟩
    simp only [PyData.depth, PyData.shown, PyData.shownKv]
    exact ReprK.dict e hc hd hs (by simp) .nil
theorem Reps.tells (I : Inv X pins σ H s) : ∀ {vs : List V} {ds : List D} {us : List Value}, Reps X.K H vs ds → plainRs ds = true → PyData.showableAll (toPyRs ds) = true → (∀ t ∈ PyData.shownAll (toPyRs ds), t.length ≤ sizeLine) → Vals vs us → ∃ as bs, TellsAll X.prog X.w s.heap us (toPyRs ds) as bs
  | _, _, _, .nil, _, _, _, r => by
    cases r
    unfold toPyRs
    exact ⟨_, [], .nil, (fun _ h => nomatch h), by simp only [PyData.shownAll]; exact .nil⟩
  | _, _, _, .cons h rs, p, hs, hz, r => by
    unfold plainRs at p
    rw [Bool.and_eq_true] at p
    unfold toPyRs at hs hz ⊢
    simp only [PyData.showableAll, Bool.and_eq_true] at hs
    simp only [PyData.shownAll, List.mem_cons] at hz
    cases r with
    | cons r1 r2 =>
      obtain ⟨a1, b1, T1⟩ := Rep.tells I h p.1 hs.1 (hz _ (.inl rfl)) r1
      obtain ⟨a2, b2, T2⟩ := Reps.tells I rs p.2 hs.2 (fun t ht => hz t (.inr ht)) r2
      refine ⟨_, b1 ++ b2, .cons T1.rd T2.rd, ?_, ?_⟩
      · simp only [PyData.depthAll]
        exact (T1.mo.mono (Nat.le_max_left _ _)).append (T2.mo.mono (Nat.le_max_right _ _))
      · simp only [PyData.depthAll, PyData.shownAll]
        exact .cons ((T1.tl.more fun b hb => List.mem_append_left _ hb).level_le (Nat.le_max_left _ _)) (T2.tl.more_le (fun b hb => List.mem_append_right _ hb) (Nat.le_max_right _ _))
end
theorem repr_tup (hg : X.A.guards = some []) (hu : X.A.units + 65 < cLine) (I : Inv X pins σ H s) {a : Addr} {o : Obj} {its : List Value} {n : Nat} {ds : List PyData} {as bs : List Addr} {Q : Value → Shared → Prop} {E : Value → Shared → Prop} (e : s.heap.get? a = some o) (hc : o.cls = .type "tuple") (hd : o.data = .seq its.toArray n) (T : TellsAll X.prog X.w s.heap its ds as bs)
    (hdp : PyData.depthAll ds + 1 ≤ 60) (hz : (tupleText (PyData.shownAll ds)).length ≤ sizeLine) (hQ : ∀ s' t, Inv X pins σ H s' → Q (.str (tupleText (PyData.shownAll ds)) t) s') : wpAny (model X.prog X.w) X.A (call (.builtin "repr") [.ref a]) Q E s := by
  obtain ⟨_, hna⟩ := tells_tup e hc hd T
  refine call_repr_slot (by omega) ⟨o, e, hc⟩ F.slot_tuple_repr (call_tuple_reprK e hc hd hna (by simpa using T.tl) (g := []) hg (fun b _ => Clear.nil b) (by show X.A.units + 1 + _ < _; omega) (fun _ _ z => z) (fun h' u tk hk => ⟨_, _, rfl, hQ _ u (I.kept hk)⟩) hz)
theorem repr_lst (hg : X.A.guards = some []) (hu : X.A.units + 65 < cLine) (I : Inv X pins σ H s) {a : Addr} {its : List Value} {n : Nat} {ds : List PyData} {as bs : List Addr} {Q : Value → Shared → Prop} {E : Value → Shared → Prop} (e : s.heap.get? a = some { cls := .type "list", data := .seq its.toArray n }) (T : TellsAll X.prog X.w s.heap its ds as bs)
    (hdp : PyData.depthAll ds + 1 ≤ 60) (hz : (listText (PyData.shownAll ds)).length ≤ sizeLine) (hQ : ∀ s' t, Inv X pins σ H s' → Q (.str (listText (PyData.shownAll ds)) t) s') : wpAny (model X.prog X.w) X.A (call (.builtin "repr") [.ref a]) Q E s := by
  obtain ⟨_, hna⟩ := tells_list e T
  cases its with
  | nil =>
    have z := T.rd
    cases z
    simp only [PyData.shownAll, listText_nil] at hQ
    exact call_repr_slot (by omega) ⟨_, e, rfl⟩ F.slot_list_repr.toG (call_list_repr_empty ⟨_, e, rfl⟩ e rfl ⟨_, _, rfl, hQ _ _ (I.tok _)⟩)
  | cons x l =>
    refine call_repr_slot (by omega) ⟨_, e, rfl⟩ F.slot_list_repr.toG (call_list_reprK e rfl rfl hna (by simpa using T.tl.length_eq) (fun i y z => T.tl.item i y (by simpa using z)) (g := []) hg (fun b _ => Clear.nil b) (by show X.A.units + 1 + _ < _; omega) (fun _ _ z => z) (fun h' u tk hk => ⟨_, _, rfl, hQ _ u (I.kept hk)⟩) hz)
end
section
variable {X : Cx}
theorem LIM_line {n : Nat} (h : n ≤ LIM) : n ≤ sizeLine := Nat.le_trans h (by decide)
theorem repr_ok (hg : X.A.guards = some []) (hu : X.A.units + 65 < cLine) : CallP X (.builtin "repr") reprD := by
  intro pins s σ H xs us Q I r h
  obtain ⟨ds, d, rr, e, q⟩ := h
  unfold reprD at e
  split at e
  · rename_i dd
    split at e
    · rename_i hs
      cases e
      unfold showR at hs
      simp only [Bool.and_eq_true, decide_eq_true_eq] at hs
      obtain ⟨⟨⟨p1, p2⟩, p3⟩, p4⟩ := hs
      have p4' := LIM_line p4
      obtain ⟨x, rfl, rx⟩ := reps1 rr
      obtain ⟨u, rfl, ru⟩ : ∃ u, us = [u] ∧ RelV x u := by
        cases r with
        | cons a b => cases b; exact ⟨_, rfl, a⟩
      have fin : ∀ s' t, Inv X pins σ H s' → EP X pins σ Q (.str (reprS dd) t) s' := fun s' t I' => ⟨.str (reprS dd), H, I', ⟨t, rfl⟩, q _ _ (Same.refl H) (.str _)⟩
      cases dd with
      | lst ds =>
        obtain ⟨a, vs, rfl, hl, rs⟩ := rx
        cases ru
        obtain ⟨z, its, n, rv, e⟩ := rd_list I hl
        unfold toPyR at p2 p3
        simp only [reprS, toPyR, PyData.shown] at p4' fin
        obtain ⟨as, bs, T⟩ := Reps.tells I rs (by unfold plainR at p1; exact p1) (by simpa [PyData.showable] using p2) (fun t ht => Nat.le_trans (listText_mem_le ht) p4') rv
        exact repr_lst hg hu I e T (by simpa only [PyData.depth] using p3) p4' fin
      | tup ds =>
        cases rx with
        | tup hf rs =>
        cases ru
        obtain ⟨its, rv, ⟨o, ho, hc, n, hd⟩, _⟩ := I.tuple hf.sq
        unfold toPyR at p2 p3
        simp only [reprS, toPyR, PyData.shown] at p4' fin
        obtain ⟨as, bs, T⟩ := Reps.tells I rs (by unfold plainR at p1; exact p1) (by simpa [PyData.showable] using p2) (fun t ht => Nat.le_trans (tupleText_mem_le ht) p4') rv
        exact repr_tup hg hu I ho hc hd T (by simpa only [PyData.depth] using p3) p4' fin
      | non =>
        cases rx
        cases ru
        exact P.repr_of_none (fin _ _ (I.tok _))
      | bl b =>
        cases rx
        cases ru
        exact P.repr_of_bool (fin _ _ (I.tok _))
      | int i =>
        cases rx
        obtain ⟨t, rfl⟩ := ru
        exact P.repr_of_int (by unfold toPyR at p2; simpa [PyData.showable] using p2) (fin _ _ (I.tok _))
      | str y =>
        cases rx
        obtain ⟨t, rfl⟩ := ru
        exact P.repr_of_str (fin _ _ (I.tok _)) p4'
      | dct ks vs =>
        cases rx with
        | dct0 h =>
        cases ru
        obtain ⟨od, n, e, hc, hd, hs⟩ := dict0_at I h
        refine call_repr_slot (by omega) ⟨od, e, hc⟩ F.slot_dict_repr (call_dict_reprK (as := []) (d := 0) (ps := []) e hc hd hs (by simp) .nil (g := []) hg (fun b _ => Clear.nil b) (by show X.A.units + 1 + _ < _; omega) (fun _ _ z => z) (fun h' u tk hk => ⟨_, _, rfl, fin _ u (I.kept hk)⟩) p4')
      | _ => unfold plainR at p1; cases p1
    · cases e
  · cases e
end
end PI

set_option maxHeartbeats 1000000
/-! PI, part s: sorted. -/
namespace PI
open PySem L2 PyProof.Rows
open PySem.W (dataLt alike alikeAll keyToks keyToksAll TotalLe sameRank EachIs SortsAt dataKind AllAlike Sortable dataLe)
def insBy {α : Type} (lt : α → α → Bool) (x : α) : List α → List α
  | [] => [x]
  | y :: ys => if lt y x then y :: insBy lt x ys else x :: y :: ys
def sortBy {α : Type} (lt : α → α → Bool) : List α → List α
  | [] => []
  | x :: xs => insBy lt x (sortBy lt xs)
section
variable {α : Type} {lt : α → α → Bool}
theorem mem_insBy {x z : α} : ∀ {ys : List α}, z ∈ insBy lt x ys ↔ z = x ∨ z ∈ ys
  | [] => by simp [insBy]
  | y :: ys => by
    unfold insBy
    split
    · simp only [List.mem_cons, mem_insBy (ys := ys)]
      constructor
      · rintro (h | h | h) <;> simp [h]
      · rintro (h | h | h) <;> simp [h]
    · simp
theorem mem_sortBy {z : α} : ∀ {xs : List α}, z ∈ sortBy lt xs ↔ z ∈ xs
  | [] => by simp [sortBy]
  | x :: xs => by unfold sortBy; rw [mem_insBy, mem_sortBy (xs := xs)]; simp
theorem insBy_congr {lt' : α → α → Bool} {x : α} : ∀ {ys : List α}, (∀ y ∈ ys, lt y x = lt' y x) → insBy lt x ys = insBy lt' x ys
  | [], _ => rfl
  | y :: ys, h => by
    unfold insBy
    rw [h y (by simp), insBy_congr fun z hz => h z (by simp [hz])]
theorem sortBy_congr {lt' : α → α → Bool} : ∀ {xs : List α}, (∀ x ∈ xs, ∀ y ∈ xs, lt x y = lt' x y) → sortBy lt xs = sortBy lt' xs
  | [], _ => rfl
  | x :: xs, h => by
    unfold sortBy
    rw [sortBy_congr fun a ha b hb => h a (by simp [ha]) b (by simp [hb]), insBy_congr fun y hy => h y (by simp [mem_sortBy.mp hy]) x (by simp)]
theorem insBy_pw (T : TotalLe fun a b => !lt b a) {x : α} : ∀ {ys : List α}, ys.Pairwise (fun a b => (!lt b a) = true) → (insBy lt x ys).Pairwise (fun a b => (!lt b a) = true)
  | [], _ => List.pairwise_singleton _ _
  | y :: ys, h => by
    obtain ⟨h1, h2⟩ := List.pairwise_cons.mp h
    unfold insBy
    by_cases c : lt y x = true
    · rw [if_pos c]
      refine List.pairwise_cons.mpr ⟨fun z hz => ?_, insBy_pw T h2⟩
      rcases mem_insBy.mp hz with e | hz
      · rw [e]
        rcases T.total y x with q | q
        · exact q
        · rw [c] at q; cases q
      · exact h1 z hz
    · rw [if_neg c]
      have c' : (!lt y x) = true := by simpa using c
      refine List.pairwise_cons.mpr ⟨fun z hz => ?_, h⟩
      rcases List.mem_cons.mp hz with e | hz
      · rw [e]; exact c'
      · exact T.trans x y z c' (h1 z hz)
theorem sortBy_pw (T : TotalLe fun a b => !lt b a) : ∀ xs : List α, (sortBy lt xs).Pairwise (fun a b => (!lt b a) = true)
  | [] => List.Pairwise.nil
  | _ :: xs => insBy_pw T (sortBy_pw T xs)
theorem insBy_filter (T : TotalLe fun a b => !lt b a) (c : α) {x : α} : ∀ ys : List α, (insBy lt x ys).filter (sameRank (fun a b => !lt b a) c) = (x :: ys).filter (sameRank (fun a b => !lt b a) c)
  | [] => rfl
  | y :: ys => by
    unfold insBy
    by_cases h : lt y x = true
    · rw [if_pos h, List.filter_cons, insBy_filter T c ys]
      by_cases hy : sameRank (fun a b => !lt b a) c y = true
      · have hx : ¬ sameRank (fun a b => !lt b a) c x = true := fun hx => by
          unfold sameRank at hy hx
          rw [Bool.and_eq_true] at hy hx
          have z := T.trans x c y hx.2 hy.1
          simp [h] at z
        rw [if_pos hy, List.filter_cons, if_neg hx, List.filter_cons, if_neg hx, List.filter_cons, if_pos hy]
      · rw [if_neg hy, List.filter_cons, List.filter_cons]
        simp only [List.filter_cons, if_neg hy]
    · rw [if_neg h]
theorem sortBy_filter (T : TotalLe fun a b => !lt b a) (c : α) : ∀ xs : List α, (sortBy lt xs).filter (sameRank (fun a b => !lt b a) c) = xs.filter (sameRank (fun a b => !lt b a) c)
  | [] => rfl
  | x :: xs => by
    unfold sortBy
    rw [insBy_filter T c, List.filter_cons, sortBy_filter T c xs, ← List.filter_cons]
theorem sortBy_merge (T : TotalLe fun a b => !lt b a) (xs : List α) : sortBy lt xs = xs.mergeSort fun a b => !lt b a :=
  PySem.W.sort_unique T (sortBy_pw T xs) (sortBy_filter T · xs)
end
/-! ### data in order -/
mutual
def alikeB : D → D → Bool
  | .non, .non => true
  | .bl _, .bl _ => true
  | .int _, .int _ => true
  | .str _, .str _ => true
  | .lst xs, .lst ys => alikeBs xs ys
  | .tup xs, .tup ys => alikeBs xs ys
  | _, _ => false
def alikeBs : List D → List D → Bool
  | x :: xs, y :: ys => alikeB x y && alikeBs xs ys
  | [], _ => true
  | _ :: _, [] => true
end
mutual
theorem alike_py : ∀ (x y : D), plain x = true → plain y = true → alike (toPy x) (toPy y) = alikeB x y
  | .tup xs, y, hx, hy => by
    unfold plain at hx
    cases y with
    | tup ys => unfold plain at hy; simp only [toPy, alike, alikeB]; exact alikes_py xs ys hx hy
    | dct _ _ => unfold plain at hy; cases hy
    | obj _ _ _ => unfold plain at hy; cases hy
    | own _ => unfold plain at hy; cases hy
    | drw => unfold plain at hy; cases hy
    | _ => simp [toPy, alike, alikeB]
  | .lst xs, y, hx, hy => by
    unfold plain at hx
    cases y with
    | lst ys => unfold plain at hy; simp only [toPy, alike, alikeB]; exact alikes_py xs ys hx hy
    | dct _ _ => unfold plain at hy; cases hy
    | obj _ _ _ => unfold plain at hy; cases hy
    | own _ => unfold plain at hy; cases hy
    | drw => unfold plain at hy; cases hy
    | _ => simp [toPy, alike, alikeB]
  | .non, y, _, hy => by cases y <;> first | (unfold plain at hy; cases hy; done) | simp [toPy, alike, alikeB]
  | .bl _, y, _, hy => by cases y <;> first | (unfold plain at hy; cases hy; done) | simp [toPy, alike, alikeB]
  | .int _, y, _, hy => by cases y <;> first | (unfold plain at hy; cases hy; done) | simp [toPy, alike, alikeB]
  | .str _, y, _, hy => by cases y <;> first | (unfold plain at hy; cases hy; done) | simp [toPy, alike, alikeB]
  | .dct _ _, _, hx, _ => by unfold plain at hx; cases hx
  | .obj _ _ _, _, hx, _ => by unfold plain at hx; cases hx
  | .own _, _, hx, _ => by unfold plain at hx; cases hx
  | .drw, _, hx, _ => by unfold plain at hx; cases hx
theorem alikes_py : ∀ (xs ys : List D), plains xs = true → plains ys = true → alikeAll (toPys xs) (toPys ys) = alikeBs xs ys
  | [], _, _, _ => by simp [toPys, alikeAll, alikeBs]
  | _ :: _, [], _, _ => by simp [toPys, alikeAll, alikeBs]
  | x :: xs, y :: ys, hx, hy => by
    unfold plains at hx hy
    rw [Bool.and_eq_true] at hx hy
    simp only [toPys, alikeAll, alikeBs]
    rw [alike_py x y hx.1 hy.1, alikes_py xs ys hx.2 hy.2]
end
mutual
theorem lt_py : ∀ (x y : D), plain x = true → plain y = true → alikeB x y = true → x ≠ .non → dataLt (toPy x) (toPy y) = ltB x y
  | .tup xs, y, hx, hy, ha, _ => by
    cases y with
    | tup ys =>
      unfold plain at hx hy
      simp only [alikeB] at ha
      simp only [toPy, PySem.W.dataLt_tuple, ltB]
      exact lts_py xs ys hx hy ha
    | _ => simp [alikeB] at ha
  | .lst xs, y, hx, hy, ha, _ => by
    cases y with
    | lst ys =>
      unfold plain at hx hy
      simp only [alikeB] at ha
      simp only [toPy, PySem.W.dataLt_list, ltB]
      exact lts_py xs ys hx hy ha
    | _ => simp [alikeB] at ha
  | .non, _, _, _, _, hn => absurd rfl hn
  | .bl a, y, _, _, ha, _ => by
    cases y with
    | bl b => simp only [toPy, PySem.W.dataLt_bool, ltB]; cases a <;> cases b <;> decide
    | _ => simp [alikeB] at ha
  | .int i, y, _, _, ha, _ => by
    cases y with
    | int j => simp only [toPy, PySem.W.dataLt_int, ltB]
    | _ => simp [alikeB] at ha
  | .str a, y, _, _, ha, _ => by
    cases y with
    | str b => simp only [toPy, PySem.W.dataLt_str, ltB, ltS]
    | _ => simp [alikeB] at ha
  | .dct _ _, _, hx, _, _, _ => by unfold plain at hx; cases hx
  | .obj _ _ _, _, hx, _, _, _ => by unfold plain at hx; cases hx
  | .own _, _, hx, _, _, _ => by unfold plain at hx; cases hx
  | .drw, _, hx, _, _, _ => by unfold plain at hx; cases hx
theorem lts_py : ∀ (xs ys : List D), plains xs = true → plains ys = true → alikeBs xs ys = true → PyProof.Rows.lexLt itemOrd (keyToksAll (toPys xs)) (keyToksAll (toPys ys)) = ltBs xs ys
  | [], [], _, _, _ => by simp only [toPys, ltBs]; decide
  | [], y :: ys, _, _, _ => by
    simp only [toPys, ltBs, keyToksAll]
    rw [PySem.W.lex_atom (by decide), PySem.W.lex_one]
    rfl
  | _ :: _, [], _, _, _ => by
    simp only [toPys, ltBs, keyToksAll]
    rw [PySem.W.lex_atom (by decide), PySem.W.lex_one]
    rfl
  | x :: xs, y :: ys, hx, hy, ha => by
    unfold plains at hx hy
    rw [Bool.and_eq_true] at hx hy
    simp only [alikeBs, Bool.and_eq_true] at ha
    simp only [toPys, ltBs]
    rw [PySem.W.dataLt_cons (by rw [alike_py x y hx.1 hy.1]; exact ha.1), eqv_py x y hx.1 hy.1]
    by_cases e : eqB x y = true
    · rw [if_pos e, if_pos e]
      exact lts_py xs ys hx.2 hy.2 ha.2
    · rw [if_neg e, if_neg e]
      refine lt_py x y hx.1 hy.1 ha.1 fun z => ?_
      subst z
      cases y <;> simp [alikeB] at ha
      exact e rfl
end

/-! ### which lists can be sorted -/
def tupNe : D → Bool
  | .tup (_ :: _) => true
  | _ => false
def isTupB : D → Bool
  | .tup _ => true
  | _ => false
/-- all tuples with an item; or an empty tuple first, and tuples; or neither tuples nor None -/
def kindB (ds : List D) : Bool := match ds with
  | .tup [] :: _ => ds.all isTupB
  | .tup (_ :: _) :: _ => ds.all tupNe
  | .non :: _ => false
  | _ => ds.all fun d => !isTupB d
def allAlikeB (ds : List D) : Bool := ds.all fun x => ds.all fun y => alikeB x y
def sortOk (ds : List D) : Bool := plains ds && decide (deps ds ≤ 40) && decide (ds.length ≤ LIM) && allAlikeB ds && kindB ds
def sortedD : List D → Option D
  | [.lst ds] => if sortOk ds then some (.lst (sortBy ltB ds)) else none
  | _ => none
theorem toPys_map : ∀ ds : List D, toPys ds = ds.map toPy
  | [] => rfl
  | d :: ds => by unfold toPys; rw [toPys_map ds]; rfl
theorem plains_mem : ∀ {ds : List D}, plains ds = true → ∀ d ∈ ds, plain d = true
  | [], _, d, h => by cases h
  | x :: xs, p, d, h => by
    unfold plains at p
    rw [Bool.and_eq_true] at p
    rcases List.mem_cons.mp h with rfl | h
    · exact p.1
    · exact plains_mem p.2 d h
theorem deps_mem : ∀ {ds : List D} {d : D}, d ∈ ds → dep d ≤ deps ds
  | [], d, h => by cases h
  | x :: xs, d, h => by
    unfold deps
    rcases List.mem_cons.mp h with rfl | h
    · exact Nat.le_max_left _ _
    · exact Nat.le_trans (deps_mem h) (Nat.le_max_right _ _)
theorem dataLe_total : TotalLe (dataLe false toPy) := PySem.W.sortLe_total _ false _
theorem dataLe_is (a b : D) : dataLe false toPy a b = !dataLt (toPy b) (toPy a) := rfl
section
variable {prog : Program} {w : World} {A : Around} {E : Value → Shared → Prop} {s : Shared}
/-- the first items of tuples, where they have one -/
def FstAt (h : Heap) (v : Value) (f : Option Value) : Prop := ∃ a o xs n, v = .ref a ∧ h.get? a = some o ∧ o.cls = .type "tuple" ∧ o.data = .seq xs n ∧ xs[0]? = f
theorem firsts_opt {M : Model} {vs : List Value} {fs : List (Option Value)} (e : EachIs (FstAt s.heap) vs fs) : ∀ {Q : List (Option Value) → Shared → Prop}, Q fs s → wpAny M A (vs.mapM firstOfTuple') Q E s := by
  induction e with
  | nil => intro Q h; rw [List.mapM_nil]; exact wpAny_pure h
  | @cons v f vs fs hv _ ih =>
    intro Q h
    obtain ⟨a, o, xs, n, rfl, ho, hc, hd, hf⟩ := hv
    rw [List.mapM_cons]
    refine wpAny_bind ?_
    rw [PySem.W.kas_first_eq]
    refine wpAny_bind (wpAny_typeOf_ref ho ?_)
    rw [hc, if_neg (by simp)]
    refine wpAny_bind (listItems_at ho hd (wpAny_pure ?_))
    rw [hf]
    exact wpAny_bind (ih (wpAny_pure h))
theorem tup_call_lt {l b : Addr} {items items2 : Array Value} {e r : Nat → Bool} {Q : Value → Shared → Prop} (hl : s.heap.IsTuple l items) (hb : s.heap.IsTuple b items2)
    (he : ∀ j (h1 : j < items.size) (h2 : j < items2.size), SeqAt.EqAt A.in1 s items[j] items2[j] (e j)) (hr : ∀ j (h1 : j < items.size) (h2 : j < items2.size), e j = false → SeqAt.RcLt A.in1 s items[j] items2[j] (r j))
    (h : Q (.bool (SeqAt.firstLt e r (decide (items.size < items2.size)) (List.range (min items.size items2.size)))) s) : wpAny (model prog w) A (call (.builtin "tuple.__lt__") [.ref l, .ref b]) Q E s := by
  obtain ⟨⟨c1, d1, t1, s1⟩, o1, z1, n1, y1⟩ := id hl
  obtain ⟨⟨c2, d2, t2, s2⟩, o2, z2, n2, y2⟩ := id hb
  simp only at z1 y1 z2 y2
  subst z1 y1 z2 y2
  exact call_meets F.slot_tuple_lt ⟨_, o1, rfl⟩ F.entry_tuple_lt (F.args_tuple_lt_2 _ _) (SeqAt.tuple_ltAt l b items items2 n1 n2 d1 d2 s1 s2 e r) ⟨o1, o2, he, hr, h⟩
theorem fst_reads {h : Heap} {v : Value} {xs : List PyData} {as : List Addr} (r : Reads h v (.tuple xs) as) : ∃ f, FstAt h v f ∧ (xs = [] → f = none) := by
  cases r with
  | @tuple a o us n _ _ h1 h2 h3 h4 =>
    refine ⟨us[0]?, ⟨a, o, us, n, rfl, h1, h2, h3, rfl⟩, fun e => ?_⟩
    subst e
    have z : us.toList = [] := by
      generalize us.toList = l at h4
      cases h4
      rfl
    have z2 : us = #[] := by cases us; simp_all
    rw [z2]
    rfl
theorem each_fst {h : Heap} {vs : List Value} {ds : List PyData} (e : EachIs (fun v d => ∃ as, Reads h v d as) vs ds) (ht : ∀ d, d ∈ ds → ∃ xs, d = .tuple xs) : ∃ fs, EachIs (FstAt h) vs fs := by
  induction e with
  | nil => exact ⟨[], .nil⟩
  | @cons v d vs ds hv _ ih =>
    obtain ⟨as, r⟩ := hv
    obtain ⟨xs, rfl⟩ := ht d (by simp)
    obtain ⟨f, h1, _⟩ := fst_reads r
    obtain ⟨fs, h2⟩ := ih fun d hd => ht d (by simp [hd])
    exact ⟨f :: fs, .cons h1 h2⟩
/-- tuples, an empty one first -/
theorem sorts_empty {vs : List Value} {ds : List PyData} (e : EachIs (fun v d => ∃ as, Reads s.heap v d as) vs (.tuple [] :: ds)) (hal : AllAlike (.tuple [] :: ds)) (ht : ∀ d, d ∈ PyData.tuple [] :: ds → ∃ xs, d = .tuple xs) (hu : ∀ d, d ∈ PyData.tuple [] :: ds → A.units + d.depth < cLine) :
    SortsAt prog w A s (dataKind s.heap (.tuple [] :: ds)) vs := by
  refine ⟨fun v hv => ?_, oneType', ?_, fun h2 E Q hq => ?_⟩
  · obtain ⟨d, hd, as, r⟩ := e.left v hv
    exact ⟨_, PySem.W.dataKind_some hal hd r⟩
  · intro E x y a b Q ha hb hq
    obtain ⟨d, as, hd, ra, rfl⟩ := PySem.W.dataKind_inv ha
    obtain ⟨d', as', hd', rb, rfl⟩ := PySem.W.dataKind_inv hb
    have hdd := hal d hd d' hd'
    have hroom : A.units + min d.depth d'.depth < cLine := Nat.lt_of_le_of_lt (Nat.add_le_add_left (Nat.min_le_left _ _) _) (hu d hd)
    obtain ⟨xs, rfl⟩ := ht d hd
    obtain ⟨ys, rfl⟩ := ht d' hd'
    have hal2 : alikeAll xs ys = true := by simpa [alike] using hdd
    have hq' : Q (dataLt (.tuple xs) (.tuple ys)) s := hq
    cases ra with
    | @tuple l o us n _ as₁ h1 h2 h3 h4 =>
      cases rb with
      | @tuple l' o' us' n' _ bs₁ k1 k2 k3 k4 =>
        have n1 : us.size = xs.length := by simpa using SeqAt.ReadsAll.length _ _ _ h4
        have n2 : us'.size = ys.length := by simpa using SeqAt.ReadsAll.length _ _ _ k4
        rw [PySem.W.dataLt_tuple, ← PySem.W.firstLt_toks xs ys hal2, ← n1, ← n2] at hq'
        rw [keyLt'_oneType, oneLt'_eq]
        simp only [if_true]
        refine wpAny_bind (wpAny_cRoomFor (SeqAt.room_here hroom) ?_)
        refine wpAny_bind (wpAny_callSpecialIfBound?_slot (T := "tuple") ⟨_, h1, h2⟩ F.slot_tuple_lt (tup_call_lt (e := SeqAt.pairEq xs ys) (r := fun j => dataLt (xs.getD j .none) (ys.getD j .none)) ⟨_, h1, h2, _, h3⟩ ⟨_, k1, k2, _, k3⟩ (fun j j1 j2 => ?_) (fun j j1 j2 hj => ?_) (wpAny_truthy_bool hq')))
        · have := PySem.W.eqAt_alikeAll xs ys A.in1 s us.toList us'.toList _ _ h4 k4 hal2 (SeqAt.room_in hroom) j (by simpa using j1) (by simpa using j2)
          simpa using this
        · have := PySem.W.rcLt_alikeAll xs ys A.in1 s us.toList us'.toList _ _ h4 k4 hal2 (SeqAt.room_in hroom) j (by simpa using j1) (by simpa using j2) hj
          simpa using this
  · have hT : ∀ v ∈ vs, PySem.W.Looks (model prog w) s.heap (typeOf v) (.type "tuple") := fun v hv => by
      obtain ⟨d, hd, as, r⟩ := e.left v hv
      obtain ⟨xs, rfl⟩ := ht d hd
      exact PySem.W.looks_reads r
    cases e with
    | @cons v0 _ vs' _ r0 t =>
      obtain ⟨as, r⟩ := r0
      obtain ⟨f, h1, hf⟩ := fst_reads r
      obtain ⟨fs, h3⟩ := each_fst t fun d hd => ht d (by simp [hd])
      have ef := hf rfl
      subst ef
      rw [keyKind'_eq, List.mapM_toArray, map_eq_pure_bind]
      refine wpAny_bind (wpAny_bind (firsts_opt (.cons h1 h3) (wpAny_pure ?_)))
      rw [if_neg (by simp), if_neg (by simp)]
      rw [oneTypeOnly'_eq, List.mapM_toArray, map_eq_pure_bind]
      refine wpAny_bind (wpAny_bind (wpAny_bind (PySem.W.kas_mapM (r := .type "tuple") _ (fun v hv Q' hq => (hT v hv).here hq) (wpAny_pure ?_))))
      have z0 : (List.map (fun _ => Value.type "tuple") (v0 :: vs')).toArray[0]? = some (Value.type "tuple") := by simp
      have z1 : ((List.map (fun _ => Value.type "tuple") (v0 :: vs')).toArray.all fun x => x == Value.type "tuple") = true := by simp
      rw [z0]
      simp only [z1, if_true]
      exact wpAny_pure (wpAny_pure hq)
theorem sorted_all {l : Addr} {vs : List Value} {ds : List D} {R : Value → D → Prop} {Q : Value → Shared → Prop} (hl : s.heap.IsList l vs.toArray) (e : EachIs R vs ds) (er : EachIs (fun v d => ∃ as, Reads s.heap v (toPy d) as) vs ds) (ok : sortOk ds = true) (hu : A.units + 65 < cLine)
    (h : ∀ out, EachIs R out (sortBy ltB ds) → Q (.ref (s.heap.objs.size + 1)) { s with heap := sortedAll s.heap vs (List.toArray out) }) : wpAny (model prog w) A (call (.builtin "sorted") [.ref l]) Q E s := by
  unfold sortOk at ok
  simp only [Bool.and_eq_true, decide_eq_true_eq] at ok
  obtain ⟨⟨⟨⟨p1, p2⟩, p3⟩, p4⟩, p5⟩ := ok
  have al : ∀ x ∈ ds, ∀ y ∈ ds, alikeB x y = true := fun x hx y hy => List.all_eq_true.mp (List.all_eq_true.mp p4 x hx) y hy
  have hal : AllAlike (ds.map toPy) := fun d hd d' hd' => by
    obtain ⟨x, hx, rfl⟩ := List.mem_map.mp hd
    obtain ⟨y, hy, rfl⟩ := List.mem_map.mp hd'
    rw [alike_py x y (plains_mem p1 x hx) (plains_mem p1 y hy)]
    exact al x hx y hy
  have hL : ds.length ≤ sizeLine := LIM_line p3
  have hd : ∀ d ∈ ds, A.units + 2 + (toPy d).depth < cLine := fun d hd => by
    rw [dep_py]
    have := deps_mem hd
    omega
  have nn : ∀ x ∈ ds, x ≠ .non := fun x hx z => by
    subst z
    unfold kindB at p5
    cases ds with
    | nil => cases hx
    | cons d ds =>
      have q := al _ (List.mem_cons_self ..) _ hx
      cases d with
      | non => cases p5
      | _ => simp [alikeB] at q
  have es : sortBy ltB ds = ds.mergeSort (dataLe false toPy) := by
    rw [← show (sortBy (fun a b => dataLt (toPy a) (toPy b)) ds) = ds.mergeSort (dataLe false toPy) from sortBy_merge (lt := fun a b => dataLt (toPy a) (toPy b)) dataLe_total ds]
    exact sortBy_congr fun x hx y hy => (lt_py x y (plains_mem p1 x hx) (plains_mem p1 y hy) (al x hx y hy) (nn x hx)).symm
  have er' : EachIs (fun v b => ∃ as, Reads (PySem.W.sortingHeap (PySem.W.copyHeap s.heap vs) (s.heap.objs.size + 1) vs) v (toPy b) as) vs ds := er.mono fun _ _ ⟨as, r⟩ => ⟨as, PyProof.Rows.Reads.keeps (fun _ _ => PySem.W.sorting_copy_old) r⟩
  have em := PySem.W.each_map (R := fun v d => ∃ as, Reads (PySem.W.sortingHeap (PySem.W.copyHeap s.heap vs) (s.heap.objs.size + 1) vs) v d as) toPy er'
  have hS : SortsAt prog w A.in1.in1 { s with heap := PySem.W.sortingHeap (PySem.W.copyHeap s.heap vs) (s.heap.objs.size + 1) vs } (dataKind (PySem.W.sortingHeap (PySem.W.copyHeap s.heap vs) (s.heap.objs.size + 1) vs) (ds.map toPy)) vs := by
    have hb := PySem.W.bound_map (A := A.in1.in1) hd
    have byTup : (∀ d ∈ ds, isTupB d = true) → ∀ d ∈ ds.map toPy, ∃ xs, d = PyData.tuple xs := fun ht d hd => by
      obtain ⟨x, hx, rfl⟩ := List.mem_map.mp hd
      have z := ht x hx
      cases x with
      | tup xs => exact ⟨toPys xs, by unfold toPy; rfl⟩
      | _ => cases z
    unfold kindB at p5
    split at p5
    · rename_i rest
      have ht := byTup fun d hd => List.all_eq_true.mp p5 d hd
      exact sorts_empty (s := { s with heap := PySem.W.sortingHeap (PySem.W.copyHeap s.heap vs) (s.heap.objs.size + 1) vs }) em hal ht hb
    · refine PySem.W.SortsAt.data (s := { s with heap := PySem.W.sortingHeap (PySem.W.copyHeap s.heap vs) (s.heap.objs.size + 1) vs }) em hal (.inl fun d hd => ?_) hb
      obtain ⟨x, hx, rfl⟩ := List.mem_map.mp hd
      have z := List.all_eq_true.mp p5 x hx
      cases x with
      | tup xs =>
        cases xs with
        | nil => cases z
        | cons x xs => exact ⟨toPy x, toPys xs, by simp only [toPy, toPys]⟩
      | _ => cases z
    · cases p5
    · refine PySem.W.SortsAt.data (s := { s with heap := PySem.W.sortingHeap (PySem.W.copyHeap s.heap vs) (s.heap.objs.size + 1) vs }) em hal (.inr fun d hd => ?_) hb
      obtain ⟨x, hx, rfl⟩ := List.mem_map.mp hd
      have z := List.all_eq_true.mp p5 x hx
      have n := nn x hx
      have pp := plains_mem p1 x hx
      cases x <;> first | exact absurd rfl n | (cases z; done) | (unfold plain at pp; cases pp; done) | (simp [toPy]; done)
  refine PySem.W.sorted_vals hl hS (by rw [e.length]; exact hL) (h _ ?_)
  rw [es]
  exact PySem.W.sortVals_data false e er' hal
end
section
variable {X : Cx}
theorem sorted_ok (hu : X.A.units + 65 < cLine) : CallP X (.builtin "sorted") sortedD := by
  intro pins s σ H xs us Q I r h
  obtain ⟨ds, d, rr, e, q⟩ := h
  unfold sortedD at e
  split at e
  · rename_i ds
    split at e
    · rename_i ok
      cases e
      obtain ⟨x, rfl, a, vs, rfl, hl, rs⟩ := reps1 rr
      obtain ⟨u, rfl, ru⟩ : ∃ u, us = [u] ∧ RelV (.ref a) u := by
        cases r with
        | cons a b => cases b; exact ⟨_, rfl, a⟩
      cases ru
      obtain ⟨z, its, n, rv, ho⟩ := rd_list I hl
      have pl : plains ds = true := by
        unfold sortOk at ok
        simp only [Bool.and_eq_true] at ok
        exact ok.1.1.1.1
      have e1 : ∀ {vs : List V} {its : List Value} {ds : List D}, Vals vs its → Reps X.K H vs ds → EachIs (fun u d => ∃ v, RelV v u ∧ Rep X.K H v d) its ds := by
        intro vs its ds rv
        induction rv generalizing ds with
        | nil => intro rs; cases rs; exact .nil
        | cons h1 _ ih => intro rs; cases rs with | cons h2 rs => exact .cons ⟨_, h1, h2⟩ (ih rs)
      have e2 : ∀ {vs : List V} {its : List Value} {ds : List D}, Vals vs its → Reps X.K H vs ds → plains ds = true → EachIs (fun u d => ∃ as, Reads s.heap u (toPy d) as) its ds := by
        intro vs its ds rv
        induction rv generalizing ds with
        | nil => intro rs _; cases rs; exact .nil
        | cons h1 _ ih =>
          intro rs p
          cases rs with
          | cons h2 rs =>
            unfold plains at p
            rw [Bool.and_eq_true] at p
            exact .cons (Rep.reads I h2 p.1 h1) (ih rs p.2)
      have e3 : ∀ {out : List Value} {ds : List D}, EachIs (fun u d => ∃ v, RelV v u ∧ Rep X.K H v d) out ds → ∃ vs, Vals vs out ∧ Reps X.K H vs ds := by
        intro out ds e
        induction e with
        | nil => exact ⟨[], .nil, .nil⟩
        | cons h1 _ ih =>
          obtain ⟨v, h2, h3⟩ := h1
          obtain ⟨vs, h4, h5⟩ := ih
          exact ⟨v :: vs, .cons h2 h4, .cons h3 h5⟩
      refine sorted_all (s := s) ⟨_, ho, rfl, n, rfl⟩ (e1 rv rs) (e2 rv rs pl) ok hu fun out eo => ?_
      obtain ⟨ws, h4, h5⟩ := e3 eo
      obtain ⟨ep, hat⟩ := sortedAll_at s.heap its (List.toArray out)
      have hsz : s.heap.objs.size ≤ s.heap.objs.size + 1 := Nat.le_succ _
      have hn : H (s.heap.objs.size + 1) = none := I.hok.fresh hsz
      have hlen : ws.length ≤ sizeLine := by
        rw [h5.length, ← eo.length]
        have z1 := eo.length
        have z2 : (sortBy ltB ds).length = ds.length := by
          have : ∀ (x : D) (l : List D), (insBy ltB x l).length = l.length + 1 := by
            intro x l
            induction l with
            | nil => rfl
            | cons y l ih => unfold insBy; split <;> simp [ih]
          clear eo z1 ok e1 e2 e3 rs rv pl q rr h5 h4 hat
          induction ds with
          | nil => rfl
          | cons d ds ih => unfold sortBy; rw [this, ih]; rfl
        rw [z1, z2]
        unfold sortOk at ok
        simp only [Bool.and_eq_true, decide_eq_true_eq] at ok
        exact LIM_line ok.1.1.2
      have I2 : Inv X pins σ (upd H (s.heap.objs.size + 1) (.lst ws)) { s with heap := sortedAll s.heap its (List.toArray out) } := I.laid (t' := s.toks) (fun b o z => sortedAll_old z) hsz ⟨hlen, out, ep, h4, hat⟩
      obtain ⟨o, I3⟩ := I2.lock upd_same trivial
      rw [upd_upd] at I3
      refine ⟨.ref (s.heap.objs.size + 1), _, I3, rfl, q _ _ (snew hn) (.lst ⟨o, upd_same⟩ (h5.mono (sext (snew hn))))⟩
    · cases e
  · cases e
end
end PI

set_option maxHeartbeats 1000000
/-! PI, part t: raise, try. -/
namespace PI
open PySem L2 PyProof.Rows
def raiseS (c : Nat) (m : Env' → M D) : SM := fun env s => match m env s with
  | .ok d s' => match frz d s' with
    | .ok d s'' => if pureB d then .exc c d env s'' else .stuck
    | _ => .stuck
  | .exc c f s' => .exc c f env s'
  | .stuck => .stuck
/-- except c as (slot i): slot j = repr(e.f) -/
def tryRS (c : Nat) (no : List Nat) (i j : Nat) (b : SM) : SM := fun env s => match b env s with
  | .exc c' f env' s' => if c' = c then (match reprD [f], decide (i < env'.length) with
      | some d, true => .nx (((env'.set i none).set j (some d)).set i none) s'
      | _, _ => .stuck) else if no.contains c' then .exc c' f env' s' else .stuck
  | r => r
section
variable {X : Cx} {xc : XC} {W : WX}
theorem pds_raise {x : Str} {c : Nat} {e : Expr} {p pos pos' : Pos} {m : Env' → M D} (hc : X.calm = true) (tk : Takes X W) (S : SupC X.prog X.K (xc.cls c) (xc.fld c)) (hr : Room 1 X.A) (hg : Gl X x) (hm : X.mg x = some (.ref (xc.cls c))) (hms : X.mg "super" = none) (he : PE X e (tE X.K xc W m))
    (hdb : (x == ("__debug__" : Str)) = false) (hst : starEach [e] X.env = [(false, eval e X.env)]) : PS X (.Raise (some (.Call (.Name x p) [e] [] pos)) none pos') (tS X.K xc W (raiseS c m)) :=
  psimp (ps_raise hc tk (pmk_sup S hr hg hm hms (pd_frz he) hdb hst)) fun E σ H ⟨w, env, s, rel, q⟩ => by
    unfold raiseS at q
    refine ⟨w, env, s, rel, ?_⟩
    show Post X.K xc W σ w H _ (M.bnd (m env) frz s)
    unfold M.bnd
    cases z : m env s with
    | ok d s' =>
      rw [z] at q
      dsimp only at q ⊢
      cases z2 : frz d s' with
      | ok d2 s2 =>
        rw [z2] at q
        dsimp only at q
        split at q
        · rename_i hp
          intro v H' w' g t r dx hdx
          have sm : Same H' (upd H' dx (.xd [(xc.fld c, v)])) := snew hdx
          exact q dx v σ _ w' (g.trans (sgo sm)) ((rel.go g t).go (sgo sm) (t.same sm)) upd_same ((r.pure hp).mono (sext sm))
        · exact q.elim
      | exc _ _ _ => rw [z2] at q; exact q.elim
      | stuck => rw [z2] at q; exact q.elim
    | exc c' f s' => rw [z] at q; exact exc_post rel q
    | stuck => rw [z] at q; exact q
theorem Rel.unset {K : PySem.W.Frag} {w : Wd} {env : Env'} {s : SS} {σ : L2.St} {H : Hp} (r : Rel K w env s σ H) (i : Nat) (x : Option V) : Rel K w (env.set i none) s (σ.set i x) H := by
  refine ⟨by rw [List.length_set, List.length_set]; exact r.len, fun j d h => ?_, r.st⟩
  by_cases hj : i = j
  · subst hj
    by_cases hi : i < env.length
    · rw [List.getElem?_set_self hi] at h; cases h
    · rw [List.getElem?_eq_none (by rw [List.length_set]; omega)] at h; cases h
  · rw [List.getElem?_set_ne hj] at h
    rw [List.getElem?_set_ne hj]
    exact r.sl j d h
theorem pds_tryR {x n y : Str} {c : Nat} {no : List Nat} {i j : Nat} {body : List Stmt} {np pos pos' p1 p2 p3 p4 p5 py : Pos} {mb : SM} (hs : X.stack = X.env :: X.outer) (hfr : X.env.frame = some X.env.locals) (hN : X.N.Nodup) (hi : X.N[i]? = some n) (hln : X.env.kindOf n = some .local) (hj : X.N[j]? = some y) (hlj : X.env.scope.names.lookup y = some .local)
    (hnm : Names X x (.ref (xc.cls c))) (tk : Takes X W) (hu : X.A.units + 65 < cLine) (hgd : X.A.guards = some []) (hyes : PySem.W.exmOne X.K (.ref (xc.cls c)) (.ref (xc.cls c)) = some true) (hno : ∀ c' ∈ no, PySem.W.exmOne X.K (.ref (xc.cls c')) (.ref (xc.cls c)) = some false)
    (hxf : XfC X.K (xc.cls c)) (hfl : PySem.W.findIn X.K (.ref (xc.cls c)) (xc.fld c) = some none) (hgr : Gl X "repr") (hmr : X.mg "repr" = none)
    (hd1 : (n == ("__debug__" : Str)) = false) (hd2 : (n == ("__classdict__" : Str)) = false)
    (hsw : ∀ env : Env, swapsWith (.Call (.Name "repr" p1) [.Attribute (.Name n p2) (xc.fld c) p3] [] p4) (some (.Name y py)) p5.line env = pure false)
    (hb : ∀ (W' : WX) (pn : List (Addr × Obj)) (xe : Value → Shared → Prop), Takes (X.tr pn xe) W' → PassesOwn (model X.prog X.w) X.A X.env xe → PSs (X.tr pn xe) body (tS X.K xc W' mb)) :
    PS X (.Try body [.ExceptHandler (some (.Name x np)) (some n) [.Assign [.Name y py] (.Call (.Name "repr" p1) [.Attribute (.Name n p2) (xc.fld c) p3] [] p4) p5] pos'] [] [] pos) (tS X.K xc W (tryRS c no i j mb)) := by
  have suite : ∀ (a : Addr) (oe : Obj) (cls : Value) (d : Option Addr) (pn : List (Addr × Obj)), Zc cls d oe → (∃ vs, oe.data = .fields vs) →
      PSs (X.suite a ((a, oe) :: pn)) [.Assign [.Name y py] (.Call (.Name "repr" p1) [.Attribute (.Name n p2) (xc.fld c) p3] [] p4) p5] (tAsg (tCB (fun xs H Q => ∃ ds d, RepRs X.K H xs ds ∧ reprD ds = some d ∧ ∀ v H', Same H H' → Rep X.K H' v d → Q v H') (tCons (tXf a cls d (xc.cls c) (xc.fld c) (tVar i)) tNil)) (gName j)) := by
    intro a oe cls d pn hz hf
    refine pss_one (ps_set (X := X.suite a ((a, oe) :: pn)) hN hj (.inl hlj) (pe_callB (repr_ok (X := X.suite a ((a, oe) :: pn)) hgd hu) hgr hmr (by decide +kernel) (pa_cons (pe_xf hxf hfl hz hf (pe_var hi (.inl hln) hd1 hd2)) pa_nil)) (hsw _) (.inr hlj))
  refine psimp (ps_try_as hs hfr hN hi hln hnm tk hb suite) fun E σ H ⟨w, env, s, rel, q⟩ => ?_
  refine ⟨w, env, s, rel, ?_⟩
  unfold tryRS at q
  cases z : mb env s with
  | exc c' f env' s' =>
    rw [z] at q
    dsimp only at q
    intro xa v σ' H' w' g rel' ex rv
    split at q
    · rename_i hcc
      subst hcc
      refine ⟨true, hyes, fun _ a na => ?_, fun h => nomatch h⟩
      cases z2 : reprD [f] with
      | none => rw [z2] at q; exact q.elim
      | some d =>
        rw [z2] at q
        by_cases hil' : i < env'.length
        case neg => rw [decide_eq_false hil'] at q; exact q.elim
        rw [decide_eq_true hil'] at q
        have hil : i < σ'.length := by rw [← rel'.len]; exact hil'
        refine ⟨.ref a, List.getElem?_set_self hil, rfl, rfl, xa, [(xc.fld c', v)], v, rfl, ex, by simp, [f], d, .cons rv.rd .nil, z2, fun u H2 sm ru => ?_⟩
        have rel2 : Rel X.K w' (env'.set i none) s' (σ'.set i (some (.ref a))) H2 := (rel'.unset i _).go (sgo sm) (rel'.st.same sm)
        exact q _ H2 w' (g.trans (sgo sm)) ((rel2.set (i := j) (.of ru)).unset i none)
    · split at q
      · rename_i hcc hin
        refine ⟨false, hno c' (by simpa using hin), (fun h => nomatch h), fun _ => ?_⟩
        exact q xa v σ' H' w' g rel' ex rv
      · exact q.elim
  | nx env' s' => rw [z] at q; exact q
  | rt d s' => rw [z] at q; exact q
  | brk env' s' => rw [z] at q; exact q
  | cont env' s' => rw [z] at q; exact q
  | stuck => rw [z] at q; exact q
end
end PI

set_option maxHeartbeats 1000000
/-! PI, part n: the evaluator of core terms; one rule a construct. -/
namespace PI
open PySem L2 PyProof.Rows
def biD : BI → List D → Option D
  | .len => lenD
  | .all => allD
  | .any => anyD
  | .int => intD
  | .tuple => tupleD
  | .list => listD
  | .sorted => sortedD
  | .min => minD
  | .max => maxD
  | .repr => reprD
abbrev Fns := Nat → List D → M D
/-- what a term means: as a value, as what is walked, as a slice's part, as an item of a display -/
structure Mean where
  v : M D
  i : M (List D)
  o : M (Option Int)
  l : M (List D) → M (List D)
def mean (m : M D) : Mean := ⟨m, walkM m, intM m, consM m⟩
def meanI (m : M (List D)) : Mean := ⟨M.stk, m, M.stk, fun _ => M.stk⟩
mutual
def evA (Γ : Fns) : C → Env' → Mean
  | .k d, _ => mean (M.ret d)
  | .v i, env => mean (rd env i)
  | .bin o a b, env => mean ((evA Γ a env).v >>= fun x => (evA Γ b env).v >>= fun y => op2 (binD o) x y)
  | .neg a, env => mean ((evA Γ a env).v >>= fun x => op1 negD x)
  | .cmp o a b, env => mean ((evA Γ a env).v >>= fun x => (evA Γ b env).v >>= fun y => op2 (cmpD o) x y)
  | .chain o o' a b c, env => mean (chainM o o' (evA Γ a env).v (evA Γ b env).v (evA Γ c env).v)
  | .and a b, env => mean (andM (evA Γ a env).v (evA Γ b env).v)
  | .or a b, env => mean (orM (evA Γ a env).v (evA Γ b env).v)
  | .not a, env => mean (notM (evA Γ a env).v)
  | .ite t a b, env => mean (iteM (evA Γ t env).v (evA Γ a env).v (evA Γ b env).v)
  | .tup es, env => mean (tupM (evL Γ es env))
  | .lst es, env => mean (lstM (evL Γ es env))
  | .dct0, _ => mean (M.ret (.dct [] []))
  | .call f es, env => mean (evN Γ es env >>= Γ f)
  | .bi b es, env => mean (biM (biD b) (evN Γ es env))
  | .isi a ts, env => mean ((evA Γ a env).v >>= fun x => op1 (isiD ts) x)
  | .ix a b, env => mean ((evA Γ a env).v >>= fun x => (evA Γ b env).v >>= fun y => op2 ixD x y)
  | .sl a lo hi, env => mean (sliceM cutD (evA Γ a env).v (evA Γ lo env).o (evA Γ hi env).o)
  | .slr a lo hi, env => mean (sliceM backD (evA Γ a env).v (evA Γ lo env).o (evA Γ hi env).o)
  | .lc own t it c e, env => mean (lcM own t (evA Γ it env).i (fun env => (evA Γ c env).v) (fun env => (evA Γ e env).v) env)
  | .lc2 own t1 it1 own2 t2 it2 c e, env => mean (lc2M own t1 (evA Γ it1 env).i (fun env => (evA Γ it2 env).i) own2 t2 (fun env => (evA Γ c env).v) (fun env => (evA Γ e env).v) env)
  | .star a, env => ⟨M.stk, M.stk, M.stk, starM (evA Γ a env).v⟩
  | .nop, _ => ⟨M.stk, M.stk, M.ret none, fun _ => M.stk⟩
  | .rng es, env => meanI (rangeM (evL Γ es env))
  | .zip es, env => meanI (zipM (evL Γ es env))
  | .enum es, env => meanI (enumM (evL Γ es env))
/-- a display's items -/
def evL (Γ : Fns) : List C → Env' → M (List D)
  | [], _ => M.ret []
  | e :: es, env => (evA Γ e env).l (evL Γ es env)
/-- arguments -/
def evN (Γ : Fns) : List C → Env' → M (List D)
  | [], _ => M.ret []
  | e :: es, env => consN (evA Γ e env).v (evN Γ es env)
end
abbrev evC (Γ : Fns) (c : C) (env : Env') : M D := (evA Γ c env).v
abbrev evI (Γ : Fns) (c : C) (env : Env') : M (List D) := (evA Γ c env).i
abbrev evO (Γ : Fns) (c : C) (env : Env') : M (Option Int) := (evA Γ c env).o
example (Γ : Fns) (a b : C) (env : Env') : evC Γ (.bin .add a b) env = (evC Γ a env >>= fun x => evC Γ b env >>= fun y => op2 (binD .add) x y) := rfl
mutual
def evS (Γ : Fns) : S → SM
  | .pass => passS
  | .expr e => exprS (evC Γ e)
  | .asg t e => asgS t (evC Γ e)
  | .par is es => parS is (evN Γ es)
  | .ret e => retS (evC Γ e)
  | .retN => retN
  | .ite c a b => ifS (evC Γ c) (evSs Γ a) (evSs Γ b)
  | .for_ t it b => forS t (evI Γ it) (evSs Γ b)
  | .while_ n c b => whileS n (evC Γ c) (evSs Γ b)
  | .raise c e => raiseS c (evC Γ e)
  | .tryR c no i j b => tryRS c no i j (evSs Γ b)
  | .brk => brkS
  | .cont => contS
def evSs (Γ : Fns) : List S → SM
  | [] => passS
  | s :: r => seqS (evS Γ s) (evSs Γ r)
end

/-! ### the rules -/
/-- where a body runs -/
structure Okx (X : Cx) (k : Nat) : Prop where
  hr : Room (k + 1) X.A
  gd : X.A.guards = some []
  cm : X.calm = true
  nd : X.N.Nodup
theorem Okx.hu {X : Cx} {k : Nat} (o : Okx X k) : X.A.units + 65 < cLine := by have := o.hr.un; omega
theorem Okx.blk {X : Cx} {k : Nat} (o : Okx X k) {s : Shared} {H : Hp} {scope : Scope} {cenv : Env} {fp : List Addr} : Okx (X.blk s H scope cenv fp) k := ⟨o.hr, o.gd, o.cm, o.nd⟩
theorem Okx.tr {X : Cx} {k : Nat} (o : Okx X k) {pn : List (Addr × Obj)} {xe : Value → Shared → Prop} : Okx (X.tr pn xe) k := ⟨o.hr, o.gd, o.cm, o.nd⟩
def JE (X : Cx) (xc : XC) (W : WX) (Γ : Fns) (e : Expr) (c : C) : Prop := PE X e (tE X.K xc W (evC Γ c))
def JT (X : Cx) (xc : XC) (W : WX) (Γ : Fns) (e : Expr) (c : C) : Prop := PT X e (tTst X.K xc W (evC Γ c))
def JW (X : Cx) (xc : XC) (W : WX) (Γ : Fns) (e : Expr) (c : C) : Prop := PW X e (tTst X.K xc W (evC Γ c))
def JL (X : Cx) (xc : XC) (W : WX) (Γ : Fns) (es : List Expr) (cs : List C) : Prop := PA X es (tA X.K xc W (evL Γ cs))
def JN (X : Cx) (xc : XC) (W : WX) (Γ : Fns) (es : List Expr) (cs : List C) : Prop := PA X es (tA X.K xc W (evN Γ cs)) ∧ es.length = cs.length
def JI (X : Cx) (xc : XC) (W : WX) (Γ : Fns) (tg e : Expr) (c : C) : Prop := PI X tg e (tI X.K xc W (evI Γ c))
def JO (X : Cx) (xc : XC) (W : WX) (Γ : Fns) (e : Option Expr) (c : C) : Prop := PO X e (tPo X.K xc W (evO Γ c))
def JTs (X : Cx) (xc : XC) (W : WX) (Γ : Fns) (es : List Expr) (c : C) : Prop := PTs X es (tTst X.K xc W (evC Γ c))
def JG (X : Cx) (e : Expr) (t : T) : Prop := PG X e (tG X.K t)
def JGs (X : Cx) (es : List Expr) (ts : List T) : Prop := PGs X es (tGs X.K ts)
def JS (X : Cx) (xc : XC) (W : WX) (Γ : Fns) (st : Stmt) (s : S) : Prop := PS X st (tS X.K xc W (evS Γ s))
def JSs (X : Cx) (xc : XC) (W : WX) (Γ : Fns) (st : List Stmt) (s : List S) : Prop := PSs X st (tS X.K xc W (evSs Γ s))
abbrev WF : WX := fun _ _ _ _ => False
/-- what is known of an exception class -/
structure XcAt (P : Program) (K : PySem.W.Frag) (mg : Str → Option Value) (xc : XC) (n : Nat) (x : Str) (no : List Nat) : Prop where
  sup : SupC P K (xc.cls n) (xc.fld n)
  at_ : mg x = some (.ref (xc.cls n))
  yes : PySem.W.exmOne K (.ref (xc.cls n)) (.ref (xc.cls n)) = some true
  no_ : ∀ c' ∈ no, PySem.W.exmOne K (.ref (xc.cls c')) (.ref (xc.cls n)) = some false
  xf : XfC K (xc.cls n)
/-- a block's names, looked at -/
def blkB (N : List Str) (sc scope : Scope) (own : List (Str × Nat)) : Bool :=
  decide (scope.kind = .function) && (scope.names.all (fun y => decide (scope.names.lookup y.1 = some y.2)) && (own.all (fun p => decide (N[p.2]? = some p.1)) &&
    (scope.names.all (fun y => !decide (y.2 = .free) || (decide (sc.names.lookup y.1 = some .cell) || decide (sc.names.lookup y.1 = some .free))) &&
      scope.names.all (fun y => !(decide (y.2 = .local) || decide (y.2 = .cell)) || (decide (y.1 ∈ own.map (·.1)) || decide (y.1 ∉ N))))))
theorem blk_of {N : List Str} {sc scope : Scope} {own : List (Str × Nat)} (h : blkB N sc scope own = true) : BlkOk N sc scope own := by
  unfold blkB at h
  simp only [Bool.and_eq_true, List.all_eq_true, decide_eq_true_eq, Bool.or_eq_true, Bool.not_eq_true', decide_eq_false_iff_not, Bool.or_eq_false_iff] at h
  obtain ⟨h1, h2, h3, h4, h5⟩ := h
  refine ⟨h1, h2, h3, fun y hy e => ?_, fun y hy e => ?_⟩
  · rcases h4 y hy with z | z
    · exact absurd e z
    · exact z
  · rcases h5 y hy with z | z
    · rcases e with e | e
      · exact absurd e z.1
      · exact absurd e z.2
    · exact z
section
variable {X : Cx} {xc : XC} {W : WX} {Γ : Fns} {a b c e : Expr} {es rest : List Expr} {ca cb cc ce : C} {cs : List C} {pos p p2 : Pos} {k : Nat}
theorem j_int {i : Int} {j : Nat} : JE X xc W Γ (.Constant (.int i) j pos) (.k (.int i)) := pd_k pe_int fun _ => .int i
theorem j_bl {i : Bool} {j : Nat} : JE X xc W Γ (.Constant (.bool i) j pos) (.k (.bl i)) := pd_k pe_bl fun _ => .bl i
theorem j_non {j : Nat} : JE X xc W Γ (.Constant .none j pos) (.k .non) := pd_k pe_non fun _ => .non
theorem j_str {x : Str} {j : Nat} : JE X xc W Γ (.Constant (.str x) j pos) (.k (.str x)) := pd_k pe_str fun _ => .str x
/-- a name of the module that holds a constant -/
def GV (mg : Str → Option Value) (x : Str) (v : V) : Prop := ∃ u, mg x = some u ∧ RelV v u
theorem j_gstr {x y : Str} (hv : GV X.mg x (.str y)) (hg : Gl X x := by rfl) (hd : (x == ("__debug__" : Str)) = false := by decide) : JE X xc W Γ (.Name x pos) (.k (.str y)) := by
  obtain ⟨u, hm, r⟩ := hv
  exact pd_k (pe_glob hg hm r hd) fun _ => .str y
theorem j_gint {x : Str} {i : Int} (hv : GV X.mg x (.int i)) (hg : Gl X x := by rfl) (hd : (x == ("__debug__" : Str)) = false := by decide) : JE X xc W Γ (.Name x pos) (.k (.int i)) := by
  obtain ⟨u, hm, r⟩ := hv
  exact pd_k (pe_glob hg hm r hd) fun _ => .int i
theorem j_v (i : Nat) {x : Str} (hN : X.N[i]? = some x := by rfl) (hv : Vis X.env.scope x := by first | exact Or.inl rfl | exact Or.inr (Or.inl rfl) | exact Or.inr (Or.inr rfl)) (hd : (x == ("__debug__" : Str)) = false := by decide) (hcd : (x == ("__classdict__" : Str)) = false := by decide) :
    JE X xc W Γ (.Name x pos) (.v i) := pd_v (pe_var hN hv hd hcd)
theorem j_bin (o : BOp) (ha : JE X xc W Γ a ca) (hb : JE X xc W Γ b cb) : JE X xc W Γ (.BinOp a (opOf o) b pos) (.bin o ca cb) := pd_op (bin_ok o) ha hb
theorem j_neg (ha : JE X xc W Γ a ca) : JE X xc W Γ (.UnaryOp .USub a pos) (.neg ca) := pd_neg ha
theorem j_cmp (o : COp) (ok : Okx X k) (ha : JE X xc W Γ a ca) (hb : JE X xc W Γ b cb) (hm : behindInMarks (copOf o) b = false := by rfl) : JE X xc W Γ (.Compare a [copOf o] [b] pos) (.cmp o ca cb) := pd_cmp (cmp_ok ok.hu o) hm ha hb
theorem jt_cmp (o : COp) (ok : Okx X k) (ha : JE X xc W Γ a ca) (hb : JE X xc W Γ b cb) (hm : behindInMarks (copOf o) b = false := by rfl) : JT X xc W Γ (.Compare a [copOf o] [b] pos) (.cmp o ca cb) := pdt_cmp (cmp_ok ok.hu o) hm ha hb
theorem j_chain (o o' : COp) (ok : Okx X k) (ha : JE X xc W Γ a ca) (hb : JE X xc W Γ b cb) (hc : JE X xc W Γ c cc) (hm : behindInMarks (copOf o') c = false := by rfl) : JE X xc W Γ (.Compare a [copOf o, copOf o'] [b, c] pos) (.chain o o' ca cb cc) := pd_chain ok.hu hm ha hb hc
theorem jt_chain (o o' : COp) (ok : Okx X k) (ha : JE X xc W Γ a ca) (hb : JE X xc W Γ b cb) (hc : JE X xc W Γ c cc) (hm : behindInMarks (copOf o') c = false := by rfl) : JT X xc W Γ (.Compare a [copOf o, copOf o'] [b, c] pos) (.chain o o' ca cb cc) := pdt_chain ok.hu hm ha hb hc
theorem j_one {op : BoolOp} (ha : JE X xc W Γ a ca) : JE X xc W Γ (.BoolOp op [a] pos) ca := pe_one ha
theorem j_and (ha : JE X xc W Γ a ca) (hb : JE X xc W Γ (.BoolOp .And (b :: rest) pos) cb) : JE X xc W Γ (.BoolOp .And (a :: b :: rest) pos) (.and ca cb) := pd_and ha hb
theorem j_or (ha : JE X xc W Γ a ca) (hb : JE X xc W Γ (.BoolOp .Or (b :: rest) pos) cb) : JE X xc W Γ (.BoolOp .Or (a :: b :: rest) pos) (.or ca cb) := pd_or ha hb
theorem j_not (ha : JE X xc W Γ a ca) : JE X xc W Γ (.UnaryOp .Not a pos) (.not ca) := pd_not ha
theorem jt_val (h : JE X xc W Γ e ce) (he : ∀ whole, isTrue e X.env whole = (do let v ← whole; standAt e.pos; holding [v] (truthy v)) := by intro _; rfl) : JT X xc W Γ e ce := pt_of h he
theorem jw_and1 (ha : JT X xc W Γ a ca) : JW X xc W Γ (.BoolOp .And [a] pos) ca := pw_and1 ha
theorem jw_or1 (ha : JT X xc W Γ a ca) : JW X xc W Γ (.BoolOp .Or [a] pos) ca := pw_or1 ha
theorem jw_and (ha : JT X xc W Γ a ca) (hb : JW X xc W Γ (.BoolOp .And (b :: rest) pos) cb) : JW X xc W Γ (.BoolOp .And (a :: b :: rest) pos) (.and ca cb) := pdt_and ha hb
theorem jw_or (ha : JT X xc W Γ a ca) (hb : JW X xc W Γ (.BoolOp .Or (b :: rest) pos) cb) : JW X xc W Γ (.BoolOp .Or (a :: b :: rest) pos) (.or ca cb) := pdt_or ha hb
theorem jt_w (h : JW X xc W Γ e ce) : JT X xc W Γ e ce := PW.pt h
theorem jt_not (ha : JT X xc W Γ a ca) : JT X xc W Γ (.UnaryOp .Not a pos) (.not ca) := pdt_not ha
theorem j_ite (ht : JT X xc W Γ c cc) (ha : JE X xc W Γ a ca) (hb : JE X xc W Γ b cb) : JE X xc W Γ (.IfExp c a b pos) (.ite cc ca cb) := pd_ite ht ha hb
theorem jl_nil : JL X xc W Γ [] [] := pda_nil
theorem jl_cons (h : JE X xc W Γ e ce) (hr : JL X xc W Γ es cs) (hs : starEach (e :: es) X.env = (false, eval e X.env) :: starEach es X.env := by rfl) (hc : evL Γ (ce :: cs) = fun env => consM (evC Γ ce env) (evL Γ cs env) := by rfl) : JL X xc W Γ (e :: es) (ce :: cs) := by
  unfold JL
  rw [hc]
  exact pda_cons h hr hs
theorem jl_star (h : JE X xc W Γ e ce) (hr : JL X xc W Γ es cs) : JL X xc W Γ (.Starred e p :: es) (.star ce :: cs) := pda_star h hr
theorem jn_nil : JN X xc W Γ [] [] := ⟨pda_nil, rfl⟩
theorem jn_cons (h : JE X xc W Γ e ce) (hr : JN X xc W Γ es cs) (hs : starEach (e :: es) X.env = (false, eval e X.env) :: starEach es X.env := by rfl) : JN X xc W Γ (e :: es) (ce :: cs) := ⟨pda_consN h hr.1 hs, by rw [List.length_cons, List.length_cons, hr.2]⟩
theorem j_tup {n : Nat} (h : JL X xc W Γ es cs) : JE X xc W Γ (.Tuple es n pos) (.tup cs) := pd_tup h
theorem j_lst (h : JL X xc W Γ es cs) : JE X xc W Γ (.List es pos) (.lst cs) := pd_lst h
theorem j_dct0 : JE X xc W Γ (.Dict [] [] pos) .dct0 := by
  refine ⟨fun pins s σ H Q I ⟨w, env, s0, rel, p⟩ => thn (pe_dnewK.run pins s σ H (fun v H' => ∃ a, v = .ref a ∧ H a = none ∧ H' = upd H a (.dK [])) I fun a ha => ⟨a, rfl, ha, rfl⟩) fun u s1 ⟨v, H1, I1, r, a, e1, ha, e2⟩ => ?_⟩
  subst e1 e2
  obtain ⟨o, I2⟩ := I1.lock upd_same trivial
  rw [upd_upd] at I2
  have sm : Same H (upd H a (.frz o (.dK []))) := snew ha
  exact ⟨.ref a, _, I2, r, p _ _ w (sgo sm) (rel.st.same sm) (.of (.dct0 upd_same))⟩
theorem evN_len : ∀ {cs : List C} {env : Env'} {s s' : SS} {ds : List D}, evN Γ cs env s = .ok ds s' → ds.length = cs.length
  | [], env, s, s', ds, h => by
    have h' : R.ok [] s = R.ok ds s' := h
    cases h'
    rfl
  | c :: cs, env, s, s', ds, h => by
    have h' : consN (evC Γ c env) (evN Γ cs env) s = .ok ds s' := h
    unfold consN at h'
    rw [M_bind] at h'
    unfold M.bnd at h'
    cases e : evC Γ c env s with
    | ok d s1 =>
      rw [e] at h'
      dsimp only at h'
      rw [M_bind] at h'
      unfold M.bnd at h'
      cases e2 : evN Γ cs env s1 with
      | ok r s2 =>
        rw [e2] at h'
        cases h'
        rw [List.length_cons, List.length_cons, evN_len e2]
      | exc _ _ _ => rw [e2] at h'; cases h'
      | stuck => rw [e2] at h'; cases h'
    | exc _ _ _ => rw [e] at h'; cases h'
    | stuck => rw [e] at h'; cases h'
theorem evL_len1 {env : Env'} {s s' : SS} {ds : List D} (hc : evL Γ [ce] = fun env => consM (evC Γ ce env) (evL Γ [] env)) (h : evL Γ [ce] env s = .ok ds s') : ds.length = 1 := by
  rw [hc] at h
  have h' : consM (evC Γ ce env) (M.ret []) s = .ok ds s' := h
  unfold consM at h'
  simp only [M_bind] at h'
  unfold M.bnd at h'
  cases e : evC Γ ce env s with
  | ok d s1 =>
    rw [e] at h'
    dsimp only at h'
    cases e2 : frz d s1 with
    | ok d2 s2 => rw [e2] at h'; cases h'; rfl
    | exc _ _ _ => rw [e2] at h'; cases h'
    | stuck => rw [e2] at h'; cases h'
  | exc _ _ _ => rw [e] at h'; cases h'
  | stuck => rw [e] at h'; cases h'
theorem evL_len2 {env : Env'} {s s' : SS} {ds : List D} (hc : evL Γ [ca, cb] = fun env => consM (evC Γ ca env) (evL Γ [cb] env)) (hc2 : evL Γ [cb] = fun env => consM (evC Γ cb env) (evL Γ [] env)) (h : evL Γ [ca, cb] env s = .ok ds s') : ds.length = 2 := by
  rw [hc] at h
  have h' : consM (evC Γ ca env) (evL Γ [cb] env) s = .ok ds s' := h
  unfold consM at h'
  simp only [M_bind] at h'
  unfold M.bnd at h'
  cases e : evC Γ ca env s with
  | ok d s1 =>
    rw [e] at h'
    dsimp only at h'
    cases e2 : frz d s1 with
    | ok d2 s2 =>
      rw [e2] at h'
      dsimp only at h'
      cases e3 : evL Γ [cb] env s2 with
      | ok r s3 =>
        rw [e3] at h'
        cases h'
        rw [List.length_cons, evL_len1 hc2 e3]
      | exc _ _ _ => rw [e3] at h'; cases h'
      | stuck => rw [e3] at h'; cases h'
    | exc _ _ _ => rw [e2] at h'; cases h'
    | stuck => rw [e2] at h'; cases h'
  | exc _ _ _ => rw [e] at h'; cases h'
  | stuck => rw [e] at h'; cases h'
theorem j_call {x : Str} {ps : List Str} {f : Nat} (F : FnAt X.prog X.w X.K X.mg X.base xc (k + 1) x ps (Γ f)) (ok : Okx X k) (tk : Takes X W) (ha : JN X xc W Γ (e :: es) cs) (hl : (e :: es).length = ps.length := by rfl) (hg : Gl X x := by rfl) (hdb : (x == ("__debug__" : Str)) = false := by decide)
    (he : starEach (e :: es) X.env = (false, eval e X.env) :: starEach es X.env := by rfl) (hpl : (backTo pos (starEach es X.env)).any (·.1) = false := by rfl) : JE X xc W Γ (.Call (.Name x p) (e :: es) [] pos) (.call f cs) :=
  pd_call F ok.hr ok.gd hg tk (fun env s ds s' h => by rw [evN_len h, ← ha.2, hl]) ha.1 hdb he hpl
theorem j_bi {x : Str} {id : String} (bi : BI) (hc : CallP X (.builtin id) (biD bi)) (hm : X.mg x = none) (hv : bootBuiltins x = some (.builtin id)) (ha : JN X xc W Γ (e :: es) cs) (hg : Gl X x := by rfl) (hn : x ≠ "__name__" := by decide) (hdb : (x == ("__debug__" : Str)) = false := by decide)
    (he : starEach (e :: es) X.env = (false, eval e X.env) :: starEach es X.env := by rfl) (hpl : (backTo pos (starEach es X.env)).any (·.1) = false := by rfl) : JE X xc W Γ (.Call (.Name x p) (e :: es) [] pos) (.bi bi cs) := pd_bi hc hg hm hv ha.1 hn hdb he hpl
theorem j_bt {x : Str} {id : String} (bi : BI) (hc : CallP X (.type id) (biD bi)) (hm : X.mg x = none) (hv : bootBuiltins x = some (.type id)) (ha : JN X xc W Γ (e :: es) cs) (hg : Gl X x := by rfl) (hn : x ≠ "__name__" := by decide) (hdb : (x == ("__debug__" : Str)) = false := by decide)
    (he : starEach (e :: es) X.env = (false, eval e X.env) :: starEach es X.env := by rfl) (hpl : (backTo pos (starEach es X.env)).any (·.1) = false := by rfl) : JE X xc W Γ (.Call (.Name x p) (e :: es) [] pos) (.bi bi cs) := pd_biT hc hg hm hv ha.1 hn hdb he hpl
theorem boot_len' : bootBuiltins "len" = some (.builtin "len") := by decide +kernel
theorem boot_all' : bootBuiltins "all" = some (.builtin "all") := by decide +kernel
theorem boot_any' : bootBuiltins "any" = some (.builtin "any") := by decide +kernel
theorem boot_min' : bootBuiltins "min" = some (.builtin "min") := by decide +kernel
theorem boot_max' : bootBuiltins "max" = some (.builtin "max") := by decide +kernel
theorem boot_rep' : bootBuiltins "repr" = some (.builtin "repr") := by decide +kernel
theorem boot_srt' : bootBuiltins "sorted" = some (.builtin "sorted") := by decide +kernel
theorem boot_int' : bootBuiltins "int" = some (.type "int") := by decide +kernel
theorem boot_tup' : bootBuiltins "tuple" = some (.type "tuple") := by decide +kernel
theorem boot_lst' : bootBuiltins "list" = some (.type "list") := by decide +kernel
theorem boot_str' : bootBuiltins "str" = some (.type "str") := by decide +kernel
theorem boot_bool' : bootBuiltins "bool" = some (.type "bool") := by decide +kernel
theorem boot_dict' : bootBuiltins "dict" = some (.type "dict") := by decide +kernel
theorem j_len (hm : X.mg "len" = none) (ha : JN X xc W Γ (e :: es) cs) (hg : Gl X "len" := by rfl) (he : starEach (e :: es) X.env = (false, eval e X.env) :: starEach es X.env := by rfl) (hpl : (backTo pos (starEach es X.env)).any (·.1) = false := by rfl) : JE X xc W Γ (.Call (.Name "len" p) (e :: es) [] pos) (.bi .len cs) := j_bi .len len_ok hm boot_len' ha hg (by decide) (by decide) he hpl
theorem j_all (ok : Okx X k) (hm : X.mg "all" = none) (ha : JN X xc W Γ (e :: es) cs) (hg : Gl X "all" := by rfl) (he : starEach (e :: es) X.env = (false, eval e X.env) :: starEach es X.env := by rfl) (hpl : (backTo pos (starEach es X.env)).any (·.1) = false := by rfl) : JE X xc W Γ (.Call (.Name "all" p) (e :: es) [] pos) (.bi .all cs) := j_bi .all (all_ok ok.cm) hm boot_all' ha hg (by decide) (by decide) he hpl
theorem j_any (ok : Okx X k) (hm : X.mg "any" = none) (ha : JN X xc W Γ (e :: es) cs) (hg : Gl X "any" := by rfl) (he : starEach (e :: es) X.env = (false, eval e X.env) :: starEach es X.env := by rfl) (hpl : (backTo pos (starEach es X.env)).any (·.1) = false := by rfl) : JE X xc W Γ (.Call (.Name "any" p) (e :: es) [] pos) (.bi .any cs) := j_bi .any (any_ok ok.cm) hm boot_any' ha hg (by decide) (by decide) he hpl
theorem j_min (ok : Okx X k) (hm : X.mg "min" = none) (ha : JN X xc W Γ (e :: es) cs) (hg : Gl X "min" := by rfl) (he : starEach (e :: es) X.env = (false, eval e X.env) :: starEach es X.env := by rfl) (hpl : (backTo pos (starEach es X.env)).any (·.1) = false := by rfl) : JE X xc W Γ (.Call (.Name "min" p) (e :: es) [] pos) (.bi .min cs) := j_bi .min (min_ok ok.cm) hm boot_min' ha hg (by decide) (by decide) he hpl
theorem j_max (ok : Okx X k) (hm : X.mg "max" = none) (ha : JN X xc W Γ (e :: es) cs) (hg : Gl X "max" := by rfl) (he : starEach (e :: es) X.env = (false, eval e X.env) :: starEach es X.env := by rfl) (hpl : (backTo pos (starEach es X.env)).any (·.1) = false := by rfl) : JE X xc W Γ (.Call (.Name "max" p) (e :: es) [] pos) (.bi .max cs) := j_bi .max (max_ok ok.cm) hm boot_max' ha hg (by decide) (by decide) he hpl
theorem j_repr (ok : Okx X k) (hm : X.mg "repr" = none) (ha : JN X xc W Γ (e :: es) cs) (hg : Gl X "repr" := by rfl) (he : starEach (e :: es) X.env = (false, eval e X.env) :: starEach es X.env := by rfl) (hpl : (backTo pos (starEach es X.env)).any (·.1) = false := by rfl) : JE X xc W Γ (.Call (.Name "repr" p) (e :: es) [] pos) (.bi .repr cs) := j_bi .repr (repr_ok ok.gd ok.hu) hm boot_rep' ha hg (by decide) (by decide) he hpl
theorem j_sorted (ok : Okx X k) (hm : X.mg "sorted" = none) (ha : JN X xc W Γ (e :: es) cs) (hg : Gl X "sorted" := by rfl) (he : starEach (e :: es) X.env = (false, eval e X.env) :: starEach es X.env := by rfl) (hpl : (backTo pos (starEach es X.env)).any (·.1) = false := by rfl) : JE X xc W Γ (.Call (.Name "sorted" p) (e :: es) [] pos) (.bi .sorted cs) := j_bi .sorted (sorted_ok ok.hu) hm boot_srt' ha hg (by decide) (by decide) he hpl
theorem j_toint (hm : X.mg "int" = none) (ha : JN X xc W Γ (e :: es) cs) (hg : Gl X "int" := by rfl) (he : starEach (e :: es) X.env = (false, eval e X.env) :: starEach es X.env := by rfl) (hpl : (backTo pos (starEach es X.env)).any (·.1) = false := by rfl) : JE X xc W Γ (.Call (.Name "int" p) (e :: es) [] pos) (.bi .int cs) := j_bt .int int_ok hm boot_int' ha hg (by decide) (by decide) he hpl
theorem j_totup (hm : X.mg "tuple" = none) (ha : JN X xc W Γ (e :: es) cs) (hg : Gl X "tuple" := by rfl) (he : starEach (e :: es) X.env = (false, eval e X.env) :: starEach es X.env := by rfl) (hpl : (backTo pos (starEach es X.env)).any (·.1) = false := by rfl) : JE X xc W Γ (.Call (.Name "tuple" p) (e :: es) [] pos) (.bi .tuple cs) := j_bt .tuple tuple_ok hm boot_tup' ha hg (by decide) (by decide) he hpl
theorem j_tolst (hm : X.mg "list" = none) (ha : JN X xc W Γ (e :: es) cs) (hg : Gl X "list" := by rfl) (he : starEach (e :: es) X.env = (false, eval e X.env) :: starEach es X.env := by rfl) (hpl : (backTo pos (starEach es X.env)).any (·.1) = false := by rfl) : JE X xc W Γ (.Call (.Name "list" p) (e :: es) [] pos) (.bi .list cs) := j_bt .list list_ok hm boot_lst' ha hg (by decide) (by decide) he hpl
theorem j_isi (t : Ty) {x : Str} {b : String} (hmi : X.mg "isinstance" = none) (hm : X.mg x = none) (hv : bootBuiltins x = some (.type b)) (ha : JE X xc W Γ a ca) (hb : t.name = some b := by rfl) (hg : Gl X "isinstance" := by rfl) (hgx : Gl X x := by rfl) (hn : x ≠ "__name__" := by decide) (hd : (x == ("__debug__" : Str)) = false := by decide)
    (he : starEach [a, .Name x p2] X.env = (false, eval a X.env) :: starEach [.Name x p2] X.env := by rfl) (he2 : starEach [.Name x p2] X.env = [(false, eval (.Name x p2) X.env)] := by rfl) : JE X xc W Γ (.Call (.Name "isinstance" p) [a, .Name x p2] [] pos) (.isi ca [t]) := pd_isi hg hmi hb ha (pe_bltn hgx hm hv rfl hn hd) he he2
theorem j_ix (ha : JE X xc W Γ a ca) (hb : JE X xc W Γ b cb) (hs : PlainIx b := by intro _ _; rfl) : JE X xc W Γ (.Subscript a b pos) (.ix ca cb) := pd_ix hs ha hb
theorem jo_none : JO X xc W Γ none .nop := pdo_none
theorem jo_some (h : JE X xc W Γ e ce) (hc : evO Γ ce = fun env => intM (evC Γ ce env) := by rfl) : JO X xc W Γ (some e) ce := by
  unfold JO
  rw [hc]
  exact pdo_some h
theorem j_sl {lo hi : Option Expr} {cl ch : C} (ha : JE X xc W Γ a ca) (hl : JO X xc W Γ lo cl) (hh : JO X xc W Γ hi ch) : JE X xc W Γ (.Subscript a (.Slice lo hi none p2) pos) (.sl ca cl ch) := pd_sl ha hl hh
theorem j_slr {lo hi : Option Expr} {cl ch : C} {j : Nat} {p1 p3 : Pos} (ha : JE X xc W Γ a ca) (hl : JO X xc W Γ lo cl) (hh : JO X xc W Γ hi ch) : JE X xc W Γ (.Subscript a (.Slice lo hi (some (.UnaryOp .USub (.Constant (.int 1) j p1) p2)) p3) pos) (.slr ca cl ch) := pd_back ha hl hh
/-! what is walked -/
theorem ji_walk {tg : Expr} (h : JE X xc W Γ e ce) (hc : evI Γ ce = fun env => walkM (evC Γ ce env) := by rfl) : JI X xc W Γ tg e ce := by
  unfold JI
  rw [hc]
  exact pdi_walk h
theorem ji_rng1 {tg : Expr} (hm : X.mg "range" = none) (ha : JL X xc W Γ [a] [ca]) (hg : Gl X "range" := by rfl) (hs : starEach [a] X.env = [(false, eval a X.env)] := by rfl) (hc : evL Γ [ca] = fun env => consM (evC Γ ca env) (evL Γ [] env) := by rfl) : JI X xc W Γ tg (.Call (.Name "range" p) [a] [] pos) (.rng [ca]) :=
  pdi_rng1 hg hm ha hs fun env s ds s' h => evL_len1 hc h
theorem ji_rng2 {tg : Expr} (hm : X.mg "range" = none) (ha : JL X xc W Γ [a, b] [ca, cb]) (hg : Gl X "range" := by rfl) (hs : starEach [a, b] X.env = [(false, eval a X.env), (false, eval b X.env)] := by rfl) (hs2 : starEach [b] X.env = [(false, eval b X.env)] := by rfl)
    (hc : evL Γ [ca, cb] = fun env => consM (evC Γ ca env) (evL Γ [cb] env) := by rfl) (hc2 : evL Γ [cb] = fun env => consM (evC Γ cb env) (evL Γ [] env) := by rfl) : JI X xc W Γ tg (.Call (.Name "range" p) [a, b] [] pos) (.rng [ca, cb]) :=
  pdi_rng2 hg hm ha hs hs2 fun env s ds s' h => evL_len2 hc hc2 h
theorem ji_zip {elts : List Expr} {kk : Nat} {tpos : Pos} (hm : X.mg "zip" = none) (ha : JL X xc W Γ [a, b] cs) (hg : Gl X "zip" := by rfl) (hs : starEach [a, b] X.env = (false, eval a X.env) :: starEach [b] X.env := by rfl) (hpl : (backTo pos (starEach [b] X.env)).any (·.1) = false := by rfl) :
    JI X xc W Γ (.Tuple elts kk tpos) (.Call (.Name "zip" p) [a, b] [] pos) (.zip cs) := pdi_zip hg hm ha hs hpl
theorem ji_enum {elts : List Expr} {kk : Nat} {tpos : Pos} (hm : X.mg "enumerate" = none) (ha : JL X xc W Γ [a] cs) (hg : Gl X "enumerate" := by rfl) (hs : starEach [a] X.env = [(false, eval a X.env)] := by rfl) : JI X xc W Γ (.Tuple elts kk tpos) (.Call (.Name "enumerate" p) [a] [] pos) (.enum cs) := pdi_enum hg hm ha hs
/-! targets -/
theorem jg_nm (i : Nat) {x : Str} (nd : X.N.Nodup) (hi : X.N[i]? = some x := by rfl) (hx : Loc X.env.scope x := by first | exact Or.inl rfl | exact Or.inr rfl) (hf : X.fn x = true ∨ X.env.scope.names.lookup x = some .local := by first | exact .inl rfl | exact .inr rfl) : JG X (.Name x pos) (.nm i) := pdg_nm (pg_name nd hi hx hf)
theorem jgs_nil : JGs X [] [] := pdgs_nil
theorem jgs_cons {t : T} {ts : List T} (h1 : JG X e t) (h2 : JGs X es ts) (hs : (assignEach (e :: es) X.env).map (·.2) = assign e X.env :: (assignEach es X.env).map (·.2) := by rfl) : JGs X (e :: es) (t :: ts) := pdgs_cons h1 h2 hs
theorem jg_tup {ts : List T} {n : Nat} (ok : Okx X k) (h : JGs X es ts) (hn : (assignEach es X.env).length = ts.length := by rfl) (hst : (assignEach es X.env).findIdx? (·.1) = none := by rfl) : JG X (.Tuple es n pos) (.tup ts) := pdg_tup ok.cm h hn hst
/-! tests of a comprehension -/
theorem jts_nil : JTs X xc W Γ [] (.k (.bl true)) := ⟨fun pins s σ H Q I ⟨w, env, s0, rel, p⟩ => pts_nil.run pins s σ H Q I (by
  obtain ⟨c, e1, q⟩ := p (.bl true) H w (Go.refl _ _) rel.st (.of (.bl true))
  cases e1
  exact q)⟩
theorem jts_one (h : JT X xc W Γ e ce) : JTs X xc W Γ [e] ce := pts_one h
/-! comprehensions -/
theorem j_lc {elt tg iter : Expr} {ifs : List Expr} {scope : Scope} {own : List (Str × Nat)} {t : T} {ci ct : C} (ok : Okx X k) (bk : BlkOk X.N X.env.scope scope own) (hi : JI X xc W Γ tg iter ci)
    (hg : ∀ (s : Shared) (H : Hp) (C : Addr) (cl : List (Str × Addr)) (fp : List Addr), JG (X.blk s H scope (compEnvC scope cl C X.env) fp) tg t)
    (ht : ∀ (s : Shared) (H : Hp) (C : Addr) (cl : List (Str × Addr)) (fp : List Addr), JTs (X.blk s H scope (compEnvC scope cl C X.env) fp) xc WF Γ ifs ct)
    (he : ∀ (s : Shared) (H : Hp) (C : Addr) (cl : List (Str × Addr)) (fp : List Addr), JE (X.blk s H scope (compEnvC scope cl C X.env) fp) xc WF Γ elt ce)
    (hsub : ∀ j ∈ slotsT t, j ∈ own.map (·.2)) (hs : ∀ x, foldedSetIterable iter X.env x = pure x := by intro _; rfl) :
    JE X xc W Γ (.ListComp elt [⟨tg, iter, ifs, 0⟩] scope pos) (.lc (own.map (·.2)) t ci ct ce) := pd_lc ok.cm ok.nd hi bk hg ht he hs hsub
theorem j_lc2 {elt tg iter tg1 iter1 : Expr} {ifs1 : List Expr} {scope : Scope} {own : List (Str × Nat)} {vs1 : List Nat} {t t2 : T} {ci ci2 ct : C} (ok : Okx X k) (bk : BlkOk X.N X.env.scope scope own) (hv : ∀ i ∈ vs1, i ∈ own.map (·.2)) (hi : JI X xc W Γ tg iter ci)
    (hg : ∀ (s : Shared) (H : Hp) (C : Addr) (cl : List (Str × Addr)) (fp : List Addr), JG (X.blk s H scope (compEnvC scope cl C X.env) fp) tg t)
    (hi1 : ∀ (s : Shared) (H : Hp) (C : Addr) (cl : List (Str × Addr)) (fp : List Addr), JI (X.blk s H scope (compEnvC scope cl C X.env) fp) xc WF Γ tg1 iter1 ci2)
    (hg1 : ∀ (s : Shared) (H : Hp) (C : Addr) (cl : List (Str × Addr)) (fp : List Addr), JG (X.blk s H scope (compEnvC scope cl C X.env) fp) tg1 t2)
    (ht1 : ∀ (s : Shared) (H : Hp) (C : Addr) (cl : List (Str × Addr)) (fp : List Addr), JTs (X.blk s H scope (compEnvC scope cl C X.env) fp) xc WF Γ ifs1 ct)
    (he : ∀ (s : Shared) (H : Hp) (C : Addr) (cl : List (Str × Addr)) (fp : List Addr), JE (X.blk s H scope (compEnvC scope cl C X.env) fp) xc WF Γ elt ce)
    (hsub : ∀ j ∈ slotsT t, j ∈ own.map (·.2)) (hsub2 : ∀ j ∈ slotsT t2, j ∈ vs1) (hs : ∀ x, foldedSetIterable iter X.env x = pure x := by intro _; rfl) (hs1 : ∀ env x, foldedSetIterable iter1 env x = pure x := by intro _ _; rfl) :
    JE X xc W Γ (.ListComp elt [⟨tg, iter, [], 0⟩, ⟨tg1, iter1, ifs1, 0⟩] scope pos) (.lc2 (own.map (·.2)) t ci vs1 t2 ci2 ct ce) := pd_lc2 ok.cm ok.nd hi bk hv hg hi1 hg1 ht1 he hs hs1 hsub hsub2
/-! statements -/
theorem js_nil : JSs X xc W Γ [] [] := pds_nil
theorem js_cons {st : Stmt} {sts : List Stmt} {s : S} {ss : List S} (h1 : JS X xc W Γ st s) (h2 : JSs X xc W Γ sts ss) : JSs X xc W Γ (st :: sts) (s :: ss) := pds_cons h1 h2
theorem js_pass : JS X xc W Γ (.Pass pos) .pass := pds_pass
theorem js_brk : JS X xc W Γ (.Break pos) .brk := pds_brk
theorem js_cont : JS X xc W Γ (.Continue pos) .cont := pds_cont
theorem js_expr (h : JE X xc W Γ e ce) (hs : swapsWith e none pos.line X.env = pure false := by rfl) : JS X xc W Γ (.Expr e pos) (.expr ce) := pds_expr h hs
theorem js_ret (h : JE X xc W Γ e ce) : JS X xc W Γ (.Return (some e) pos) (.ret ce) := pds_ret h
theorem js_retN : JS X xc W Γ (.Return none pos) .retN := pds_retN
theorem js_set (i : Nat) {x : Str} (ok : Okx X k) (h : JE X xc W Γ e ce) (hi : X.N[i]? = some x := by rfl) (hx : Loc X.env.scope x := by first | exact Or.inl rfl | exact Or.inr rfl) (hs : swapsWith e (some (.Name x p)) pos.line X.env = pure false := by rfl) (hf : X.fn x = true ∨ X.env.scope.names.lookup x = some .local := by first | exact .inl rfl | exact .inr rfl) :
    JS X xc W Γ (.Assign [.Name x p] e pos) (.asg (.nm i) ce) := pds_set ok.nd hi hx h hs hf
theorem js_asg {tg : Expr} {t : T} (h : JE X xc W Γ e ce) (hg : JG X tg t) (hs : swapsWithSole [tg] e pos.line X.env = pure false := by rfl) (hw : swappedStores [tg] e X.env = pure none := by rfl) (h1 : (assignEach [tg] X.env).map (·.2) = [assign tg X.env] := by rfl) : JS X xc W Γ (.Assign [tg] e pos) (.asg t ce) := pds_asg h hg hs hw h1
theorem js_if {sa sb : List Stmt} {ma mb : List S} (hc : JT X xc W Γ c cc) (ha : JSs X xc W Γ sa ma) (hb : JSs X xc W Γ sb mb) : JS X xc W Γ (.If c sa sb pos) (.ite cc ma mb) := pds_if hc ha hb
theorem js_for {tg iter : Expr} {sb : List Stmt} {mb : List S} {t : T} {ci : C} (ok : Okx X k) (hp : PassesOwn (model X.prog X.w) X.A X.env X.xe) (hi : JI X xc W Γ tg iter ci) (hg : JG X tg t) (hb : JSs X xc W Γ sb mb) (hs : ∀ x, foldedSetIterable iter X.env x = pure x := by intro _; rfl) : JS X xc W Γ (.For tg iter sb [] pos) (.for_ t ci mb) := pds_for hp ok.cm hi hg hb hs
theorem js_while (n : Nat) {sb : List Stmt} {mb : List S} (hp : PassesOwn (model X.prog X.w) X.A X.env X.xe) (hc : JT X xc W Γ c cc) (hb : JSs X xc W Γ sb mb) : JS X xc W Γ (.While c sb [] pos) (.while_ n cc mb) := pds_while hp hc hb
theorem js_par2 (i j : Nat) {x y : Str} {px py pt pt2 : Pos} {kt k2 : Nat} (ok : Okx X k) (ha : JN X xc W Γ [a, b] cs) (hi : X.N[i]? = some x := by rfl) (hj : X.N[j]? = some y := by rfl) (hij : i ≠ j := by decide) (hx : X.env.scope.names.lookup x = some .local := by rfl) (hy : X.env.scope.names.lookup y = some .local := by rfl)
    (hw : swappedStores [.Tuple [.Name x px, .Name y py] kt pt] (.Tuple [a, b] k2 pt2) X.env = pure (some [x, y]) := by rfl) (hs : swapsWithSole [.Tuple [.Name x px, .Name y py] kt pt] (.Tuple [a, b] k2 pt2) pos.line X.env = pure false := by rfl) :
    JS X xc W Γ (.Assign [.Tuple [.Name x px, .Name y py] kt pt] (.Tuple [a, b] k2 pt2) pos) (.par [i, j] cs) := pds_par2 ok.cm ok.nd hi hj hij hx hy ha.1 hw hs
theorem js_par3 (i j l : Nat) {x y z : Str} {px py pz pt pt2 : Pos} {kt k2 : Nat} (ok : Okx X k) (ha : JN X xc W Γ [a, b, c] cs) (hi : X.N[i]? = some x := by rfl) (hj : X.N[j]? = some y := by rfl) (hl : X.N[l]? = some z := by rfl) (hij : i ≠ j := by decide) (hil : i ≠ l := by decide) (hjl : j ≠ l := by decide)
    (hx : X.env.scope.names.lookup x = some .local := by rfl) (hy : X.env.scope.names.lookup y = some .local := by rfl) (hz : X.env.scope.names.lookup z = some .local := by rfl)
    (hw : swappedStores [.Tuple [.Name x px, .Name y py, .Name z pz] kt pt] (.Tuple [a, b, c] k2 pt2) X.env = pure (some [x, y, z]) := by rfl) (hs : swapsWithSole [.Tuple [.Name x px, .Name y py, .Name z pz] kt pt] (.Tuple [a, b, c] k2 pt2) pos.line X.env = pure false := by rfl) :
    JS X xc W Γ (.Assign [.Tuple [.Name x px, .Name y py, .Name z pz] kt pt] (.Tuple [a, b, c] k2 pt2) pos) (.par [i, j, l] cs) := pds_par3 ok.cm ok.nd hi hj hl hij hil hjl hx hy hz ha.1 hw hs
theorem js_setLc (i : Nat) {y : Str} {py spos : Pos} {elt tg iter : Expr} {ifs : List Expr} {scope : Scope} {own : List (Str × Nat)} {t : T} {ci ct : C} (ok : Okx X k) (hsw : swapsWith (.ListComp elt [⟨tg, iter, ifs, 0⟩] scope pos) (some (.Name y py)) spos.line X.env = pure true) (bk : BlkOk X.N X.env.scope scope own) (hi : JI X xc W Γ tg iter ci)
    (hg : ∀ (s : Shared) (H : Hp) (C : Addr) (cl : List (Str × Addr)) (fp : List Addr), JG (X.blk s H scope (compEnvC scope cl C X.env) fp) tg t)
    (ht : ∀ (s : Shared) (H : Hp) (C : Addr) (cl : List (Str × Addr)) (fp : List Addr), JTs (X.blk s H scope (compEnvC scope cl C X.env) fp) xc WF Γ ifs ct)
    (he : ∀ (s : Shared) (H : Hp) (C : Addr) (cl : List (Str × Addr)) (fp : List Addr), JE (X.blk s H scope (compEnvC scope cl C X.env) fp) xc WF Γ elt ce)
    (hsub : ∀ j ∈ slotsT t, j ∈ own.map (·.2)) (hy : X.N[i]? = some y := by rfl) (hyl : X.env.scope.names.lookup y = some .local := by rfl) (hs : ∀ x, foldedSetIterable iter X.env x = pure x := by intro _; rfl) :
    JS X xc W Γ (.Assign [.Name y py] (.ListComp elt [⟨tg, iter, ifs, 0⟩] scope pos) spos) (.asg (.nm i) (.lc (own.map (·.2)) t ci ct ce)) := pds_setLc ok.cm ok.nd hy hyl hsw hi bk hg ht he hs hsub
theorem js_setLc2 (i : Nat) {y : Str} {py spos : Pos} {elt tg iter tg1 iter1 : Expr} {ifs1 : List Expr} {scope : Scope} {own : List (Str × Nat)} {vs1 : List Nat} {t t2 : T} {ci ci2 ct : C} (ok : Okx X k) (hsw : swapsWith (.ListComp elt [⟨tg, iter, [], 0⟩, ⟨tg1, iter1, ifs1, 0⟩] scope pos) (some (.Name y py)) spos.line X.env = pure true) (bk : BlkOk X.N X.env.scope scope own) (hv : ∀ i ∈ vs1, i ∈ own.map (·.2)) (hi : JI X xc W Γ tg iter ci)
    (hg : ∀ (s : Shared) (H : Hp) (C : Addr) (cl : List (Str × Addr)) (fp : List Addr), JG (X.blk s H scope (compEnvC scope cl C X.env) fp) tg t)
    (hi1 : ∀ (s : Shared) (H : Hp) (C : Addr) (cl : List (Str × Addr)) (fp : List Addr), JI (X.blk s H scope (compEnvC scope cl C X.env) fp) xc WF Γ tg1 iter1 ci2)
    (hg1 : ∀ (s : Shared) (H : Hp) (C : Addr) (cl : List (Str × Addr)) (fp : List Addr), JG (X.blk s H scope (compEnvC scope cl C X.env) fp) tg1 t2)
    (ht1 : ∀ (s : Shared) (H : Hp) (C : Addr) (cl : List (Str × Addr)) (fp : List Addr), JTs (X.blk s H scope (compEnvC scope cl C X.env) fp) xc WF Γ ifs1 ct)
    (he : ∀ (s : Shared) (H : Hp) (C : Addr) (cl : List (Str × Addr)) (fp : List Addr), JE (X.blk s H scope (compEnvC scope cl C X.env) fp) xc WF Γ elt ce)
    (hsub : ∀ j ∈ slotsT t, j ∈ own.map (·.2)) (hsub2 : ∀ j ∈ slotsT t2, j ∈ vs1) (hy : X.N[i]? = some y := by rfl) (hyl : X.env.scope.names.lookup y = some .local := by rfl) (hs : ∀ x, foldedSetIterable iter X.env x = pure x := by intro _; rfl) (hs1 : ∀ env x, foldedSetIterable iter1 env x = pure x := by intro _ _; rfl) :
    JS X xc W Γ (.Assign [.Name y py] (.ListComp elt [⟨tg, iter, [], 0⟩, ⟨tg1, iter1, ifs1, 0⟩] scope pos) spos) (.asg (.nm i) (.lc2 (own.map (·.2)) t ci vs1 t2 ci2 ct ce)) := pds_setLc2 ok.cm ok.nd hy hyl hsw hi bk hv hg hi1 hg1 ht1 he hs hs1 hsub hsub2
theorem js_raise (n : Nat) {x : Str} {pos' : Pos} (ok : Okx X k) (tk : Takes X W) (S : SupC X.prog X.K (xc.cls n) (xc.fld n)) (hm : X.mg x = some (.ref (xc.cls n))) (hms : X.mg "super" = none) (h : JE X xc W Γ e ce) (hg : Gl X x := by rfl) (hdb : (x == ("__debug__" : Str)) = false := by decide) (hst : starEach [e] X.env = [(false, eval e X.env)] := by rfl) :
    JS X xc W Γ (.Raise (some (.Call (.Name x p) [e] [] pos)) none pos') (.raise n ce) := pds_raise ok.cm tk S (ok.hr.mono (by omega)) hg hm hms h hdb hst
theorem js_tryR (n i j : Nat) {x nme y : Str} {no : List Nat} {sb : List Stmt} {mb : List S} {np pos' p1 p2 p3 p4 p5 py : Pos} (ok : Okx X k) (tk : Takes X W) (hx : XcAt X.prog X.K X.mg xc n x no) (hmr : X.mg "repr" = none)
    (hb : ∀ (W' : WX) (pn : List (Addr × Obj)) (xe : Value → Shared → Prop), Takes (X.tr pn xe) W' → PassesOwn (model X.prog X.w) X.A X.env xe → JSs (X.tr pn xe) xc W' Γ sb mb)
    (hs : X.stack = X.env :: X.outer := by rfl) (hfr : X.env.frame = some X.env.locals := by rfl) (hi : X.N[i]? = some nme := by rfl) (hln : X.env.kindOf nme = some .local := by rfl) (hj : X.N[j]? = some y := by rfl) (hlj : X.env.scope.names.lookup y = some .local := by rfl)
    (hg : Gl X x := by rfl) (hdb : (x == ("__debug__" : Str)) = false := by decide) (hgr : Gl X "repr" := by rfl) (hd1 : (nme == ("__debug__" : Str)) = false := by decide) (hd2 : (nme == ("__classdict__" : Str)) = false := by decide)
    (hsw : ∀ env : Env, swapsWith (.Call (.Name "repr" p1) [.Attribute (.Name nme p2) (xc.fld n) p3] [] p4) (some (.Name y py)) p5.line env = pure false := by intro _; rfl) :
    JS X xc W Γ (.Try sb [.ExceptHandler (some (.Name x np)) (some nme) [.Assign [.Name y py] (.Call (.Name "repr" p1) [.Attribute (.Name nme p2) (xc.fld n) p3] [] p4) p5] pos'] [] [] pos) (.tryR n no i j mb) :=
  pds_tryR hs hfr ok.nd hi hln hj hlj ⟨hg, hdb, .inl hx.at_⟩ tk ok.hu ok.gd hx.yes hx.no_ hx.xf hx.sup.fld hgr hmr hd1 hd2 hsw hb
end
end PI

set_option maxHeartbeats 1000000
/-! PI, part w: the end of a law. -/
namespace PI
open PySem L2 PyProof.Rows
/-- no list stands in the written part -/
def noList (K : PySem.W.Frag) : Bool := K.all fun p => !(p.2.cls == .type "list")
theorem frag_mem : ∀ {K : List (Addr × Obj)} {a : Addr} {o : Obj}, K.lookup a = some o → (a, o) ∈ K
  | [], _, _, e => by cases e
  | (b, p) :: K, a, o, e => by
    rw [List.lookup_cons] at e
    split at e
    · rename_i h
      cases e
      rw [beq_iff_eq.mp h]
      exact List.mem_cons_self ..
    · exact List.mem_cons_of_mem _ (frag_mem e)
theorem noList_at {K : PySem.W.Frag} (h : noList K = true) {a : Addr} {o : Obj} (e : K.lookup a = some o) : o.cls ≠ .type "list" := fun z => by
  have m : (a, o) ∈ K := frag_mem e
  have q := List.all_eq_true.mp h _ m
  simp only [z] at q
  exact absurd q (by decide)
/-- the heap's view at the start: the script alone, as it is -/
def hp0 (a : Addr) (vs : List Value) (ns : List Int) : Hp := fun b => if b = a then some (.frz { cls := .type "list", data := .seq vs.toArray } (.lst (ns.map V.int))) else none
theorem reps_ints (K : PySem.W.Frag) (H : Hp) : ∀ ns : List Int, Reps K H (ns.map V.int) (ns.map D.int)
  | [] => .nil
  | n :: ns => .cons (.int n) (reps_ints K H ns)
theorem lawG {P : Program} {w : World} {K : PySem.W.Frag} {mg mb : Str → Option Value} {xc : XC} {k : Nat} {fa a : Addr} {fd : FuncData} {x : Str} {m : List D → M D} {s₁ : Shared} {vs : List Value} {ns : List Int}
    (KX : K.In s₁.heap) (hns : s₁.heap.Ns mainGlobals mg) (hb : s₁.heap.Ns builtinsNs mb) (hbb : ∀ x : Str, x ≠ "__name__" → mb x = bootBuiltins x) (hlim : s₁.heap.NoLimit) (hg : s₁.gens = #[])
    (ha : s₁.heap.get? a = some { cls := .type "list", data := .seq vs.toArray }) (hi : IntsAre vs ns) (hl : ns.length ≤ sizeLine) (hr : Room k callerA) (hK : noList K = true)
    (F : ∀ base : Heap, K.In base → base.Ns mainGlobals mg → FnG P w K mg base (L2.CX P w) k fa fd [x] (spM xc K 1 m)) (hbind : ∀ (s : Shared) (u : Value), K.In s.heap → BindsTo s fd ⟨[u], []⟩ [(x, u)])
    (hm : ∃ s', m [.lst (ns.map D.int)] ⟨none, []⟩ = .ok (.bl true) s') :
    codeAny (model P w) callerA (.call (.ref fa) ⟨[.ref a], []⟩) (fun r s' => r = .ok (.ret (.bool true)) ∧ OldK s₁.heap s'.heap ∧ s'.os = s₁.os ∧ AllBare s'.gens) s₁ := by
  have nK : K.lookup a = none := by
    cases z : K.lookup a with
    | none => rfl
    | some o =>
      have e := KX a o z
      rw [ha] at e
      cases e
      exact absurd rfl (noList_at hK z)
  have at0 : hp0 a vs ns a = some (.frz { cls := .type "list", data := .seq vs.toArray } (.lst (ns.map V.int))) := if_pos rfl
  have off : ∀ {b : Addr}, b ≠ a → hp0 a vs ns b = none := fun h => if_neg h
  have some0 : ∀ {b : Addr} {o : HO}, hp0 a vs ns b = some o → b = a := fun {b o} h => by
    by_cases z : b = a
    · exact z
    · rw [off z] at h; cases h
  have hok : HOk P w (hp0 a vs ns) s₁.heap := fun b o e => by
    have z := some0 e
    subst z
    rw [at0] at e
    cases e
    exact ⟨ha, by rw [List.length_map]; exact hl, vs, _, vals_ints hi, ha⟩
  have notA : ∀ {b : Addr} {o : Obj}, s₁.heap.get? b = some o → o.cls ≠ .type "list" ∨ (∃ es ep, o.data = .dict es ep) → b ≠ a := fun {b o} e h z => by
    rw [z, ha] at e
    cases e
    rcases h with h | ⟨es, ep, h⟩
    · exact h rfl
    · cases h
  have keep : ∀ {b : Addr} {o : Obj}, s₁.heap.get? b = some o → b ≠ a → (hidT s₁.heap (hp0 a vs ns)).get? b = some o := fun e z => hidT_get e (off z)
  have nsK : ∀ {b : Addr} {m : Str → Option Value}, s₁.heap.Ns b m → (hidT s₁.heap (hp0 a vs ns)).Ns b m := fun {b m} ⟨o, es, ep, e, d, r⟩ => ⟨o, es, ep, keep e (notA e (.inr ⟨es, ep, d⟩)), d, r⟩
  have kin : K.In (hidT s₁.heap (hp0 a vs ns)) := fun b o e => keep (KX b o e) fun z => by rw [z, nK] at e; cases e
  have md : Mod K mg (hidT s₁.heap (hp0 a vs ns)) := by
    obtain ⟨mc, l1, l2⟩ := hlim
    exact ⟨kin, nsK hns, ⟨mb, nsK hb, hbb⟩, mc, nsK l1, l2⟩
  have e0 : Env0 P w K mg (hidT s₁.heap (hp0 a vs ns)) callerA [] s₁ (hp0 a vs ns) := ⟨rfl, md, fun b o e => of_hidT e, Nat.le_of_eq (hidT_size _ _), trivial, fun b z => absurd (show b ∈ ([] : List Addr) from z) (by simp), hok, .of_eq hg⟩
  obtain ⟨s2, em⟩ := hm
  have sp0 : spM xc K 1 m [.ref a] (hp0 a vs ns) (fun v _ => v = .bl true) (fun _ _ _ => False) := by
    refine ⟨rfl, ⟨none, []⟩, [.lst (ns.map D.int)], ⟨none, []⟩, ⟨trivial, rfl, fun i a c h => by simp at h, List.nodup_nil⟩, .cons (.of (.lst ⟨_, at0⟩ (reps_ints _ _ ns))) .nil, ?_⟩
    rw [em]
    intro v H' w' _ _ r
    cases r
    rfl
  refine codeAny_mono ((F _ kin (nsK hns)).run callerA [] s₁ _ ⟨[.ref a], []⟩ [.ref a] [.ref a] _ _ hr rfl e0 (hbind s₁ (.ref a) KX) (.cons rfl .nil) sp0) fun r s' z => ?_
  cases r with
  | error e =>
    obtain ⟨_, _, _, _, _, _, _, _, _, _, _, _, q⟩ := z
    exact q.elim
  | ok fl =>
    cases fl with
    | next => exact z.elim
    | brk => exact z.elim
    | cont => exact z.elim
    | ret u =>
      obtain ⟨v, H', os, bare, un, hok', rv, q⟩ := z
      have q' : v = .bl true := q
      subst q'
      obtain rfl : u = Value.bool true := rv
      refine ⟨rfl, OldK.of_keep fun b o e => ?_, os, bare⟩
      by_cases hb : b = a
      · subst hb
        obtain ⟨e2, _⟩ := hok' b _ (un.frzs b _ _ at0)
        rw [ha] at e
        cases e
        exact e2
      · exact un.keep b o e (off hb) (fun z => absurd (show b ∈ ([] : List Addr) from z) (by simp)) (by simp)
theorem walkG {l : PySem.W.OpenLaw} {n k : Nat} {q : Program} {loose : List Str} {XP : (Str → Option Value) → Heap → Prop} {YP : World → Heap → Prop} {d : DefRec} {K : Params → PySem.W.Frag} {xc : XC} {m : List D → M D} {x : Str}
    (hn : l.most = some n) (hn2 : n ≤ sizeLine) (hdf : d.params.defaults = []) (hr : Room k callerA) (hY : ∀ (w : World) (h : Heap), YP w h → (K w.params).In h) (hK : ∀ w : World, noList (K w.params) = true)
    (F : ∀ (w : World) (mg : Str → Option Value) (fa : Addr) (h : Heap), (K w.params).In h → h.Ns mainGlobals mg → mg d.name = some (.ref fa) →
      ∃ (fd : FuncData) (xc : XC), (∀ (s : Shared) (u : Value), (K w.params).In s.heap → BindsTo s fd ⟨[u], []⟩ [(x, u)]) ∧ ∀ base : Heap, (K w.params).In base → base.Ns mainGlobals mg → FnG l.prog w (K w.params) mg base (L2.CX l.prog w) k fa fd [x] (spM xc (K w.params) 1 m))
    (hm : ∀ ns : List Int, ns.length ≤ n → ∃ s', m [.lst (ns.map D.int)] ⟨none, []⟩ = .ok (.bl true) s') : PySem.W.WalkO q loose XP YP l.row.toRowW d [] (fun f vs => PySem.call f vs) := by
  refine Att.attach_call hn hdf fun w s₀ s₁ mg mb fa o pm cd doc a vs ns G Y ho hd hcd hmg hobj hints hlen hg => ?_
  have kx := hY w _ Y
  obtain ⟨fd, xc, hb, hF⟩ := F w mg fa _ kx G.T.g hmg
  exact lawG kx G.T.g G.T.b G.T.builtins G.T.nolimit hg hobj hints (Nat.le_trans hlen hn2) hr (hK w) hF hb (hm ns hlen)
end PI

set_option maxHeartbeats 1000000
/-! PI, part y: the state of draws. -/
namespace PI
open PySem L2 PyProof.Rows
theorem CellAt.at {K : PySem.W.Frag} {H H' : Hp} {a : Addr} {c : Bool × OC} (x : Ext H H') (e : H' a = H a) (h : CellAt K H a c) : CellAt K H' a c := by
  obtain ⟨fz, oc⟩ := c
  cases oc with
  | lst xs =>
    cases fz with
    | false => obtain ⟨vs, h1, h2⟩ := h; exact ⟨vs, e.trans h1, h2.mono x⟩
    | true => obtain ⟨vs, o, h1, h2⟩ := h; exact ⟨vs, o, e.trans h1, h2.mono x⟩
  | dct _ _ => cases fz <;> exact h.elim
  | ins _ _ _ => cases fz <;> exact h.elim
theorem sto_m {K : PySem.W.Frag} {w w' : Wd} {s : SS} {m' : MS} {H H' : Hp} (t : Sto K w s H) (x : Ext H H') (hc : ∀ b ∈ w.ρ, H' b = H b) (hρ : w'.ρ = w.ρ) (hm : MAt K H' w'.m (some m')) (nd : w'.ws.Nodup) : Sto K w' { s with m := some m' } H' :=
  ⟨hm, by rw [hρ]; exact t.len, fun i a c h1 h2 => by
    rw [hρ] at h1
    exact (t.cs i a c h1 h2).at x (hc a (List.mem_of_getElem? h1)), nd⟩
/-- the state of draws in the heap -/
theorem mat_at {K : PySem.W.Frag} {w : Wd} {s : SS} {H : Hp} {v : V} (t : Sto K w s H) (r : RepT K w H v .drw) : ∃ a l m c, w.m = some (a, l) ∧ v = .ref a ∧ s.m = some m ∧
    H a = some (.dK [(.inr "cells", .ref c), (.inr "left", .ref l), (.inr "at", .int m.at_)]) ∧ FzL H c (m.cells.map V.int) ∧ H l = some (.lst (m.left.map V.int)) ∧ m.cells.length ≤ 63 ∧ m.left.length ≤ 63 := by
  obtain ⟨a, l, e, rfl⟩ := r
  have hm := t.m
  rw [e] at hm
  cases es : s.m with
  | none => rw [es] at hm; exact hm.elim
  | some m =>
    rw [es] at hm
    obtain ⟨c, h1, h2, h3, h4, h5⟩ := hm
    exact ⟨a, l, m, c, e, rfl, rfl, h1, h2, h3, h4, h5⟩
def onM {α : Type} (f : MS → Option α) (d : D) : M α := fun s => match d, s.m with
  | .drw, some m => match f m with
    | some a => .ok a s
    | none => .stuck
  | _, _ => .stuck
def mAtD (m : MS) : Option D := some (.int m.at_)
def mCellsD (m : MS) : Option D := some (.lst (m.cells.map .int))
def mHeadD (m : MS) : Option D := m.left.head?.map .int
def mSomeD (m : MS) : Option D := some (.bl (!m.left.isEmpty))
theorem plains_ints : ∀ ns : List Int, plains (ns.map D.int) = true ∧ deps (ns.map D.int) = 0
  | [] => ⟨rfl, rfl⟩
  | n :: ns => by
    obtain ⟨h1, h2⟩ := plains_ints ns
    simp only [List.map_cons, plains, plain, deps, dep, h1, h2]
    decide
theorem ne_nil_ints (ns : List Int) : neD (.lst (ns.map .int)) (.lst []) = some (.bl (!ns.isEmpty)) := by cases ns <;> rfl
section
variable {X : Cx} {xc : XC} {W : WX}
theorem onM_read {K : PySem.W.Frag} {σ : L2.St} {w : Wd} {s : SS} {H : Hp} {v : V} {d : D} {f : MS → Option D} {Q : VK} (t : Sto K w s H) (r : RepT K w H v d) (p : Post K xc W σ w H Q (onM f d s)) :
    ∃ a l m c e, v = .ref a ∧ H a = some (.dK [(.inr "cells", .ref c), (.inr "left", .ref l), (.inr "at", .int m.at_)]) ∧ FzL H c (m.cells.map V.int) ∧ H l = some (.lst (m.left.map V.int)) ∧ m.cells.length ≤ 63 ∧ m.left.length ≤ 63 ∧ f m = some e ∧ ∀ u H', Same H H' → Rep K H' u e → Q u H' := by
  unfold onM at p
  cases d with
  | drw =>
    obtain ⟨a, l, m, c, e1, e2, e3, h1, h2, h3, h4, h5⟩ := mat_at t r
    rw [e3] at p
    dsimp only at p
    cases ef : f m with
    | none => rw [ef] at p; exact p.elim
    | some e =>
      rw [ef] at p
      exact ⟨a, l, m, c, e, e2, h1, h2, h3, h4, h5, ef, fun u H' sm ru => p u H' w (sgo sm) (t.same sm) (.of ru)⟩
  | _ => exact p.elim
theorem pd_mAt {o : Expr} {pos p : Pos} {j : Nat} {m : Env' → M D} (hu : X.A.units + 65 < cLine) (ho : PE X o (tE X.K xc W m)) : PE X (.Subscript o (.Constant (.str "at") j p) pos) (tE X.K xc W fun env => m env >>= onM mAtD) :=
  pimp (pe_dget (by omega) ho pe_str (fun _ _ => rfl)) fun σ H Q ⟨w, env, s, rel, q⟩ => by
    refine (tE_of rel q).imp2 fun v H1 ⟨w1, d, s1, g, rel1, r, p1⟩ => ?_
    obtain ⟨a, l, m, c, e, e1, h1, h2, h3, h4, h5, ef, fin⟩ := onM_read rel1.st r p1
    cases ef
    exact ⟨a, _, e1, .inl ⟨_, .inr "at", .inl h1, rfl, rfl⟩, fin _ _ (Same.refl _) (.int _)⟩
theorem pd_mCells {o : Expr} {pos p : Pos} {j : Nat} {m : Env' → M D} (hu : X.A.units + 65 < cLine) (ho : PE X o (tE X.K xc W m)) : PE X (.Subscript o (.Constant (.str "cells") j p) pos) (tE X.K xc W fun env => m env >>= onM mCellsD) :=
  pimp (pe_dget (by omega) ho pe_str (fun _ _ => rfl)) fun σ H Q ⟨w, env, s, rel, q⟩ => by
    refine (tE_of rel q).imp2 fun v H1 ⟨w1, d, s1, g, rel1, r, p1⟩ => ?_
    obtain ⟨a, l, m, c, e, e1, h1, h2, h3, h4, h5, ef, fin⟩ := onM_read rel1.st r p1
    cases ef
    exact ⟨a, _, e1, .inl ⟨_, .inr "cells", .inl h1, rfl, rfl⟩, fin _ _ (Same.refl _) (.lst h2 (reps_ints _ _ _))⟩
theorem pd_mHead {o : Expr} {pos pos2 p p2 : Pos} {j j2 : Nat} {m : Env' → M D} (hu : X.A.units + 65 < cLine) (ho : PE X o (tE X.K xc W m)) : PE X (.Subscript (.Subscript o (.Constant (.str "left") j p) pos) (.Constant (.int 0) j2 p2) pos2) (tE X.K xc W fun env => m env >>= onM mHeadD) :=
  pimp (pe_ix ix_ok (pe_dget (by omega) ho pe_str (fun _ _ => rfl)) pe_int (fun _ _ => rfl)) fun σ H Q ⟨w, env, s, rel, q⟩ => by
    refine (tE_of rel q).imp2 fun v H1 ⟨w1, d, s1, g, rel1, r, p1⟩ => ?_
    obtain ⟨a, l, m, c, e, e1, h1, h2, h3, h4, h5, ef, fin⟩ := onM_read rel1.st r p1
    refine ⟨a, _, e1, .inl ⟨_, .inr "left", .inl h1, rfl, rfl⟩, .lst (m.left.map .int), .int 0, e, ⟨l, _, rfl, .inl h3, reps_ints _ _ _⟩, .int 0, ?_, fin⟩
    unfold mHeadD at ef
    cases hl : m.left with
    | nil => rw [hl] at ef; cases ef
    | cons x xs =>
      rw [hl] at ef
      cases ef
      show atI (List.map D.int (x :: xs)) ((0 : Nat) : Int) = some (.int x)
      exact atI_nat rfl
theorem pt_mSome {o : Expr} {pos pos2 p p2 : Pos} {j : Nat} {m : Env' → M D} (hu : X.A.units + 65 < cLine) (ho : PE X o (tE X.K xc W m)) : PT X (.Compare (.Subscript o (.Constant (.str "left") j p) pos) [.NotEq] [.List [] p2] pos2) (tTst X.K xc W fun env => m env >>= onM mSomeD) :=
  ptimp (pt_cmpR (ne_ok hu) (pe_dget (by omega) ho pe_str (fun _ _ => rfl)) (pfrz (pe_lst pa_nil)) rfl) fun σ H Q ⟨w, env, s, rel, q⟩ => by
    refine (tE_of rel q).imp2 fun v H1 ⟨w1, d, s1, g, rel1, r, p1⟩ => ?_
    obtain ⟨a, l, m, c, e, e1, h1, h2, h3, h4, h5, ef, fin⟩ := onM_read rel1.st r p1
    cases ef
    refine ⟨a, _, e1, .inl ⟨_, .inr "left", .inl h1, rfl, rfl⟩, Nat.zero_le _, fun p hp => fr_new (K := X.K) hp .nil fun u H2 sm ru => ?_⟩
    refine ⟨.lst (m.left.map .int), .lst [], .bl (!m.left.isEmpty), ⟨l, _, rfl, .inl (sm _ _ h3), reps_ints _ _ _⟩, ru.rd, ?_, fun u' H' sm' ru' => ?_⟩
    · exact ne_nil_ints _
    · exact fin u' H' (sm.trans sm') ru'
/-! ### stores -/
def mPutS (f : MS → D → Option MS) (x v : Env' → M D) : SM := fun env s => match v env s with
  | .ok d s' => match x env s' with
    | .ok .drw s'' => match s''.m with
      | some m => match f m d with
        | some m' => .nx env { s'' with m := some m' }
        | none => .stuck
      | none => .stuck
    | .ok _ _ => .stuck
    | .exc c f s'' => .exc c f env s''
    | .stuck => .stuck
  | .exc c f s' => .exc c f env s'
  | .stuck => .stuck
def putAt (m : MS) : D → Option MS
  | .int i => some { m with at_ := i }
  | _ => none
def putHead (m : MS) : D → Option MS
  | .int i => match m.left with
    | _ :: r => some { m with left := i :: r }
    | [] => none
  | _ => none
/-- m["left"] = m["left"][1:] -/
def mCutS (x : Env' → M D) : SM := fun env s => match x env s with
  | .ok .drw s'' => match s''.m with
    | some m => .nx env { s'' with m := some { m with left := m.left.drop 1 } }
    | none => .stuck
  | .ok _ _ => .stuck
  | .exc c f s'' => .exc c f env s''
  | .stuck => .stuck
theorem nd_m {w : Wd} {a l : Addr} (h : w.ws.Nodup) (e : w.m = some (a, l)) : a ≠ l ∧ a ∉ w.ρ ∧ l ∉ w.ρ := by
  unfold Wd.ws at h
  rw [e] at h
  obtain ⟨h1, h2, h3⟩ := List.nodup_append.mp h
  simp at h1
  exact ⟨h1, fun z => h3 a (by simp) a z rfl, fun z => h3 l (by simp) l z rfl⟩
theorem fz_dK {H H' : Hp} {a : Addr} {kvs : List (Key × V)} (h : H a = some (.dK kvs)) (e : ∀ b, b ≠ a → H' b = H b) : Ext H H' := ⟨fun b o eb f => by
  by_cases z : b = a
  · subst z; rw [h] at eb; cases eb; exact f.elim
  · rw [e b z]; exact eb⟩
theorem pds_mAt {o e : Expr} {pos pos' p : Pos} {j : Nat} {x v : Env' → M D} (hu : X.A.units + 65 < cLine) (ho : PE X o (tE X.K xc W x)) (he : PE X e (tE X.K xc W v)) (hs : swapsWith e (some (.Subscript o (.Constant (.str "at") j p) pos')) pos.line X.env = pure false) :
    PS X (.Assign [.Subscript o (.Constant (.str "at") j p) pos'] e pos) (tS X.K xc W (mPutS putAt x v)) :=
  psimp (ps_dput (by omega) ho pe_str he hs) fun E σ H ⟨w, env, s, rel, q⟩ => by
    unfold mPutS at q
    refine ⟨w, env, s, rel, ?_⟩
    cases z : v env s with
    | exc c f s' => rw [z] at q; exact exc_post rel q
    | stuck => rw [z] at q; exact q
    | ok d s' =>
      rw [z] at q
      dsimp only at q
      intro u H1 w1 g1 t1 r1
      have rel1 := rel.go g1 t1
      refine ⟨w1, env, s', rel1, ?_⟩
      cases z2 : x env s' with
      | exc c f s2 => rw [z2] at q; exact exc_post rel1 (PostS.mono (r := .exc c f env s2) g1 q)
      | stuck => rw [z2] at q; exact q
      | ok d2 s2 =>
        rw [z2] at q
        intro u2 H2 w2 g2 t2 r2
        cases d2 with
        | drw =>
          obtain ⟨a, l, m, c, em, e2, e3, h1, h2, h3, h4, h5⟩ := mat_at t2 r2
          dsimp only at q
          rw [e3] at q
          dsimp only at q
          unfold putAt at q
          split at q
          · rename_i m' hf
            split at hf
            · rename_i i
              cases hf
              have ei : u = .int i := by cases r1; rfl
              subst ei
              obtain ⟨n1, n2, n3⟩ := nd_m t2.nd em
              refine ⟨a, _, e2, .inl ⟨_, .inr "at", h1, rfl, by show 3 < sizeLine; decide, rfl⟩, ?_⟩
              have x2 : Ext H2 (upd H2 a (.dK [(.inr "cells", .ref c), (.inr "left", .ref l), (.inr "at", .int i)])) := fz_dK h1 fun b hb => upd_ne hb
              have g3 : Go w2 H2 w2 (upd H2 a (.dK [(.inr "cells", .ref c), (.inr "left", .ref l), (.inr "at", .int i)])) := ⟨fun b o eb f => by
                by_cases hb : b = a
                · subst hb
                  rcases f with f | f
                  · exact absurd (show b ∈ w2.ws by unfold Wd.ws; rw [em]; simp) f
                  · rw [h1] at eb; cases eb; exact f.elim
                · rw [upd_ne hb]; exact eb, fun _ h => .inl h, ⟨[], by simp⟩, fun _ => rfl⟩
              have t3 : Sto X.K w2 { s2 with m := some { m with at_ := i } } (upd H2 a (.dK [(.inr "cells", .ref c), (.inr "left", .ref l), (.inr "at", .int i)])) := by
                refine sto_m t2 x2 (fun b hb => upd_ne fun z => n2 (z ▸ hb)) rfl ?_ t2.nd
                rw [em]
                exact ⟨c, upd_same, h2.mono x2, by rw [upd_ne (Ne.symm n1)]; exact h3, h4, h5⟩
              exact q σ _ w2 ((g1.trans g2).trans g3) ((rel1.go g2 t2).go g3 t3)
            · cases hf
          · exact q.elim
        | _ => exact q.elim
theorem go_m {w : Wd} {H : Hp} {a l b : Addr} {o : HO} (em : w.m = some (a, l)) (hb : b = a ∨ b = l) (nf : ∀ u, H b = some u → ¬ Fz u) : Go w H w (upd H b o) := ⟨fun c u eb f => by
  by_cases hc : c = b
  · subst hc
    rcases f with f | f
    · refine absurd ?_ f
      unfold Wd.ws
      rw [em]
      rcases hb with z | z <;> rw [z] <;> simp
    · exact absurd f (nf u eb)
  · rw [upd_ne hc]; exact eb, fun _ h => .inl h, ⟨[], by simp⟩, fun _ => rfl⟩
theorem pds_mHead {o e : Expr} {pos pos' pos2 p p2 : Pos} {j j2 : Nat} {x v : Env' → M D} (hu : X.A.units + 65 < cLine) (ho : PE X o (tE X.K xc W x)) (he : PE X e (tE X.K xc W v))
    (hs : swapsWithSole [.Subscript (.Subscript o (.Constant (.str "left") j p) pos2) (.Constant (.int 0) j2 p2) pos'] e pos.line X.env = pure false) (hw : swappedStores [.Subscript (.Subscript o (.Constant (.str "left") j p) pos2) (.Constant (.int 0) j2 p2) pos'] e X.env = pure none)
    (h1 : (assignEach [.Subscript (.Subscript o (.Constant (.str "left") j p) pos2) (.Constant (.int 0) j2 p2) pos'] X.env).map (·.2) = [assign (.Subscript (.Subscript o (.Constant (.str "left") j p) pos2) (.Constant (.int 0) j2 p2) pos') X.env]) :
    PS X (.Assign [.Subscript (.Subscript o (.Constant (.str "left") j p) pos2) (.Constant (.int 0) j2 p2) pos'] e pos) (tS X.K xc W (mPutS putHead x v)) :=
  psimp (ps_asg he (pg_sub (pe_dget (by omega) ho pe_str (fun _ _ => rfl)) pe_int set_list (fun _ => rfl)) hs hw h1) fun E σ H ⟨w, env, s, rel, q⟩ => by
    unfold mPutS at q
    refine ⟨w, env, s, rel, ?_⟩
    cases z : v env s with
    | exc c f s' => rw [z] at q; exact exc_post rel q
    | stuck => rw [z] at q; exact q
    | ok d s' =>
      rw [z] at q
      dsimp only at q
      intro u H1 w1 g1 t1 r1
      have rel1 := rel.go g1 t1
      refine ⟨w1, env, s', rel1, ?_⟩
      cases z2 : x env s' with
      | exc c f s2 => rw [z2] at q; exact exc_post rel1 (PostS.mono (r := .exc c f env s2) g1 q)
      | stuck => rw [z2] at q; exact q
      | ok d2 s2 =>
        rw [z2] at q
        intro u2 H2 w2 g2 t2 r2
        cases d2 with
        | drw =>
          obtain ⟨a, l, m, c, em, e2, e3, h1, h2, h3, h4, h5⟩ := mat_at t2 r2
          dsimp only at q
          rw [e3] at q
          dsimp only at q
          unfold putHead at q
          split at q
          · rename_i m' hf
            split at hf
            · rename_i i
              split at hf
              · rename_i y r hl
                cases hf
                have ei : u = .int i := by cases r1; rfl
                subst ei
                obtain ⟨n1, n2, n3⟩ := nd_m t2.nd em
                refine ⟨a, _, e2, .inl ⟨_, .inr "left", .inl h1, rfl, rfl⟩, l, _, 0, 0, rfl, rfl, h3, ?_, ?_⟩
                · rw [hl]
                  show ixN (List.map V.int (y :: r)).length 0 = some 0
                  unfold ixN
                  simp
                have el : (m.left.map V.int).set 0 (.int i) = (i :: r).map V.int := by rw [hl]; rfl
                rw [el]
                have nf : ∀ u, H2 l = some u → ¬ Fz u := fun u z f => by rw [h3] at z; cases z; exact f
                have g3 : Go w2 H2 w2 (upd H2 l (.lst ((i :: r).map V.int))) := go_m em (.inr rfl) nf
                have x2 := g3.ext
                have t3 : Sto X.K w2 { s2 with m := some { m with left := i :: r } } (upd H2 l (.lst ((i :: r).map V.int))) := by
                  refine sto_m t2 x2 (fun b hb => upd_ne fun z => n3 (z ▸ hb)) rfl ?_ t2.nd
                  rw [em]
                  refine ⟨c, by rw [upd_ne n1]; exact h1, h2.mono x2, upd_same, h4, ?_⟩
                  rw [hl] at h5
                  simpa using h5
                exact q σ _ w2 ((g1.trans g2).trans g3) ((rel1.go g2 t2).go g3 t3)
              · cases hf
            · cases hf
          · exact q.elim
        | _ => exact q.elim
theorem pds_mCut {o o' : Expr} {pos pos' pos2 pos3 p p2 p3 p4 : Pos} {j j2 j3 : Nat} {i : Nat} (hu : X.A.units + 65 < cLine) (ho : PE X o (tVar i)) (ho' : PE X o' (tVar i))
    (hs : swapsWith (.Subscript (.Subscript o' (.Constant (.str "left") j2 p2) pos2) (.Slice (some (.Constant (.int 1) j3 p3)) none none p4) pos3) (some (.Subscript o (.Constant (.str "left") j p) pos')) pos.line X.env = pure false) :
    PS X (.Assign [.Subscript o (.Constant (.str "left") j p) pos'] (.Subscript (.Subscript o' (.Constant (.str "left") j2 p2) pos2) (.Slice (some (.Constant (.int 1) j3 p3)) none none p4) pos3) pos) (tS X.K xc W (mCutS fun env => rd env i)) :=
  psimp (ps_dput (by omega) ho pe_str (pe_slice sl_list (pe_dget (by omega) ho' pe_str (fun _ _ => rfl)) (po_some pe_int) po_none) hs) fun E σ H ⟨w, env, s, rel, q⟩ => by
    unfold mCutS at q
    dsimp only at q
    rcases rd_cases env i s with ⟨d, e1, e2⟩ | e
    case inr => rw [e] at q; exact q.elim
    rw [e2] at q
    obtain ⟨v, ev, rv⟩ := rel.sl i d e1
    cases d with
    | drw =>
      obtain ⟨a, l, m, c, em, e4, e3, h1, h2, h3, h4, h5⟩ := mat_at rel.st rv
      dsimp only at q
      rw [e3] at q
      dsimp only at q
      obtain ⟨n1, n2, n3⟩ := nd_m rel.st.nd em
      refine ⟨v, ev, a, _, e4, .inl ⟨_, .inr "left", .inl h1, rfl, rfl⟩, 1, rfl, l, _, rfl, .inl (.inl h3), fun pa hp => ?_⟩
      have pna : a ≠ pa := ne_of_none h1 hp
      have ha' : upd H pa (.lst (cutV (m.left.map V.int) (some 1) none)) a = some (.dK [(.inr "cells", .ref c), (.inr "left", .ref l), (.inr "at", .int m.at_)]) := by rw [upd_ne pna]; exact h1
      refine ⟨v, ev, a, _, e4, .inl ⟨_, .inr "left", ha', rfl, by show 3 < sizeLine; decide, rfl⟩, ?_⟩
      have ec : cutV (m.left.map V.int) (some 1) none = (m.left.drop 1).map V.int := by
        cases m.left with
        | nil => rfl
        | cons y r =>
          have s1 : HT.sIx (List.map V.int (y :: r)).length 0 (some 1) = 1 := by
            unfold HT.sIx
            simp
            try omega
          have s2 : HT.sIx (List.map V.int (y :: r)).length (List.map V.int (y :: r)).length none = r.length + 1 := by
            unfold HT.sIx
            simp
          unfold cutV
          rw [s1, s2]
          show List.take (r.length + 1 - 1) (List.map V.int r) = List.map V.int r
          exact List.take_of_length_le (by simp)
      rw [ec]
      have ep : putK [((.inr "cells" : Key), V.ref c), (.inr "left", .ref l), (.inr "at", .int m.at_)] (.inr "left") (.ref pa) = [(.inr "cells", .ref c), (.inr "left", .ref pa), (.inr "at", .int m.at_)] := rfl
      rw [ep]
      have lna : l ≠ pa := ne_of_none h3 hp
      let H1 := upd (upd H pa (.lst ((m.left.drop 1).map V.int))) a (.dK [(.inr "cells", .ref c), (.inr "left", .ref pa), (.inr "at", .int m.at_)])
      have off : ∀ b, b ≠ a → b ≠ pa → H1 b = H b := fun b z1 z2 => by show upd _ _ _ b = _; rw [upd_ne z1, upd_ne z2]
      have x2 : Ext H H1 := ⟨fun b o eb f => by
        by_cases z1 : b = a
        · subst z1; rw [h1] at eb; cases eb; exact f.elim
        · rw [off b z1 (ne_of_none eb hp)]; exact eb⟩
      have aw : a ∈ w.ws := by unfold Wd.ws; rw [em]; simp
      have pw : pa ∉ w.ρ := fun z => by
        obtain ⟨o, eo⟩ := ws_some rel.st (show pa ∈ w.ws from List.mem_append_right _ z)
        rw [hp] at eo
        cases eo
      have nd : (Wd.mk (some (a, pa)) w.ρ).ws.Nodup := by
        have := nd_ρ rel.st.nd
        show ([a, pa] ++ w.ρ).Nodup
        refine List.nodup_append.mpr ⟨by simp [pna], this, fun b hb b' hb' e => ?_⟩
        subst e
        rcases List.mem_cons.mp hb with z | z
        · exact n2 (z ▸ hb')
        · exact pw (List.mem_singleton.mp z ▸ hb')
      have g3 : Go w H ⟨some (a, pa), w.ρ⟩ H1 := by
        refine ⟨fun b o eb f => ?_, fun b hb => ?_, ⟨[], by simp⟩, fun _ => by rw [em]; rfl⟩
        · by_cases z1 : b = a
          · subst z1
            rcases f with f | f
            · exact absurd aw f
            · rw [h1] at eb; cases eb; exact f.elim
          · rw [off b z1 (ne_of_none eb hp)]; exact eb
        · have hb' : b ∈ [a, pa] ++ w.ρ := hb
          rcases List.mem_append.mp hb' with z | z
          · rcases List.mem_cons.mp z with z | z
            · exact .inl (z ▸ aw)
            · exact .inr (by rw [List.mem_singleton.mp z]; exact hp)
          · exact .inl (List.mem_append_right _ z)
      have t3 : Sto X.K ⟨some (a, pa), w.ρ⟩ { s with m := some { m with left := m.left.drop 1 } } H1 := by
        refine sto_m rel.st x2 (fun b hb => off b (fun z => n2 (z ▸ hb)) fun z => pw (z ▸ hb)) rfl ?_ nd
        refine ⟨c, upd_same, h2.mono x2, by show upd _ _ _ pa = _; rw [upd_ne (Ne.symm pna), upd_same], h4, ?_⟩
        show (m.left.drop 1).length ≤ 63
        rw [List.length_drop]
        omega
      exact q σ H1 _ g3 (rel.go g3 t3)
    | _ => exact q.elim
end
end PI

set_option maxHeartbeats 1000000
/-! PI, part z: the next draw, and the first state. -/
namespace PI
open PySem L2 PyProof.Rows
theorem FnAt.imp {P : Program} {w : World} {K : PySem.W.Frag} {mg : Str → Option Value} {base : Heap} {xc : XC} {k : Nat} {x : Str} {ps : List Str} {m m' : List D → M D} (F : FnAt P w K mg base xc k x ps m) (h : ∀ ds s, m' ds s = .stuck ∨ m' ds s = m ds s) : FnAt P w K mg base xc k x ps m' := by
  obtain ⟨f, fd, h1, h2, h3, h4⟩ := F.at_
  have sp : ∀ vs H Q E, spM xc K ps.length m' vs H Q E → spM xc K ps.length m vs H Q E := fun vs H Q E ⟨l, w, ds, s, t, r, p⟩ => by
    refine ⟨l, w, ds, s, t, r, ?_⟩
    rcases h ds s with e | e
    · rw [e] at p; exact p.elim
    · rw [← e]; exact p
  exact ⟨f, fd, h1, h2, h3, fun vs H Q E z => h4.len vs H Q E (sp vs H Q E z), fun A out s H args us vs Q E hr hg e0 bt r z => h4.run A out s H args us vs Q E hr hg e0 bt r (sp vs H Q E z)⟩
/-! ### the next number -/
def mixD (m : MS) (n : Int) : Int :=
  let t := m.at_ + 1
  let cell := if m.cells.isEmpty then 5 else m.cells.getD ((t * t + t / 2) % (m.cells.length : Int)).toNat 0
  let blend := (cell * 40692 + t * 65539 + 7001 * t * t) % 2147483399
  ((blend * 48271 + 1013 * t) % 2147483647 / 13) % n
def nextMS (m : MS) (n : Int) : Int × MS := match m.left.dropWhile (· == 0) with
  | x :: r => (x % n, { m with left := (x / n) :: r })
  | [] => (mixD m n, { m with left := [], at_ := m.at_ + 1 })
def GRD : Int := 2 ^ 40
/-- guarded: few draws, a small bound -/
def nextM : List D → M D
  | [.drw, .int n] => fun s => match s.m with
    | some m => if 0 < n && n < 1073741824 && 0 ≤ m.at_ && m.at_ < GRD && decide (m.left.length ≤ 63) then .ok (.int (nextMS m n).1) { s with m := some (nextMS m n).2 } else .stuck
    | none => .stuck
  | _ => M.stk
abbrev v0 : Env' → M D := fun env => rd env 0
abbrev nextTest : Env' → M D := fun env => andM (rd env 0 >>= onM mSomeD) ((rd env 0 >>= onM mHeadD) >>= fun x => M.ret (.int 0) >>= fun y => op2 eqD x y)
abbrev nextTail : List S := [
  .asg (.nm 5) (.ite (.cmp .ne (.v 4) (.lst [])) (.bi .int [.ix (.v 4) (.bin .mod (.bi .int [.bin .add (.bin .mul (.v 3) (.v 3)) (.bin .fdiv (.v 3) (.k (.int 2)))]) (.bi .len [.v 4]))]) (.k (.int 5))),
  .asg (.nm 6) (.bin .mod (.bi .int [.bin .add (.bin .add (.bin .mul (.v 5) (.k (.int 40692))) (.bin .mul (.v 3) (.k (.int 65539)))) (.bin .mul (.bin .mul (.k (.int 7001)) (.v 3)) (.v 3))]) (.k (.int 2147483399))),
  .ret (.bin .mod (.bi .int [.bin .fdiv (.bin .mod (.bi .int [.bin .add (.bin .mul (.v 6) (.k (.int 48271))) (.bin .mul (.k (.int 1013)) (.v 3))]) (.k (.int 2147483647))) (.k (.int 13))]) (.v 1))]
def nextS (Γ : Fns) : SM :=
  seqS (whileS 65 nextTest (seqS (mCutS v0) passS))
    (seqS (ifS (fun env => rd env 0 >>= onM mSomeD) (seqS (asgS (.nm 2) fun env => rd env 0 >>= onM mHeadD) (seqS (mPutS putHead v0 (evC Γ (.bin .fdiv (.v 2) (.v 1)))) (evSs Γ [.ret (.bin .mod (.bi .int [.v 2]) (.v 1))]))) passS)
      (seqS (parS [3, 4] fun env => consN ((rd env 0 >>= onM mAtD) >>= fun x => M.ret (.int 1) >>= fun y => op2 (binD .add) x y) (consN (rd env 0 >>= onM mCellsD) (M.ret [])))
        (seqS (mPutS putAt v0 (evC Γ (.v 3))) (evSs Γ nextTail))))
theorem bnd_ok {α β : Type} {x : M α} {f : α → M β} {s s' : SS} {a : α} (h : x s = .ok a s') : (x >>= f) s = f a s' := by
  rw [M_bind]
  unfold M.bnd
  rw [h]
theorem rd_ok {env : Env'} {i : Nat} {d : D} {s : SS} (h : env[i]? = some (some d)) : rd env i s = .ok d s := by
  unfold rd
  rw [h]
  rfl
theorem onM_ok {α : Type} {f : MS → Option α} {m : MS} {a : α} {s : SS} (e : s.m = some m) (h : f m = some a) : onM f .drw s = .ok a s := by
  unfold onM
  rw [e]
  dsimp only
  rw [h]
/-- the while: zeros go -/
theorem while_zeros {env : Env'} (h0 : env[0]? = some (some .drw)) : ∀ (fuel : Nat) (m : MS) (s : SS), s.m = some m → m.left.length < fuel →
    whileL nextTest (seqS (mCutS v0) passS) fuel env s = .nx env { s with m := some { m with left := m.left.dropWhile (· == 0) } }
  | 0, _, _, _, h => absurd h (Nat.not_lt_zero _)
  | fuel + 1, m, s, em, hl => by
    obtain ⟨cells, left, at_⟩ := m
    cases left with
    | nil =>
      have t1 : nextTest env s = .ok (.bl false) s := by
        show andM _ _ s = _
        unfold andM
        rw [bnd_ok (s' := s) (a := .bl false) (by rw [bnd_ok (rd_ok h0)]; exact onM_ok em rfl)]
        rfl
      unfold whileL
      rw [t1]
      dsimp only
      rw [show s = { s with m := some ⟨cells, [], at_⟩ } from by obtain ⟨m1, c1⟩ := s; cases em; rfl]
      rfl
    | cons x r =>
      have t1 : nextTest env s = .ok (.bl (x == 0)) s := by
        show andM _ _ s = _
        unfold andM
        rw [bnd_ok (s' := s) (a := .bl true) (by rw [bnd_ok (rd_ok h0)]; exact onM_ok em rfl)]
        dsimp only
        rw [bnd_ok (s' := s) (a := .int x) (by rw [bnd_ok (rd_ok h0)]; exact onM_ok em rfl)]
        rfl
      unfold whileL
      rw [t1]
      by_cases hx : x = 0
      · subst hx
        dsimp only
        have t2 : seqS (mCutS v0) passS env s = .nx env { s with m := some ⟨cells, r, at_⟩ } := by
          unfold seqS mCutS
          rw [show v0 env s = .ok .drw s from rd_ok h0]
          dsimp only
          rw [em]
          rfl
        have := while_zeros h0 fuel ⟨cells, r, at_⟩ { s with m := some ⟨cells, r, at_⟩ } rfl (by simpa using hl)
        show (match seqS (mCutS v0) passS env s with | .nx e s => _ | .cont e s => _ | .brk e s => _ | r => r) = _
        rw [t2]
        dsimp only
        rw [this]
        simp
      · have hb : (x == 0) = false := beq_eq_false_iff_ne.mpr hx
        rw [hb]
        dsimp only
        rw [show s = { s with m := some ⟨cells, x :: r, at_⟩ } from by obtain ⟨m1, c1⟩ := s; cases em; rfl]
        simp [hb]
theorem seqS_nx {a b : SM} {env env' : Env'} {s s' : SS} (h : a env s = .nx env' s') : seqS a b env s = b env' s' := by
  unfold seqS
  rw [h]
theorem seqS_rt {a b : SM} {env : Env'} {d : D} {s s' : SS} (h : a env s = .rt d s') : seqS a b env s = .rt d s' := by
  unfold seqS
  rw [h]
theorem ifS_t {c : Env' → M D} {a b : SM} {env : Env'} {s s' : SS} (h : c env s = .ok (.bl true) s') : ifS c a b env s = a env s' := by
  unfold ifS
  rw [h]
theorem ifS_f {c : Env' → M D} {a b : SM} {env : Env'} {s s' : SS} (h : c env s = .ok (.bl false) s') : ifS c a b env s = b env s' := by
  unfold ifS
  rw [h]
theorem next_left {Γ : Fns} {n x : Int} {r cells : List Int} {at_ : Int} {cs : List (Bool × OC)} (h1 : 0 < n) (h2 : n < 1073741824) :
    ifS (fun env => rd env 0 >>= onM mSomeD) (seqS (asgS (.nm 2) fun env => rd env 0 >>= onM mHeadD) (seqS (mPutS putHead v0 (evC Γ (.bin .fdiv (.v 2) (.v 1)))) (evSs Γ [.ret (.bin .mod (.bi .int [.v 2]) (.v 1))]))) passS
      (startE 7 [.drw, .int n]) ⟨some ⟨cells, x :: r, at_⟩, cs⟩ = .rt (.int (x % n)) ⟨some ⟨cells, (x / n) :: r, at_⟩, cs⟩ := by
  have f1 : binD .fdiv (.int x) (.int n) = some (.int (x / n)) := by
    show (if (decide (0 < n) && decide (n < 1073741824)) = true then _ else _) = _
    rw [decide_eq_true h1, decide_eq_true h2]
    rfl
  have f2 : binD .mod (.int x) (.int n) = some (.int (x % n)) := by
    show (if 0 < n then _ else _) = _
    rw [if_pos h1]
  let env1 : Env' := [some .drw, some (.int n), some (.int x), none, none, none, none]
  have e1 : asgS (.nm 2) (fun env => rd env 0 >>= onM mHeadD) (startE 7 [.drw, .int n]) ⟨some ⟨cells, x :: r, at_⟩, cs⟩ = .nx env1 ⟨some ⟨cells, x :: r, at_⟩, cs⟩ := rfl
  have e2 : mPutS putHead v0 (evC Γ (.bin .fdiv (.v 2) (.v 1))) env1 ⟨some ⟨cells, x :: r, at_⟩, cs⟩ = .nx env1 ⟨some ⟨cells, (x / n) :: r, at_⟩, cs⟩ := by
    have v : evC Γ (.bin .fdiv (.v 2) (.v 1)) env1 ⟨some ⟨cells, x :: r, at_⟩, cs⟩ = .ok (.int (x / n)) ⟨some ⟨cells, x :: r, at_⟩, cs⟩ := by
      show op2 (binD .fdiv) (.int x) (.int n) _ = _
      unfold op2
      show (match binD .fdiv (.int x) (.int n) with | some d => _ | none => _) = _
      rw [f1]
    unfold mPutS
    rw [v]
    rfl
  have e3 : evSs Γ [.ret (.bin .mod (.bi .int [.v 2]) (.v 1))] env1 ⟨some ⟨cells, (x / n) :: r, at_⟩, cs⟩ = .rt (.int (x % n)) ⟨some ⟨cells, (x / n) :: r, at_⟩, cs⟩ := by
    have v : evC Γ (.bin .mod (.bi .int [.v 2]) (.v 1)) env1 ⟨some ⟨cells, (x / n) :: r, at_⟩, cs⟩ = .ok (.int (x % n)) ⟨some ⟨cells, (x / n) :: r, at_⟩, cs⟩ := by
      show op2 (binD .mod) (.int x) (.int n) _ = _
      unfold op2
      show (match binD .mod (.int x) (.int n) with | some d => _ | none => _) = _
      rw [f2]
    refine seqS_rt ?_
    show retS _ _ _ = _
    unfold retS
    rw [v]
    rfl
  have e0 : (rd (startE 7 [.drw, .int n]) 0 >>= onM mSomeD) ⟨some ⟨cells, x :: r, at_⟩, cs⟩ = .ok (.bl true) ⟨some ⟨cells, x :: r, at_⟩, cs⟩ := rfl
  rw [ifS_t e0, seqS_nx e1, seqS_nx e2, e3]
theorem op2_ok {f : D → D → Option D} {x y d : D} {s : SS} (h : f (vw s x) (vw s y) = some d) : op2 f x y s = .ok d s := by
  unfold op2
  rw [h]
theorem mul_small {i j : Int} (h : small i = true ∨ small j = true) : binD .mul (.int i) (.int j) = some (.int (i * j)) := by
  show (if (small i || small j) = true then _ else _) = _
  rw [if_pos (by simpa using h)]
theorem fdiv_pos {i j : Int} (h1 : 0 < j) (h2 : j < 1073741824) : binD .fdiv (.int i) (.int j) = some (.int (i / j)) := by
  show (if (decide (0 < j) && decide (j < 1073741824)) = true then _ else _) = _
  rw [decide_eq_true h1, decide_eq_true h2]
  rfl
theorem mod_pos {i j : Int} (h1 : 0 < j) : binD .mod (.int i) (.int j) = some (.int (i % j)) := by
  show (if 0 < j then _ else _) = _
  rw [if_pos h1]
/-- an arithmetic step -/
theorem bin_ok' {Γ : Fns} {o : BOp} {a b : C} {env : Env'} {s : SS} {i j k : Int} (ha : evC Γ a env s = .ok (.int i) s) (hb : evC Γ b env s = .ok (.int j) s) (h : binD o (.int i) (.int j) = some (.int k)) : evC Γ (.bin o a b) env s = .ok (.int k) s := by
  show (evC Γ a env >>= fun x => evC Γ b env >>= fun y => op2 (binD o) x y) s = _
  rw [bnd_ok ha, bnd_ok hb, op2_ok h]
theorem int_ok' {Γ : Fns} {a : C} {env : Env'} {s : SS} {i : Int} (ha : evC Γ a env s = .ok (.int i) s) : evC Γ (.bi .int [a]) env s = .ok (.int i) s := by
  show biM intD (consN (evC Γ a env) (M.ret [])) s = _
  unfold biM consN
  rw [bnd_ok (s' := s) (a := [.int i]) (by rw [bnd_ok ha]; rfl)]
  rfl
theorem small_of {i : Int} (h1 : -(2 ^ 64) < i) (h2 : i < 2 ^ 64) : small i = true := by
  unfold small
  rw [decide_eq_true h1, decide_eq_true h2]
  rfl
theorem next_mix {Γ : Fns} {n t : Int} {cells : List Int} {cs : List (Bool × OC)} {m : MS} (h1 : 0 < n) (ht : 0 ≤ t) (ht2 : t ≤ GRD) :
    evSs Γ nextTail [some .drw, some (.int n), none, some (.int t), some (.lst (cells.map .int)), none, none] ⟨some m, cs⟩ =
      .rt (.int ((((((if cells.isEmpty then 5 else cells.getD ((t * t + t / 2) % (cells.length : Int)).toNat 0) * 40692 + t * 65539 + 7001 * t * t) % 2147483399) * 48271 + 1013 * t) % 2147483647 / 13) % n)) ⟨some m, cs⟩ := by
  have g : GRD = 1099511627776 := by decide
  rw [g] at ht2
  generalize hs : (⟨some m, cs⟩ : SS) = s
  generalize hcell : (if cells.isEmpty then 5 else cells.getD ((t * t + t / 2) % (cells.length : Int)).toNat 0) = cell
  let env1 : Env' := [some .drw, some (.int n), none, some (.int t), some (.lst (cells.map .int)), none, none]
  let env2 : Env' := [some .drw, some (.int n), none, some (.int t), some (.lst (cells.map .int)), some (.int cell), none]
  have sm : ∀ {i : Int}, -(2 ^ 64) < i → i < 2 ^ 64 → small i = true := fun a b => small_of a b
  have st : small t = true := sm (by omega) (by omega)
  have c1 : evC Γ (.ite (.cmp .ne (.v 4) (.lst [])) (.bi .int [.ix (.v 4) (.bin .mod (.bi .int [.bin .add (.bin .mul (.v 3) (.v 3)) (.bin .fdiv (.v 3) (.k (.int 2)))]) (.bi .len [.v 4]))]) (.k (.int 5))) env1 s = .ok (.int cell) s := by
    have q : evC Γ (.cmp .ne (.v 4) (.lst [])) env1 s = .ok (.bl (!cells.isEmpty)) s := by
      show op2 neD (.lst (cells.map .int)) (.lst []) s = _
      exact op2_ok (ne_nil_ints cells)
    show iteM _ _ _ s = _
    unfold iteM
    rw [bnd_ok q]
    cases hcs : cells with
    | nil =>
      rw [hcs] at hcell
      cases hcell
      rfl
    | cons c0 cr =>
      rw [← hcs]
      have hne : cells.isEmpty = false := by rw [hcs]; rfl
      rw [hne] at hcell ⊢
      change evC Γ (.bi .int [_]) env1 s = _
      have hlen : (0 : Int) < (cells.length : Int) := by rw [hcs]; simp
      have l : evC Γ (.bi .len [.v 4]) env1 s = .ok (.int (cells.length : Int)) s := by
        show R.ok (D.int (((cells.map D.int).length : Nat) : Int)) s = _
        rw [List.length_map]
      have k1 := bin_ok' (Γ := Γ) (env := env1) (s := s) (a := .bin .mul (.v 3) (.v 3)) (b := .bin .fdiv (.v 3) (.k (.int 2))) (o := .add) (bin_ok' (i := t) (j := t) (o := .mul) rfl rfl (mul_small (.inl st))) (bin_ok' (i := t) (j := 2) (o := .fdiv) rfl rfl (fdiv_pos (by decide) (by decide))) rfl
      have k2 := bin_ok' (o := .mod) (int_ok' k1) l (mod_pos hlen)
      refine int_ok' ?_
      show (evC Γ (.v 4) env1 >>= fun x => evC Γ _ env1 >>= fun y => op2 ixD x y) s = _
      have q4 : evC Γ (.v 4) env1 s = .ok (.lst (cells.map .int)) s := rfl
      rw [bnd_ok q4, bnd_ok k2]
      refine op2_ok ?_
      have hlo := Int.emod_nonneg (t * t + t / 2) (Int.ne_of_gt hlen)
      have hhi := Int.emod_lt_of_pos (t * t + t / 2) hlen
      have hidx : ((t * t + t / 2) % (cells.length : Int)).toNat < cells.length := by omega
      show atI (cells.map D.int) ((t * t + t / 2) % (cells.length : Int)) = some (.int cell)
      have ek : (t * t + t / 2) % (cells.length : Int) = ((((t * t + t / 2) % (cells.length : Int)).toNat : Nat) : Int) := by omega
      rw [ek]
      refine atI_nat ?_
      rw [List.getElem?_map, List.getElem?_eq_getElem hidx]
      rw [← hcell]
      simp [List.getD, List.getElem?_eq_getElem hidx]
  have e1 : asgS (.nm 5) (evC Γ (.ite (.cmp .ne (.v 4) (.lst [])) (.bi .int [.ix (.v 4) (.bin .mod (.bi .int [.bin .add (.bin .mul (.v 3) (.v 3)) (.bin .fdiv (.v 3) (.k (.int 2)))]) (.bi .len [.v 4]))]) (.k (.int 5)))) env1 s = .nx env2 s := by
    unfold asgS
    rw [c1]
    rfl
  have k3 := bin_ok' (Γ := Γ) (env := env2) (s := s) (o := .add) (bin_ok' (o := .add) (a := .bin .mul (.v 5) (.k (.int 40692))) (b := .bin .mul (.v 3) (.k (.int 65539))) (bin_ok' (i := cell) (j := 40692) (o := .mul) rfl rfl (mul_small (.inr (by decide)))) (bin_ok' (i := t) (j := 65539) (o := .mul) rfl rfl (mul_small (.inl st))) rfl)
    (bin_ok' (o := .mul) (a := .bin .mul (.k (.int 7001)) (.v 3)) (b := .v 3) (bin_ok' (i := 7001) (j := t) (o := .mul) rfl rfl (mul_small (.inr st))) rfl (mul_small (.inr st))) rfl
  have k4 := bin_ok' (o := .mod) (b := .k (.int 2147483399)) (int_ok' k3) rfl (mod_pos (by decide))
  generalize hbl : (cell * 40692 + t * 65539 + 7001 * t * t) % 2147483399 = blend at k4
  have b1 : 0 ≤ blend := by rw [← hbl]; exact Int.emod_nonneg _ (by decide)
  have b2 : blend < 2147483399 := by rw [← hbl]; exact Int.emod_lt_of_pos _ (by decide)
  let env3 : Env' := [some .drw, some (.int n), none, some (.int t), some (.lst (cells.map .int)), some (.int cell), some (.int blend)]
  have e2 : asgS (.nm 6) (evC Γ (.bin .mod (.bi .int [.bin .add (.bin .add (.bin .mul (.v 5) (.k (.int 40692))) (.bin .mul (.v 3) (.k (.int 65539)))) (.bin .mul (.bin .mul (.k (.int 7001)) (.v 3)) (.v 3))]) (.k (.int 2147483399)))) env2 s = .nx env3 s := by
    unfold asgS
    rw [k4]
    rfl
  have k5 := bin_ok' (Γ := Γ) (env := env3) (s := s) (o := .add) (a := .bin .mul (.v 6) (.k (.int 48271))) (b := .bin .mul (.k (.int 1013)) (.v 3)) (bin_ok' (i := blend) (j := 48271) (o := .mul) rfl rfl (mul_small (.inr (by decide)))) (bin_ok' (i := 1013) (j := t) (o := .mul) rfl rfl (mul_small (.inr st))) rfl
  have k6 := bin_ok' (o := .mod) (b := .k (.int 2147483647)) (int_ok' k5) rfl (mod_pos (by decide))
  have k7 := bin_ok' (o := .fdiv) (b := .k (.int 13)) k6 rfl (fdiv_pos (by decide) (by decide))
  have k8 := bin_ok' (o := .mod) (b := .v 1) (int_ok' k7) rfl (mod_pos h1)
  refine (seqS_nx e1).trans ((seqS_nx e2).trans ?_)
  refine seqS_rt ?_
  show retS _ _ _ = _
  unfold retS
  rw [k8]
  rfl
theorem next_eq (Γ : Fns) (ds : List D) (s : SS) : nextM ds s = .stuck ∨ nextM ds s = fnM 7 (nextS Γ) ds s := by
  unfold nextM
  split
  case h_2 => exact .inl rfl
  rename_i n
  split
  case h_2 => exact .inl rfl
  rename_i m em
  split
  case isFalse => exact .inl rfl
  rename_i hc
  right
  simp only [Bool.and_eq_true, decide_eq_true_eq] at hc
  obtain ⟨⟨⟨⟨h1, h2⟩, h3⟩, h4⟩, h5⟩ := hc
  obtain ⟨sm, scs⟩ := s
  cases em
  obtain ⟨cells, left, at_⟩ := m
  have w1 : whileS 65 nextTest (seqS (mCutS v0) passS) (startE 7 [.drw, .int n]) ⟨some ⟨cells, left, at_⟩, scs⟩ = .nx (startE 7 [.drw, .int n]) ⟨some ⟨cells, left.dropWhile (· == 0), at_⟩, scs⟩ :=
    while_zeros rfl 65 ⟨cells, left, at_⟩ ⟨some ⟨cells, left, at_⟩, scs⟩ rfl (by show left.length < 65; have : left.length ≤ 63 := h5; omega)
  unfold fnM nextS nextMS
  rw [seqS_nx w1]
  dsimp only at h3 h4 ⊢
  cases hl : left.dropWhile (· == 0) with
  | cons x r =>
    rw [seqS_rt (next_left h1 h2)]
    show _ = (if pureB (.int (x % n)) then _ else _)
    rw [if_pos (show pureB (.int (x % n)) = true from rfl)]
    unfold cutS
    rw [List.take_length]
  | nil =>
    have e0 : (fun env => rd env 0 >>= onM mSomeD) (startE 7 [.drw, .int n]) ⟨some ⟨cells, [], at_⟩, scs⟩ = .ok (.bl false) ⟨some ⟨cells, [], at_⟩, scs⟩ := rfl
    have i0 : ∀ a : SM, ifS (fun env => rd env 0 >>= onM mSomeD) a passS (startE 7 [.drw, .int n]) ⟨some ⟨cells, [], at_⟩, scs⟩ = .nx (startE 7 [.drw, .int n]) ⟨some ⟨cells, [], at_⟩, scs⟩ := fun a => by rw [ifS_f e0]; rfl
    rw [seqS_nx (i0 _)]
    let env1 : Env' := [some .drw, some (.int n), none, some (.int (at_ + 1)), some (.lst (cells.map .int)), none, none]
    have p1 : parS [3, 4] (fun env => consN ((rd env 0 >>= onM mAtD) >>= fun x => M.ret (.int 1) >>= fun y => op2 (binD .add) x y) (consN (rd env 0 >>= onM mCellsD) (M.ret []))) (startE 7 [.drw, .int n]) ⟨some ⟨cells, [], at_⟩, scs⟩ = .nx env1 ⟨some ⟨cells, [], at_⟩, scs⟩ := rfl
    rw [seqS_nx p1]
    have p2 : mPutS putAt v0 (evC Γ (.v 3)) env1 ⟨some ⟨cells, [], at_⟩, scs⟩ = .nx env1 ⟨some ⟨cells, [], at_ + 1⟩, scs⟩ := rfl
    rw [seqS_nx p2]
    have q := next_mix (Γ := Γ) (n := n) (t := at_ + 1) (cells := cells) (cs := scs) (m := ⟨cells, [], at_ + 1⟩) h1 (by omega) (by omega)
    rw [show evSs Γ nextTail env1 ⟨some ⟨cells, [], at_ + 1⟩, scs⟩ = _ from q]
    dsimp only
    rw [if_pos (show pureB (.int _) = true from rfl)]
    unfold cutS mixD
    rw [List.take_length]
end PI

set_option maxHeartbeats 1000000
/-! PI, part v: the first state of the draws. -/
namespace PI
open PySem L2 PyProof.Rows
def intsOf : List D → Option (List Int)
  | [] => some []
  | .int n :: r => (intsOf r).map (n :: ·)
  | _ => none
theorem intsOf_map : ∀ ns : List Int, intsOf (ns.map D.int) = some ns
  | [] => rfl
  | n :: ns => by
    show (intsOf (ns.map D.int)).map (n :: ·) = _
    rw [intsOf_map ns]
    rfl
theorem reps_intsOf {K : PySem.W.Frag} {H : Hp} : ∀ {ds : List D} {vs : List V} {ns : List Int}, Reps K H vs ds → intsOf ds = some ns → vs = ns.map V.int
  | [], _, _, .nil, e => by cases e; rfl
  | d :: ds, _, ns, .cons h r, e => by
    cases d with
    | int n =>
      have e' : (intsOf ds).map (n :: ·) = some ns := e
      cases z : intsOf ds with
      | none => rw [z] at e'; cases e'
      | some ms =>
        rw [z] at e'
        cases e'
        cases h
        rw [reps_intsOf r z]
        rfl
    | _ => cases e
def begD (x y : D) : M D := fun s => match x, y, s.m, s.cs with
  | .lst xs, .lst ys, none, [] => match intsOf xs, intsOf ys with
    | some ns, some ms => if decide (ns.length ≤ 63) && decide (ms.length ≤ 63) then .ok .drw { s with m := some ⟨ns, ms, 0⟩ } else .stuck
    | _, _ => .stuck
  | _, _, _, _ => .stuck
def begE (m1 m2 : Env' → M D) (env : Env') : M D := m1 env >>= fun x => m2 env >>= fun y => begD x y
section
variable {X : Cx} {xc : XC} {W : WX}
/-- a list that is frozen later -/
def tU (K : PySem.W.Frag) (xc : XC) (W : WX) (m : Env' → M D) : TE := fun σ H Q => ∃ Q2, tE K xc W m σ H Q2 ∧ ∀ v H', FrQ Q2 v H' → Q v H'
theorem pd_lcU {elt tg iter : Expr} {ifs : List Expr} {scope : Scope} {own : List (Str × Nat)} {pos : Pos} {t : T} {mi : Env' → M (List D)} {tst el : Env' → M D} (hc : X.calm = true) (hN : X.N.Nodup) (hi : PI X tg iter (tI X.K xc W mi)) (ok : BlkOk X.N X.env.scope scope own)
    (hg : ∀ (s : Shared) (H : Hp) (C : Addr) (cl : List (Str × Addr)) (fp : List Addr), PG (X.blk s H scope (compEnvC scope cl C X.env) fp) tg (tG X.K t))
    (ht : ∀ (s : Shared) (H : Hp) (C : Addr) (cl : List (Str × Addr)) (fp : List Addr), PTs (X.blk s H scope (compEnvC scope cl C X.env) fp) ifs (tTst X.K xc (fun _ _ _ _ => False) tst))
    (he : ∀ (s : Shared) (H : Hp) (C : Addr) (cl : List (Str × Addr)) (fp : List Addr), PE (X.blk s H scope (compEnvC scope cl C X.env) fp) elt (tE X.K xc (fun _ _ _ _ => False) el))
    (hs : ∀ x, foldedSetIterable iter X.env x = pure x) (hsub : ∀ j ∈ slotsT t, j ∈ own.map (·.2)) :
    PE X (.ListComp elt [⟨tg, iter, ifs, 0⟩] scope pos) (tU X.K xc W fun env => lcM (own.map (·.2)) t (mi env) tst el env) := by
  refine ⟨fun pins s σ H Q I ⟨Q2, q, hq⟩ => thn ((pe_lc (te := tE X.K xc (fun _ _ _ _ => False) fun env => el env >>= frz) hc hN hi ok hg ht (fun s H C cl fp => pd_frz (he s H C cl fp)) hs).run pins s σ H (FrQ Q2) I ?_) fun u s1 ⟨v, H1, I1, r1, z⟩ => ⟨v, H1, I1, r1, hq v H1 z⟩⟩
  obtain ⟨w, env, s, rel, p⟩ := q
  refine ⟨w, env, s, rel, ?_⟩
  have p' : Post X.K xc W σ w H Q2 (M.bnd (mi env) _ s) := p
  unfold M.bnd at p'
  cases q : mi env s with
  | ok ds s1 =>
    rw [q] at p'
    intro J H1 w1 g t1 jo l hl
    exact lc_post (W := W) jo hsub (rel.go g t1) hl (p'.mono g)
  | exc c f s' => rw [q] at p'; exact p'
  | stuck => rw [q] at p'; exact p'
theorem ws_nil {K : PySem.W.Frag} {w : Wd} {s : SS} {H : Hp} (t : Sto K w s H) (hm : s.m = none) (hc : s.cs = []) : w.m = none ∧ w.ρ = [] := by
  have h1 := t.m
  have h2 := t.len
  rw [hm] at h1
  rw [hc] at h2
  refine ⟨?_, List.length_eq_zero_iff.mp h2⟩
  cases z : w.m with
  | none => rfl
  | some p => rw [z] at h1; exact h1.elim
theorem go_nil {w w' : Wd} {H H' : Hp} (g : Go w H w' H') (h : w'.m = none ∧ w'.ρ = []) : w.m = none ∧ w.ρ = [] := by
  obtain ⟨e, he⟩ := g.pre
  rw [h.2] at he
  refine ⟨?_, (List.append_eq_nil_iff.mp he.symm).1⟩
  cases z : w.m with
  | none => rfl
  | some p =>
    have := g.ms (by rw [z]; rfl)
    rw [h.1, z] at this
    cases this
theorem ws_of_nil {w : Wd} (h : w.m = none ∧ w.ρ = []) : w.ws = [] := by
  unfold Wd.ws
  rw [h.1, h.2]
  rfl
theorem pd_begun {e1 e2 : Expr} {m1 m2 : Env' → M D} {j1 j2 j3 j4 : Nat} {p1 p2 p3 p4 pos : Pos} (h1 : PE X e1 (tE X.K xc W m1)) (h2 : PE X e2 (tU X.K xc W m2)) :
    PE X (.Dict [some (.Constant (.str "cells") j1 p1), some (.Constant (.str "left") j2 p2), some (.Constant (.str "at") j3 p3)] [e1, e2, .Constant (.int 0) j4 p4] pos) (tE X.K xc W (begE m1 m2)) :=
  pimp (pe_disp (pps_cons pe_str h1 (pps_cons pe_str h2 (pps_cons pe_str pe_int pps_nil))) rfl rfl (by simp) (by show 3 ≤ 15; decide)) fun σ H Q ⟨w, env, s, rel, q⟩ => by
    intro p hp
    show tE X.K xc W m1 σ (upd H p (.dK [])) _
    have sm : Same H (upd H p (.dK [])) := snew hp
    have g0 : Go w H w (upd H p (.dK [])) := sgo sm
    have rel0 := rel.go g0 (rel.st.same sm)
    refine ⟨w, env, s, rel0, ?_⟩
    have q' : Post X.K xc W σ w H Q (M.bnd (m1 env) (fun x => M.bnd (m2 env) fun y => begD x y) s) := q
    unfold M.bnd at q'
    cases z1 : m1 env s with
    | exc c f s' => rw [z1] at q'; exact fun x v H' w' g => q' x v H' w' (g0.trans g)
    | stuck => rw [z1] at q'; exact q'
    | ok d1 s1 =>
      rw [z1] at q'
      dsimp only at q'
      intro v1 H1 w1 g1 t1 r1
      have rel1 := rel0.go g1 t1
      show tU X.K xc W m2 σ H1 _
      cases z2 : m2 env s1 with
      | exc c f s' =>
        rw [z2] at q'
        refine ⟨fun _ _ => False, ⟨w1, env, s1, rel1, ?_⟩, fun v H' ⟨a, xs, _, _, f⟩ => (f default).elim⟩
        rw [z2]
        exact fun x v H' w' g => q' x v H' w' ((g0.trans g1).trans g)
      | stuck => rw [z2] at q'; exact q'.elim
      | ok d2 s2 =>
        rw [z2] at q'
        dsimp only at q'
        refine ⟨fun v Hf => ∃ w2, Go w1 H1 w2 Hf ∧ Sto X.K w2 s2 Hf ∧ RepT X.K w2 Hf v d2, ⟨w1, env, s1, rel1, ?_⟩, fun v H2 fr => ?_⟩
        · rw [z2]
          exact fun v H' w' g t r => ⟨w', g, t, r⟩
        obtain ⟨l, ls, rfl, el, fo⟩ := fr
        unfold begD at q'
        split at q'
        case h_2 => exact q'.elim
        rename_i xs ys e3 e4
        split at q'
        case h_2 => exact q'.elim
        rename_i ns ms i1 i2
        split at q'
        case isFalse => exact q'.elim
        rename_i hlen
        simp only [Bool.and_eq_true, decide_eq_true_eq] at hlen
        obtain ⟨w2, g2, t2, r2⟩ := fo { cls := .type "list" }
        have n2 := ws_nil t2 e3 e4
        have n1 := go_nil g2 n2
        have n0 := go_nil g1 n1
        have fl : H1 l = none := by
          cases z : H1 l with
          | none => rfl
          | some u =>
            obtain ⟨w3, g3, _, _⟩ := fo { cls := .type "dict" }
            have a1 := g2.kp l u z (.inl (by rw [ws_of_nil n1]; simp))
            have a2 := g3.kp l u z (.inl (by rw [ws_of_nil n1]; simp))
            rw [upd_same] at a1 a2
            rw [← a1] at a2
            injection a2 with a3
            injection a3 with a4
            injection a4 with a5
            injection a5 with a6
            exact absurd a6 (by decide)
        have off : ∀ b, b ≠ l → upd H2 l (.frz { cls := .type "list" } (.lst ls)) b = H2 b := fun b hb => upd_ne hb
        have up1 : ∀ b u, H1 b = some u → H2 b = some u := fun b u z => by
          have := g2.kp b u z (.inl (by rw [ws_of_nil n1]; simp))
          rw [off b (ne_of_none z fl)] at this
          exact this
        have ep1 : H1 p = some (.dK []) := g1.kp p _ upd_same (.inl (by rw [ws_of_nil n0]; simp))
        have ep2 : H2 p = some (.dK []) := up1 p _ ep1
        have up0 : ∀ b u, H b = some u → H2 b = some u := fun b u z => up1 b u (g1.kp b u (sm b u z) (.inl (by rw [ws_of_nil n0]; simp)))
        have pl : p ≠ l := ne_of_none ep1 fl
        cases r1 with
        | lst f1 rs1 =>
        cases r2 with
        | lst f2 rs2 =>
        rename_i c cvs lvs
        have ec := reps_intsOf rs1 i1
        have eb := reps_intsOf rs2 i2
        subst ec eb
        obtain ⟨oc, f1⟩ := f1
        obtain ⟨ol, f2⟩ := f2
        rw [upd_same] at f2
        have els : ls = ms.map V.int := by cases f2; rfl
        subst els
        show H2 p = some (.dK []) ∧ _
        refine ⟨ep2, [(.inr "cells", .ref c), (.inr "left", .ref l), (.inr "at", .int 0)], rfl, by show 3 ≤ 15; decide, ?_⟩
        have em : mergeK [] [((.inr "cells" : Key), V.ref c), (.inr "left", .ref l), (.inr "at", .int 0)] = [(.inr "cells", .ref c), (.inr "left", .ref l), (.inr "at", .int 0)] := rfl
        rw [em]
        have cp : c ≠ p := fun z => by
          rw [z, ep1] at f1
          cases f1
        have ml : l ≠ p := Ne.symm pl
        have hlH : H l = none := by
          cases z : H l with
          | none => rfl
          | some u => rw [g1.kp l u (sm l u z) (.inl (by rw [ws_of_nil n0]; simp))] at fl; cases fl
        have g3 : Go w H ⟨some (p, l), w.ρ⟩ (upd H2 p (.dK [(.inr "cells", .ref c), (.inr "left", .ref l), (.inr "at", .int 0)])) := by
          refine ⟨fun b u z _ => ?_, fun b hb => ?_, ⟨[], by simp⟩, fun z => ?_⟩
          · rw [upd_ne (ne_of_none z hp)]
            exact up0 b u z
          · have hb' : b ∈ [p, l] ++ w.ρ := hb
            rw [n0.2] at hb'
            simp at hb'
            rcases hb' with z | z
            · exact .inr (z ▸ hp)
            · exact .inr (z ▸ hlH)
          · rw [n0.1] at z; cases z
        refine q' _ _ ⟨some (p, l), w.ρ⟩ g3 ⟨?_, ?_, ?_, ?_⟩ ?_
        · exact ⟨c, upd_same, ⟨oc, by rw [upd_ne cp]; exact up1 c _ f1⟩, by rw [upd_ne ml]; exact el, hlen.1, hlen.2⟩
        · show w.ρ.length = s2.cs.length
          rw [n0.2, e4]
          rfl
        · intro i a c h1
          have h1' : w.ρ[i]? = some a := h1
          rw [n0.2] at h1'
          simp at h1'
        · show ([p, l] ++ w.ρ).Nodup
          rw [n0.2]
          simp [pl]
        · exact ⟨p, l, rfl, rfl⟩
/-- a def that is one return, its value as it is -/
theorem fnAt_ret {P : Program} {w : World} {K : PySem.W.Frag} {mg : Str → Option Value} {base : Heap} {k : Nat} {x : Str} {st : Stmt} {f : Addr} {fd : FuncData} {N ps : List Str} {m : Env' → M D} (F : Fun K x x st f fd) (hm : mg x = some (.ref f)) (S : FnScope N ps (defScope st))
    (hb : ∀ (kV doc pm : Value) (an : Option Addr) (cdv ct : Value) (us : List Value), us.length = ps.length → bindArgs (PySem.W.fnOf x x (defArgs st) (defBody st) (defScope st) .none kV doc pm an cdv ct) ⟨us, []⟩ = pure (ps.zip us))
    (body : ∀ (cdv : Value) (A : Around) (out : List Env) (s : Shared) (H : Hp) (E : XK), Room k (A.deeper (envOfC x (defScope st) s.heap.objs.size f cdv)) → A.guards = some [] →
      PSs (cxOf (L2.CX P w) P w K mg base N x (defScope st) f cdv A out s H E) (defBody st) (tRet (tE K xc (wE E) m))) :
    FnAt P w K mg base xc (k + 1) x ps (fun ds => m (startE N.length ds)) := by
  refine ⟨f, fd, hm, F.kp, F.binds hb, ?_⟩
  obtain ⟨oc, od, kV, doc, pm, an, cdv, ct, osl, rfl, lk, hcd⟩ := F.ex
  refine fnG_of lk hcd S (fun vs H Q E z => z.1) fun A out s H vs Q E hr hgd z => ?_
  obtain ⟨_, w0, ds, s0, t0, r0, p0⟩ := z
  refine ⟨_, body cdv A out s H E hr hgd, ?_⟩
  refine ⟨w0, startE N.length ds, s0, rel_start t0 r0, ?_⟩
  show Post K xc (wE E) (L2.start N vs) w0 H Q (m (startE N.length ds) s0)
  have p0 : Post K xc (wE E) [] w0 H Q (m (startE N.length ds) s0) := p0
  cases e : m (startE N.length ds) s0 with
  | ok d s' => rw [e] at p0; exact p0
  | exc c f s' => rw [e] at p0; exact p0
  | stuck => rw [e] at p0; exact p0
end
/-- the first state -/
def begunM : List D → M D
  | [.lst xs] => fun s => match intsOf xs, s.m, s.cs with
    | some ns, none, [] => if ns.length ≤ 63 then .ok .drw ⟨some ⟨ns, ns.filter (fun n => decide (1000000000000000000 ≤ n)), 0⟩, []⟩ else .stuck
    | _, _, _ => .stuck
  | _ => M.stk
abbrev begL (Γ : Fns) : Env' → M D := evC Γ (.bi .list [.v 0])
abbrev begR (Γ : Fns) : Env' → M D := evC Γ (.lc [1] (.nm 1) (.v 0) (.cmp .ge (.v 1) (.bin .pow (.k (.int 10)) (.k (.int 18)))) (.v 1))
theorem intsOf_eq : ∀ {xs : List D} {ns : List Int}, intsOf xs = some ns → xs = ns.map D.int
  | [], _, e => by cases e; rfl
  | d :: r, ns, e => by
    cases d with
    | int n =>
      have e' : (intsOf r).map (n :: ·) = some ns := e
      cases z : intsOf r with
      | none => rw [z] at e'; cases e'
      | some ms =>
        rw [z] at e'
        cases e'
        rw [intsOf_eq z]
        rfl
    | _ => cases e
theorem beg_comp {Γ : Fns} {xs : List D} {s : SS} : ∀ ns : List Int, compM (turnM (.nm 1) (evC Γ (.cmp .ge (.v 1) (.bin .pow (.k (.int 10)) (.k (.int 18))))) (evC Γ (.v 1)) [some (.lst xs), none]) (ns.map D.int) s = .ok ((ns.filter fun n => decide (1000000000000000000 ≤ n)).map D.int) s
  | [] => rfl
  | n :: ns => by
    have ih := beg_comp (Γ := Γ) (xs := xs) (s := s) ns
    have t : evC Γ (.cmp .ge (.v 1) (.bin .pow (.k (.int 10)) (.k (.int 18)))) [some (.lst xs), some (.int n)] s = .ok (.bl (decide (1000000000000000000 ≤ n))) s := rfl
    have u : turnM (.nm 1) (evC Γ (.cmp .ge (.v 1) (.bin .pow (.k (.int 10)) (.k (.int 18))))) (evC Γ (.v 1)) [some (.lst xs), none] (.int n) s = .ok (if decide (1000000000000000000 ≤ n) = true then some (.int n) else none) s := by
      show iteM (evC Γ (.cmp .ge (.v 1) (.bin .pow (.k (.int 10)) (.k (.int 18)))) [some (.lst xs), some (.int n)]) _ _ s = _
      unfold iteM
      rw [bnd_ok t]
      cases decide (1000000000000000000 ≤ n) <;> rfl
    show (turnM _ _ _ _ _ >>= fun o => compM _ (ns.map D.int) >>= fun r => M.ret (match o with | some y => y :: r | none => r)) s = _
    rw [bnd_ok u, bnd_ok ih, List.filter_cons]
    cases decide (1000000000000000000 ≤ n) <;> rfl
theorem beg_eq (Γ : Fns) (ds : List D) (s : SS) : begunM ds s = .stuck ∨ begunM ds s = begE (begL Γ) (begR Γ) (startE 2 ds) s := by
  unfold begunM
  split
  case h_2 => exact .inl rfl
  rename_i xs
  split
  case h_2 => exact .inl rfl
  rename_i ns e1 e2 e3
  split
  case isFalse => exact .inl rfl
  rename_i hl
  right
  have ex := intsOf_eq e1
  subst ex
  obtain ⟨sm, sc⟩ := s
  cases e2
  cases e3
  have f1 : begL Γ (startE 2 [.lst (ns.map D.int)]) ⟨none, []⟩ = .ok (.lst (ns.map D.int)) ⟨none, []⟩ := rfl
  have f2 : begR Γ (startE 2 [.lst (ns.map D.int)]) ⟨none, []⟩ = .ok (.lst ((ns.filter fun n => decide (1000000000000000000 ≤ n)).map D.int)) ⟨none, []⟩ := by
    show lcM [1] (.nm 1) (evI Γ (.v 0) _) _ _ _ _ = _
    unfold lcM
    have it : evI Γ (.v 0) (startE 2 [.lst (ns.map D.int)]) ⟨none, []⟩ = .ok (ns.map D.int) ⟨none, []⟩ := rfl
    rw [bnd_ok it]
    have c : M.calm (compM (turnM (.nm 1) (evC Γ (.cmp .ge (.v 1) (.bin .pow (.k (.int 10)) (.k (.int 18))))) (evC Γ (.v 1)) [some (.lst (ns.map D.int)), none]) (ns.map D.int)) ⟨none, []⟩ = .ok ((ns.filter fun n => decide (1000000000000000000 ≤ n)).map D.int) ⟨none, []⟩ := by
      unfold M.calm
      rw [beg_comp]
    refine (bnd_ok (f := fun r : List D => if r.length ≤ LIM then M.ret (D.lst r) else M.stk) c).trans ?_
    rw [if_pos]
    · rfl
    · rw [List.length_map]
      exact Nat.le_trans (List.length_filter_le _ _) (Nat.le_trans hl (by decide))
  unfold begE
  rw [bnd_ok f1, bnd_ok f2]
  unfold begD
  dsimp only
  rw [intsOf_map, intsOf_map]
  dsimp only
  rw [decide_eq_true hl, decide_eq_true (Nat.le_trans (List.length_filter_le _ _) hl)]
  rfl
end PI

set_option maxHeartbeats 1000000
/-! PI, part u: what the top has left, gathered. -/
namespace PI
open PySem L2 PyProof.Rows
def fldX : Nat → Str
  | 0 => "value"
  | 1 => "value"
  | 2 => "value"
  | 3 => "place"
  | 4 => "place"
  | 5 => "value"
  | 6 => "value"
  | 7 => "value"
  | 8 => "number"
  | 9 => "value"
  | 10 => "place"
  | 11 => "line"
  | 12 => "tree"
  | _ => "most"
structure DefAt (K : PySem.W.Frag) (mg : Str → Option Value) (x : Str) (st : Stmt) : Prop where
  ex : ∃ f fd, Fun K x x st f fd ∧ mg x = some (.ref f)
theorem def_mk {K : PySem.W.Frag} {h : Heap} {mg : Str → Option Value} {x : Str} {st : Stmt} {f : Addr} {oc : Value} {od an : Option Addr} {osl : Array (Option Value)} {kV doc pm cdv ct : Value} (X : K.In h) (G : h.Ns mainGlobals mg)
    (a : PySem.W.nsIn K mainGlobals x = some (some (.ref f))) (l : K.lookup f = some ⟨oc, od, .func (PySem.W.fnOf x x (defArgs st) (defBody st) (defScope st) .none kV doc pm an cdv ct), osl⟩) (c : PySem.W.codeIn K cdv x = true) (k : PySem.W.keepIn K (.ref f) = true) : DefAt K mg x st :=
  ⟨f, _, fun_mk l c k, PySem.W.mg_of X G a⟩
theorem gv_mk {K : PySem.W.Frag} {h : Heap} {mg : Str → Option Value} {x : Str} {v : V} {u : Value} (X : K.In h) (G : h.Ns mainGlobals mg) (a : PySem.W.nsIn K mainGlobals x = some (some u)) (r : RelV v u) : GV mg x v := ⟨u, PySem.W.mg_of X G a, r⟩
/-- an error of the class at S is, or is not, what «except S'» names -/
theorem exm_mk {K : PySem.W.Frag} {S' S : Addr} {b : Bool} (h1 : PySem.W.subIn K (.ref S) (.type "BaseException") = some true) (h2 : PySem.W.isClsIn K S = true) (h3 : PySem.W.typeIn K (.ref S) = some (.type "type")) (h4 : PySem.W.subIn K (.ref S') (.ref S) = some b) :
    PySem.W.exmOne K (.ref S') (.ref S) = some b := by
  have e1 : (PySem.W.subIn K (.ref S) (.type "BaseException") == some true) = true := by rw [h1] <;> rfl
  have e2 : ((PySem.W.clsIn K S).isSome && PySem.W.typeIn K (.ref S) == some (.type "type")) = true := by
    have h2' : (PySem.W.clsIn K S).isSome = true := h2
    rw [h2', h3] <;> rfl
  show (if (PySem.W.subIn K (.ref S) (.type "BaseException") == some true) = true then (if ((PySem.W.clsIn K S).isSome && PySem.W.typeIn K (.ref S) == some (.type "type")) = true then PySem.W.subIn K (.ref S') (.ref S) else none) else none) = some b
  rw [if_pos e1, if_pos e2]
  exact h4
abbrev initB (msg f pn : Str) (j : Nat) (p0 p1 p2 p3 p4 p5 p6 p7 p8 p9 : Pos) : List Stmt :=
  [.Expr (.Call (.Attribute (.Call (.Name "super" p0) [] [] p1) "__init__" p2) [.Constant (.str msg) j p3] [] p4) p5,
   .Assign [.Attribute (.Name "self" p6) f p7] (.Name pn p8) p9]
/-- the facts about an own exception's class that lies at C -/
structure ExcTxt (P : Program) (K : PySem.W.Frag) (mg : Str → Option Value) (x f : Str) (C : Addr) : Prop where
  sup : SupC P K C f
  at_ : mg x = some (.ref C)
  xf : XfC K C
  isc : PySem.W.isClsIn K C = true
theorem exc_mk {P : Program} {K : PySem.W.Frag} {h : Heap} {mg : Str → Option Value} {x f : Str} {C : Addr} (X : K.In h) (G : h.Ns mainGlobals mg)
    {nm q : Str} {N : Addr} {bs bm : List Value} {sn : List Str} {sub : List Value} {ab : Bool} {col : Option Bool} {dd : Option Addr} {m0 m1 m2 m3 m5 : Option Value}
    {fI cc cda : Addr} {qual msg pn file : Str} {params : Arguments} {j : Nat} {p0 p1 p2 p3 p4 p5 p6 p7 p8 p9 : Pos} {scope : Scope} {kV doc pm ct oc ccl cl : Value} {an od cdd cld : Option Addr} {osl ccs csl : Array (Option Value)} {vs : Array Value} {tf : Tok} {ar : Arg}
    (aC : PySem.W.nsIn K mainGlobals x = some (some (.ref C)))
    (xL : K.lookup C = some (excClassObj nm q C N bs bm true sn sub ab col dd m0 m1 m2 m3 m5 "ValueError.__new__"))
    (a1 : PySem.W.findIn K (.ref C) "__init__" = some (some (.ref fI)))
    (l1 : K.lookup fI = some ⟨oc, od, .func (PySem.W.ksFn "__init__" qual params (initB msg f pn j p0 p1 p2 p3 p4 p5 p6 p7 p8 p9) scope .none kV doc pm an (.ref cda) ct cc), osl⟩)
    (l2 : K.lookup cda = some ⟨ccl, cdd, .fields vs, ccs⟩)
    (l3 : K.lookup cc = some ⟨cl, cld, .cell (some (.ref C)), csl⟩)
    (t1 : PySem.W.typeIn K (.ref fI) = some (.type "function")) (c1 : PySem.W.codeIn K (.ref cda) qual = true)
    (sa : PySem.W.findIn K (.ref C) "__setattr__" = some (some (.builtin "object.__setattr__"))) (ga : PySem.W.findIn K (.ref C) "__getattribute__" = some (some (.builtin "BaseException.__getattribute__"))) (gg : PySem.W.findIn K (.ref C) "__getattr__" = some none) (nb : PySem.W.findIn K (.ref C) f = some none)
    (kC : PySem.W.keepIn K (.ref C) = true) (eC : PySem.W.subIn K (.ref C) (.type "BaseException") = some true) (tC : PySem.W.typeIn K (.ref C) = some (.type "type")) (hC : PySem.W.hasDictIn K C = true) (iC : PySem.W.isClsIn K C = true)
    (ve : PySem.W.subIn K (.ref C) (.type "ValueError") = some true) (mr : PySem.W.mroIn K C (.ref C) = some true) (oq : PySem.W.nsIn K cStatics "thirdparty.any" = some none)
    (su : PySem.W.ks_superIn K C C "__init__" = some (some (.builtin "ValueError.__init__")))
    (rv : PySem.HandSPX.refsVE bm = true) (e6 : vs[2]? = some (.str file tf)) (e7 : ((P.main.file : Str) == file) = true) (tp : (P.main.scope.names.lookup ("super" : Str)).isSome = false)
    (e9 : (params.posonlyargs ++ params.args).head? = some ar) (e10 : ar.arg = ("self" : Str))
    (e11 : ∀ a u : Value, bindArgs (PySem.W.ksFn "__init__" qual params (initB msg f pn j p0 p1 p2 p3 p4 p5 p6 p7 p8 p9) scope .none kV doc pm an (.ref cda) ct cc) ⟨[a, u], []⟩ = pure [(("self" : Str), a), (pn, u)])
    (e12 : scope.names.lookup ("super" : Str) = some .globalImplicit) (e13 : scope.names.lookup ("__class__" : Str) = some .free) (e14 : scope.names.lookup ("self" : Str) = some .local) (e15 : scope.names.lookup pn = some .local)
    (e16 : (scope.names.all fun x => decide (x.2 ≠ .cell)) = true) (e17 : scope.kind = .function) (e18 : scope.isCoroutine = false) (e19 : scope.isGenerator = false) (e20 : (pn == ("self" : Str)) = false) (e21 : (pn == ("__debug__" : Str)) = false) (e22 : (p2.endLine == p4.line) = true) : ExcTxt P K mg x f C :=
  { sup := { T := ⟨⟨nm, q, N, bs, bm, sn, sub, ab, col, dd, m0, m1, m2, m3, m5, xL, rv⟩, sa, eC, tC, kC⟩,
             ini := ⟨fI, cc, cda, qual, params, msg, pn, j, fun i => match i with | 0 => p0 | 1 => p1 | 2 => p2 | 3 => p3 | 4 => p4 | 5 => p5 | 6 => p6 | 7 => p7 | 8 => p8 | _ => p9, scope, kV, doc, pm, ct, oc, an, od, osl, vs, file, tf, ccl, cl, cdd, cld, ccs, csl, ar,
               a1, t1, l1, c1, l2, e6, e7, l3, e9, e10, e11, e12, e13, e14, e15, (fun x hx => of_decide_eq_true (List.all_eq_true.mp e16 x hx)), e17, e18, e19, beq_eq_false_iff_ne.mp e20, e21, e22⟩,
             sup := su, ve := ve, opq := oq, sub := mr, fld := nb, top := tp },
    at_ := PySem.W.mg_of X G aC, xf := ⟨ga, gg, eC, hC⟩, isc := iC }
/-- nothing is promised -/
theorem fnAt_stk {P : Program} {w : World} {K : PySem.W.Frag} {mg : Str → Option Value} {base : Heap} {xc : XC} {k : Nat} {x : Str} {st : Stmt} {ps : List Str} (Fx : DefAt K mg x st)
    (hb : ∀ (kV doc pm : Value) (an : Option Addr) (cdv ct : Value) (us : List Value), us.length = ps.length → bindArgs (PySem.W.fnOf x x (defArgs st) (defBody st) (defScope st) .none kV doc pm an cdv ct) ⟨us, []⟩ = pure (ps.zip us)) :
    FnAt P w K mg base xc k x ps (fun _ => M.stk) := by
  obtain ⟨f, fd, F, hm⟩ := Fx.ex
  exact ⟨f, fd, hm, F.kp, F.binds hb, fun vs H Q E z => z.1, fun A out s H args us vs Q E _ _ _ _ _ z => by
    obtain ⟨_, _, _, _, _, _, p⟩ := z
    exact p.elim⟩
/-- a def by its body, one level up -/
theorem fnAt_body {P : Program} {w : World} {K : PySem.W.Frag} {mg : Str → Option Value} {base : Heap} {xc : XC} {k : Nat} {x : Str} {st : Stmt} {N ps : List Str} {b : SM} (Fx : DefAt K mg x st) (S : FnScope N ps (defScope st))
    (hb : ∀ (kV doc pm : Value) (an : Option Addr) (cdv ct : Value) (us : List Value), us.length = ps.length → bindArgs (PySem.W.fnOf x x (defArgs st) (defBody st) (defScope st) .none kV doc pm an cdv ct) ⟨us, []⟩ = pure (ps.zip us))
    (body : ∀ (f : Addr) (cdv : Value) (A : Around) (out : List Env) (s : Shared) (H : Hp) (E : XK), Okx (cxOf (L2.CX P w) P w K mg base N x (defScope st) f cdv A out s H E) k →
      Takes (cxOf (L2.CX P w) P w K mg base N x (defScope st) f cdv A out s H E) (wE E) → PassesOwn (model P w) (cxOf (L2.CX P w) P w K mg base N x (defScope st) f cdv A out s H E).A (cxOf (L2.CX P w) P w K mg base N x (defScope st) f cdv A out s H E).env (cxOf (L2.CX P w) P w K mg base N x (defScope st) f cdv A out s H E).xe →
      PSs (cxOf (L2.CX P w) P w K mg base N x (defScope st) f cdv A out s H E) (defBody st) (tS K xc (wE E) b)) :
    FnAt P w K mg base xc (k + 2) x ps (fnM N.length b) := by
  obtain ⟨f, fd, F, hm⟩ := Fx.ex
  exact fnAt_of F hm S hb fun cdv A out s H E hr hg tk hp => body f cdv A out s H E ⟨hr, hg, rfl, S.nd⟩ tk hp
theorem fnAt_ret' {P : Program} {w : World} {K : PySem.W.Frag} {mg : Str → Option Value} {base : Heap} {xc : XC} {k : Nat} {x : Str} {st : Stmt} {N ps : List Str} {m : Env' → M D} (Fx : DefAt K mg x st) (S : FnScope N ps (defScope st))
    (hb : ∀ (kV doc pm : Value) (an : Option Addr) (cdv ct : Value) (us : List Value), us.length = ps.length → bindArgs (PySem.W.fnOf x x (defArgs st) (defBody st) (defScope st) .none kV doc pm an cdv ct) ⟨us, []⟩ = pure (ps.zip us))
    (body : ∀ (f : Addr) (cdv : Value) (A : Around) (out : List Env) (s : Shared) (H : Hp) (E : XK), Okx (cxOf (L2.CX P w) P w K mg base N x (defScope st) f cdv A out s H E) k →
      PSs (cxOf (L2.CX P w) P w K mg base N x (defScope st) f cdv A out s H E) (defBody st) (tRet (tE K xc (wE E) m))) :
    FnAt P w K mg base xc (k + 2) x ps (fun ds => m (startE N.length ds)) := by
  obtain ⟨f, fd, F, hm⟩ := Fx.ex
  exact fnAt_ret F hm S hb fun cdv A out s H E hr hg => body f cdv A out s H E ⟨hr, hg, rfl, S.nd⟩
/-- what the law's own promise wants -/
theorem law_mk {P : Program} {w : World} {K : PySem.W.Frag} {mg : Str → Option Value} {fa : Addr} {k : Nat} {x p : Str} {xc : XC} {m : List D → M D} (hmg : mg x = some (.ref fa))
    (hfd : ∃ fd : FuncData, Binds K fd [p] [] ∧ ∀ base : Heap, FnG P w K mg base (L2.CX P w) k fa fd [p] (spM xc K 1 m)) :
    ∃ (fd : FuncData) (xc : XC), (∀ (s : Shared) (u : Value), K.In s.heap → BindsTo s fd ⟨[u], []⟩ [(p, u)]) ∧ ∀ base : Heap, K.In base → base.Ns mainGlobals mg → FnG P w K mg base (L2.CX P w) k fa fd [p] (spM xc K 1 m) := by
  obtain ⟨fd, hb, F⟩ := hfd
  refine ⟨fd, xc, fun s u hk => ?_, fun base _ _ => F base⟩
  have := hb s [u] hk rfl
  exact this
/-- the promise, the def's record in view -/
theorem fnG_body {P : Program} {w : World} {K : PySem.W.Frag} {mg : Str → Option Value} {xc : XC} {k : Nat} {x : Str} {st : Stmt} {N ps : List Str} {b : SM} {fa : Addr} (hmg : mg x = some (.ref fa)) (Fx : DefAt K mg x st) (S : FnScope N ps (defScope st))
    (hb : ∀ (kV doc pm : Value) (an : Option Addr) (cdv ct : Value) (us : List Value), us.length = ps.length → bindArgs (PySem.W.fnOf x x (defArgs st) (defBody st) (defScope st) .none kV doc pm an cdv ct) ⟨us, []⟩ = pure (ps.zip us))
    (body : ∀ (base : Heap) (f : Addr) (cdv : Value) (A : Around) (out : List Env) (s : Shared) (H : Hp) (E : XK), Okx (cxOf (L2.CX P w) P w K mg base N x (defScope st) f cdv A out s H E) k →
      Takes (cxOf (L2.CX P w) P w K mg base N x (defScope st) f cdv A out s H E) (wE E) → PassesOwn (model P w) (cxOf (L2.CX P w) P w K mg base N x (defScope st) f cdv A out s H E).A (cxOf (L2.CX P w) P w K mg base N x (defScope st) f cdv A out s H E).env (cxOf (L2.CX P w) P w K mg base N x (defScope st) f cdv A out s H E).xe →
      PSs (cxOf (L2.CX P w) P w K mg base N x (defScope st) f cdv A out s H E) (defBody st) (tS K xc (wE E) b)) :
    ∃ fd : FuncData, Binds K fd ps [] ∧ ∀ base : Heap, FnG P w K mg base (L2.CX P w) (k + 2) fa fd ps (spM xc K ps.length (fnM N.length b)) := by
  obtain ⟨f, fd, F, hm⟩ := Fx.ex
  rw [hmg] at hm
  cases hm
  refine ⟨fd, F.binds hb, fun base => ?_⟩
  obtain ⟨oc, od, kV, doc, pm, an, cdv, ct, osl, rfl, lk, hcd⟩ := F.ex
  refine fnG_of lk hcd S (fun vs H Q E z => z.1) fun A out s H vs Q E hr hgd z => ?_
  obtain ⟨_, w0, ds, s0, t0, r0, p0⟩ := z
  refine ⟨_, body base fa cdv A out s H E ⟨hr, hgd, rfl, S.nd⟩ (takes_of rfl rfl rfl rfl) (passes_of rfl), ?_⟩
  exact ⟨w0, startE N.length ds, s0, rel_start t0 r0, fn_post t0 p0⟩
end PI

set_option maxHeartbeats 1000000
/-! PI, part p: sizes; what has a text. -/
namespace PI
open PySem L2 PyProof.Rows
mutual
def fit (B : Nat) : D → Bool
  | .non => true
  | .bl _ => true
  | .int i => decide (i.natAbs < B)
  | .str x => x.cps.all (· < 0x110000)
  | .tup xs => fits B xs
  | .lst xs => fits B xs
  | .dct [] [] => true
  | _ => false
def fits (B : Nat) : List D → Bool
  | [] => true
  | x :: xs => fit B x && fits B xs
end
mutual
/-- a bound of a thing's text -/
def wt : D → Nat
  | .str x => 10 * x.length + 2
  | .tup xs => wts xs + 4
  | .lst xs => wts xs + 4
  | .int _ => 50
  | _ => 6
def wts : List D → Nat
  | [] => 0
  | x :: xs => wt x + 2 + wts xs
end
mutual
def dp : D → Nat
  | .tup xs => dps xs + 1
  | .lst xs => dps xs + 1
  | .dct _ _ => 1
  | _ => 0
def dps : List D → Nat
  | [] => 0
  | x :: xs => max (dp x) (dps xs)
end
theorem textFrom_le : ∀ (ts : List Str) (k : Nat) (acc : Str), (textFrom k acc ts).length ≤ acc.length + piled ts
  | [], k, acc => by show acc.length ≤ acc.length + 0; omega
  | t :: r, k, acc => by
    have ih := textFrom_le r (k + 1) (acc ++ (if k > 0 then ", " else "" : String) ++ t)
    have e : (acc ++ (if k > 0 then ", " else "" : String) ++ t).length ≤ acc.length + 2 + t.length := by
      rw [strLen_append, strLen_append]
      split
      · show acc.length + 2 + t.length ≤ _; omega
      · show acc.length + 0 + t.length ≤ _; omega
    rw [piled_cons]
    show (textFrom (k + 1) _ r).length ≤ _
    omega
theorem listText_le (ts : List Str) : (listText ts).length ≤ piled ts + 2 := by
  have := textFrom_le ts 0 "["
  unfold listText
  rw [strLen_append]
  have e1 : ((("[" : String) : Str)).length = 1 := rfl
  have e2 : ((("]" : String) : Str)).length = 1 := rfl
  omega
theorem tupleText_le (ts : List Str) : (tupleText ts).length ≤ piled ts + 4 := by
  unfold tupleText
  rw [strLen_append, strLen_append]
  have e1 : ((("(" : String) : Str)).length = 1 := rfl
  have e3 : (((if ts.length == 1 then ",)" else ")" : String) : Str)).length ≤ 2 := by split <;> decide
  cases ts with
  | nil => simp only [Str.join]; show 1 + 0 + _ ≤ _; omega
  | cons t r => have := join_length_add (t :: r) (by simp); omega
mutual
theorem shown_le {B : Nat} (hB : B ≤ 10 ^ 40) : ∀ d : D, fit B d = true → (toPyR d).shown.length ≤ wt d
  | .non, _ => by decide
  | .bl b, _ => by cases b <;> decide
  | .int i, h => by
    have h' : i.natAbs < 10 ^ 40 := Nat.lt_of_lt_of_le (of_decide_eq_true h) hB
    show (Str.ofString (toString i)).length ≤ 50
    have q := int_text_length_le10 (a := i) (k := 40) (by decide) h'
    have e : (Str.ofString (toString i)).length = (toString i).length := by rw [PySem.ofString_length]
    omega
  | .str x, h => by
    have h' : x.cps.all (· < 0x110000) = true := h
    refine PySem.StrLaws.reprText_len x fun c hc => ?_
    have := Array.all_eq_true_iff_forall_mem.mp h' c (Array.mem_toList_iff.mp hc)
    have h2 : c < 0x110000 := of_decide_eq_true this
    have : (0x110000 : Nat) < 16 ^ 8 := by decide
    omega
  | .tup xs, h => by
    have := shownAll_le hB xs h
    have q := tupleText_le (PyData.shownAll (toPyRs xs))
    show (tupleText (PyData.shownAll (toPyRs xs))).length ≤ wts xs + 4
    omega
  | .lst xs, h => by
    have := shownAll_le hB xs h
    have q := listText_le (PyData.shownAll (toPyRs xs))
    show (listText (PyData.shownAll (toPyRs xs))).length ≤ wts xs + 4
    omega
  | .dct [] [], _ => by decide
  | .dct (_ :: _) _, h => by cases h
  | .dct [] (_ :: _), h => by cases h
  | .obj _ _ _, h => by cases h
  | .own _, h => by cases h
  | .drw, h => by cases h
theorem shownAll_le {B : Nat} (hB : B ≤ 10 ^ 40) : ∀ ds : List D, fits B ds = true → piled (PyData.shownAll (toPyRs ds)) ≤ wts ds
  | [], _ => by decide
  | d :: ds, h => by
    have h' : (fit B d && fits B ds) = true := h
    obtain ⟨h1, h2⟩ := Bool.and_eq_true_iff.mp h'
    have q1 := shown_le hB d h1
    have q2 := shownAll_le hB ds h2
    show piled ((toPyR d).shown :: PyData.shownAll (toPyRs ds)) ≤ wt d + 2 + wts ds
    rw [piled_cons]
    omega
end
mutual
theorem showable_of {B : Nat} (hB : B ≤ 10 ^ 40) : ∀ d : D, fit B d = true → plainR d = true ∧ (toPyR d).showable = true ∧ (toPyR d).depth ≤ dp d
  | .non, _ => by decide
  | .bl b, _ => ⟨rfl, rfl, Nat.le_refl _⟩
  | .int i, h => by
    have h' : i.natAbs < 10 ^ 40 := Nat.lt_of_lt_of_le (of_decide_eq_true h) hB
    refine ⟨rfl, ?_, Nat.le_refl _⟩
    show decide (i.natAbs.log2 < 1920) = true
    refine decide_eq_true ?_
    by_cases hz : i.natAbs = 0
    · rw [hz]; decide
    · have := (Nat.log2_lt hz (k := 1920)).mpr (Nat.lt_of_lt_of_le h' (Nat.le_trans (show (10 : Nat) ^ 40 ≤ 2 ^ 200 by decide) (Nat.pow_le_pow_right (n := 2) (by decide) (by omega))))
      exact this
  | .str x, _ => ⟨rfl, rfl, Nat.le_refl _⟩
  | .tup xs, h => by
    obtain ⟨h1, h2, h3⟩ := showables_of hB xs h
    exact ⟨h1, h2, Nat.succ_le_succ h3⟩
  | .lst xs, h => by
    obtain ⟨h1, h2, h3⟩ := showables_of hB xs h
    exact ⟨h1, h2, Nat.succ_le_succ h3⟩
  | .dct [] [], _ => by decide
  | .dct (_ :: _) _, h => by cases h
  | .dct [] (_ :: _), h => by cases h
  | .obj _ _ _, h => by cases h
  | .own _, h => by cases h
  | .drw, h => by cases h
theorem showables_of {B : Nat} (hB : B ≤ 10 ^ 40) : ∀ ds : List D, fits B ds = true → plainRs ds = true ∧ PyData.showableAll (toPyRs ds) = true ∧ PyData.depthAll (toPyRs ds) ≤ dps ds
  | [], _ => by decide
  | d :: ds, h => by
    have h' : (fit B d && fits B ds) = true := h
    obtain ⟨h1, h2⟩ := Bool.and_eq_true_iff.mp h'
    obtain ⟨a1, a2, a3⟩ := showable_of hB d h1
    obtain ⟨b1, b2, b3⟩ := showables_of hB ds h2
    refine ⟨?_, ?_, ?_⟩
    · show (plainR d && plainRs ds) = true
      rw [a1, b1]; rfl
    · show ((toPyR d).showable && PyData.showableAll (toPyRs ds)) = true
      rw [a2, b2]; rfl
    · show max (toPyR d).depth (PyData.depthAll (toPyRs ds)) ≤ max (dp d) (dps ds)
      omega
end
mutual
theorem fit_mono {B B' : Nat} (h : B ≤ B') : ∀ d : D, fit B d = true → fit B' d = true
  | .non, _ => rfl
  | .bl _, _ => rfl
  | .int i, e => decide_eq_true (Nat.lt_of_lt_of_le (of_decide_eq_true e) h)
  | .str _, e => e
  | .tup xs, e => fits_mono h xs e
  | .lst xs, e => fits_mono h xs e
  | .dct [] [], _ => rfl
  | .dct (_ :: _) _, h => by cases h
  | .dct [] (_ :: _), h => by cases h
  | .obj _ _ _, h => by cases h
  | .own _, h => by cases h
  | .drw, h => by cases h
theorem fits_mono {B B' : Nat} (h : B ≤ B') : ∀ ds : List D, fits B ds = true → fits B' ds = true
  | [], _ => rfl
  | d :: ds, e => by
    have e' : (fit B d && fits B ds) = true := e
    obtain ⟨h1, h2⟩ := Bool.and_eq_true_iff.mp e'
    show (fit B' d && fits B' ds) = true
    rw [fit_mono h d h1, fits_mono h ds h2]
    rfl
end
theorem fits_iff {B : Nat} : ∀ {ds : List D}, fits B ds = true ↔ ∀ d ∈ ds, fit B d = true
  | [] => ⟨(fun _ _ h => nomatch h), fun _ => rfl⟩
  | d :: ds => by
    show (fit B d && fits B ds) = true ↔ _
    rw [Bool.and_eq_true_iff, fits_iff (ds := ds)]
    simp
theorem fits_append {B : Nat} {xs ys : List D} : fits B (xs ++ ys) = true ↔ fits B xs = true ∧ fits B ys = true := by
  simp only [fits_iff, List.mem_append]
  exact ⟨fun h => ⟨fun d hd => h d (.inl hd), fun d hd => h d (.inr hd)⟩, fun h d hd => hd.elim (h.1 d) (h.2 d)⟩
theorem wts_append : ∀ {xs ys : List D}, wts (xs ++ ys) = wts xs + wts ys
  | [], ys => by show wts ys = 0 + wts ys; omega
  | x :: xs, ys => by
    show wt x + 2 + wts (xs ++ ys) = wt x + 2 + wts xs + wts ys
    rw [wts_append]; omega
theorem dps_append : ∀ {xs ys : List D}, dps (xs ++ ys) = max (dps xs) (dps ys)
  | [], ys => by show dps ys = max 0 (dps ys); omega
  | x :: xs, ys => by
    show max (dp x) (dps (xs ++ ys)) = max (max (dp x) (dps xs)) (dps ys)
    rw [dps_append]; omega
theorem dps_le {n : Nat} : ∀ {xs : List D}, dps xs ≤ n ↔ ∀ x ∈ xs, dp x ≤ n
  | [] => ⟨(fun _ _ h => nomatch h), fun _ => Nat.zero_le _⟩
  | x :: xs => by
    show max (dp x) (dps xs) ≤ n ↔ _
    rw [Nat.max_le, dps_le (xs := xs)]
    simp
theorem wts_sub {xs ys : List D} (h : List.Sublist xs ys) : wts xs ≤ wts ys := by
  induction h with
  | slnil => exact Nat.le_refl _
  | cons a _ ih => exact Nat.le_trans ih (Nat.le_add_left _ _)
  | cons_cons a _ ih => exact Nat.add_le_add_left ih _
theorem wts_len : ∀ {xs : List D}, xs.length ≤ wts xs
  | [] => Nat.le_refl _
  | x :: xs => by
    show xs.length + 1 ≤ wt x + 2 + wts xs
    have := wts_len (xs := xs)
    omega
theorem wts_perm {xs ys : List D} (h : xs.Perm ys) : wts xs = wts ys := by
  induction h with
  | nil => rfl
  | cons a _ ih => show _ + wts _ = _ + wts _; rw [ih]
  | swap a b l => show wt b + 2 + (wt a + 2 + wts l) = wt a + 2 + (wt b + 2 + wts l); omega
  | trans _ _ i j => exact i.trans j
/-- a thing of moderate size -/
structure Fine (B n w : Nat) (d : D) : Prop where
  f : fit B d = true
  n : dp d ≤ n
  w : wt d ≤ w
theorem Fine.mono {B n w B' n' w' : Nat} {d : D} (h : Fine B n w d) (hb : B ≤ B') (hn : n ≤ n') (hw : w ≤ w') : Fine B' n' w' d := ⟨fit_mono hb d h.f, Nat.le_trans h.n hn, Nat.le_trans h.w hw⟩
theorem repr_ok' {B n w : Nat} {d : D} (h : Fine B n w d) (hB : B ≤ 10 ^ 40) (hn : n ≤ 60) (hw : w ≤ LIM) : reprD [d] = some (.str (reprS d)) := by
  obtain ⟨h1, h2, h3⟩ := showable_of hB d h.f
  have h4 := shown_le hB d h.f
  have e : showR d = true := by
    unfold showR
    rw [h1, h2, decide_eq_true (Nat.le_trans h3 (Nat.le_trans h.n hn)), decide_eq_true (show (reprS d).length ≤ LIM from Nat.le_trans h4 (Nat.le_trans h.w hw))]
    rfl
  show (if showR d = true then _ else _) = _
  rw [if_pos e]
theorem fit_pure {B : Nat} {d : D} (h : fit B d = true) : pureB d = true := by
  cases d <;> first | rfl | cases h
theorem frz_ok {d : D} {s : SS} (h : pureB d = true) : frz d s = .ok d s := by
  cases d <;> first | rfl | cases h
theorem vw_ok {d : D} {s : SS} (h : pureB d = true) : vw s d = d := by
  cases d <;> first | rfl | cases h
/-! ### the draws -/
/-- the draws are in order, so many more may come -/
structure Go1 (b : Nat) (s : SS) : Prop where
  cs : s.cs = []
  ex : ∃ m, s.m = some m ∧ 0 ≤ m.at_ ∧ m.at_ + b ≤ GRD ∧ m.left.length ≤ 63
theorem Go1.less {b c : Nat} {s : SS} (h : Go1 b s) (hc : c ≤ b) : Go1 c s := by
  obtain ⟨m, e, h1, h2, h3⟩ := h.ex
  exact ⟨h.cs, m, e, h1, by omega, h3⟩
theorem next_ok {b : Nat} {n : Int} {s : SS} (h : Go1 (b + 1) s) (h1 : 0 < n) (h2 : n < 1073741824) : ∃ k s', nextM [.drw, .int n] s = .ok (.int k) s' ∧ 0 ≤ k ∧ k < n ∧ Go1 b s' := by
  obtain ⟨m, e, ha, hb, hl⟩ := h.ex
  have g : (decide (0 < n) && decide (n < 1073741824) && decide (0 ≤ m.at_) && decide (m.at_ < GRD) && decide (m.left.length ≤ 63)) = true := by
    rw [decide_eq_true h1, decide_eq_true h2, decide_eq_true ha, decide_eq_true (show m.at_ < GRD by omega), decide_eq_true hl]; rfl
  refine ⟨(nextMS m n).1, { s with m := some (nextMS m n).2 }, ?_, ?_, ?_, h.cs, (nextMS m n).2, rfl, ?_⟩
  · show (match s.m with | some m => _ | none => _) = _
    rw [e]
    dsimp only
    rw [if_pos g]
  · unfold nextMS
    split
    · exact Int.emod_nonneg _ (by omega)
    · exact Int.emod_nonneg _ (by omega)
  · unfold nextMS
    split
    · exact Int.emod_lt_of_pos _ h1
    · exact Int.emod_lt_of_pos _ h1
  · unfold nextMS
    split
    · rename_i x r q
      refine ⟨ha, by dsimp only; omega, ?_⟩
      have : (m.left.dropWhile (· == 0)).length ≤ m.left.length := (List.dropWhile_sublist _).length_le
      rw [q] at this
      simp only [List.length_cons] at this ⊢
      omega
    · exact ⟨by dsimp only; omega, by dsimp only; omega, by simp⟩
/-! ### comprehensions -/
theorem comp_ok {t : T} {tst el : Env' → M D} {env : Env'} {s : SS} {p : D → Bool} {f : D → D} : ∀ {ds : List D}, (∀ d ∈ ds, ∃ E, asgT t d env = some E ∧ tst E s = .ok (.bl (p d)) s ∧ (p d = true → el E s = .ok (f d) s ∧ pureB (f d) = true)) →
    compM (turnM t tst el env) ds s = .ok ((ds.filter p).map f) s
  | [], _ => rfl
  | d :: ds, h => by
    obtain ⟨E, e1, e2, e3⟩ := h d List.mem_cons_self
    have ih := comp_ok (ds := ds) fun d hd => h d (List.mem_cons_of_mem _ hd)
    have u : turnM t tst el env d s = .ok (if p d = true then some (f d) else none) s := by
      unfold turnM
      rw [e1]
      dsimp only
      unfold iteM
      rw [bnd_ok e2]
      cases hp : p d with
      | false => rfl
      | true =>
        obtain ⟨e4, e5⟩ := e3 hp
        show (el E >>= _) s = _
        rw [bnd_ok e4, bnd_ok (frz_ok e5), if_pos e5]
        rfl
    show (turnM t tst el env d >>= fun o => compM _ ds >>= fun r => M.ret (match o with | some y => y :: r | none => r)) s = _
    rw [bnd_ok u, bnd_ok ih, List.filter_cons]
    cases p d <;> rfl
theorem lc_ok {own : List Nat} {t : T} {it : M (List D)} {tst el : Env' → M D} {env : Env'} {s : SS} {ds : List D} {p : D → Bool} {f : D → D} (hi : it s = .ok ds s)
    (h : ∀ d ∈ ds, ∃ E, asgT t d (wipeE env own) = some E ∧ tst E s = .ok (.bl (p d)) s ∧ (p d = true → el E s = .ok (f d) s ∧ pureB (f d) = true)) (hl : ds.length ≤ LIM) :
    lcM own t it tst el env s = .ok (.lst ((ds.filter p).map f)) s := by
  unfold lcM
  rw [bnd_ok hi]
  have c : M.calm (compM (turnM t tst el (wipeE env own)) ds) s = .ok ((ds.filter p).map f) s := by
    unfold M.calm
    rw [comp_ok h]
  refine (bnd_ok (f := fun r : List D => if r.length ≤ LIM then M.ret (D.lst r) else M.stk) c).trans ?_
  rw [if_pos]
  · rfl
  · rw [List.length_map]
    exact Nat.le_trans (List.length_filter_le _ _) hl
/-- without a test -/
theorem lc_all {own : List Nat} {t : T} {it : M (List D)} {el : Env' → M D} {env : Env'} {s : SS} {ds : List D} {f : D → D} (hi : it s = .ok ds s)
    (h : ∀ d ∈ ds, ∃ E, asgT t d (wipeE env own) = some E ∧ el E s = .ok (f d) s ∧ pureB (f d) = true) (hl : ds.length ≤ LIM) :
    lcM own t it (fun _ => M.ret (.bl true)) el env s = .ok (.lst (ds.map f)) s := by
  have := lc_ok (own := own) (t := t) (tst := fun _ => M.ret (.bl true)) (el := el) (env := env) (p := fun _ => true) (f := f) hi (fun d hd => by
    obtain ⟨E, e1, e2, e3⟩ := h d hd
    exact ⟨E, e1, rfl, fun _ => ⟨e2, e3⟩⟩) hl
  rw [this, List.filter_eq_self.mpr (fun _ _ => rfl)]
theorem fn_rt {n : Nat} {b : SM} {ds : List D} {d : D} {s s' : SS} (h : b (startE n ds) s = .rt d s') (hp : pureB d = true) (hc : s.cs = []) (hc' : s'.cs = []) : fnM n b ds s = .ok d s' := by
  unfold fnM
  rw [h]
  dsimp only
  rw [if_pos hp]
  unfold cutS
  rw [hc]
  obtain ⟨m, cs⟩ := s'
  cases hc'
  rfl
theorem ret_rt {m : Env' → M D} {env : Env'} {s s' : SS} {d : D} (h : m env s = .ok d s') (hp : pureB d = true) : retS m env s = .rt d s' := by
  unfold retS
  rw [h]
  dsimp only
  rw [frz_ok hp]
theorem asg_nx {t : T} {m : Env' → M D} {env E : Env'} {s s' : SS} {d : D} (h : m env s = .ok d s') (ha : asgT t d env = some E) : asgS t m env s = .nx E s' := by
  unfold asgS
  rw [h]
  dsimp only
  rw [ha]
end PI

set_option maxHeartbeats 1000000
/-! PI, part q: the evaluator by big steps. -/
namespace PI
open PySem L2
section
variable {Γ : Fns} {a b c e : C} {es : List C} {env E : Env'} {s s1 s2 s3 : SS} {d x y z : D} {ds xs : List D}
theorem e_k : evC Γ (.k d) env s = .ok d s := rfl
theorem e_v {i : Nat} (h : env[i]? = some (some d)) : evC Γ (.v i) env s = .ok d s := rd_ok h
theorem e_bin {o : BOp} (ha : evC Γ a env s = .ok x s1) (hb : evC Γ b env s1 = .ok y s2) (h : binD o (vw s2 x) (vw s2 y) = some d) : evC Γ (.bin o a b) env s = .ok d s2 := by
  show (evC Γ a env >>= fun x => evC Γ b env >>= fun y => op2 (binD o) x y) s = _
  rw [bnd_ok ha, bnd_ok hb, op2_ok h]
theorem e_cmp {o : COp} (ha : evC Γ a env s = .ok x s1) (hb : evC Γ b env s1 = .ok y s2) (h : cmpD o (vw s2 x) (vw s2 y) = some d) : evC Γ (.cmp o a b) env s = .ok d s2 := by
  show (evC Γ a env >>= fun x => evC Γ b env >>= fun y => op2 (cmpD o) x y) s = _
  rw [bnd_ok ha, bnd_ok hb, op2_ok h]
theorem e_neg {i : Int} (ha : evC Γ a env s = .ok (.int i) s1) : evC Γ (.neg a) env s = .ok (.int (-i)) s1 := by
  show (evC Γ a env >>= fun x => op1 negD x) s = _
  rw [bnd_ok ha]; rfl
theorem e_chain {o o' : COp} {p q : Bool} (ha : evC Γ a env s = .ok x s1) (hb : evC Γ b env s1 = .ok y s2) (h : cmpD o (vw s2 x) (vw s2 y) = some (.bl p)) (hc : p = true → evC Γ c env s2 = .ok z s2 ∧ cmpD o' (vw s2 y) (vw s2 z) = some (.bl q)) :
    evC Γ (.chain o o' a b c) env s = .ok (.bl (p && q)) s2 := by
  show chainM o o' (evC Γ a env) (evC Γ b env) (evC Γ c env) s = _
  unfold chainM
  rw [bnd_ok ha, bnd_ok hb, bnd_ok (op2_ok h)]
  cases p with
  | false => rfl
  | true =>
    obtain ⟨h1, h2⟩ := hc rfl
    show (evC Γ c env >>= fun w => op2 (cmpD o') y w) s2 = _
    rw [bnd_ok h1, op2_ok h2]
    rfl
/-- both parts, the second asked if the first is so -/
theorem e_and {p q : Bool} (ha : evC Γ a env s = .ok (.bl p) s1) (hb : p = true → evC Γ b env s1 = .ok (.bl q) s1) : evC Γ (.and a b) env s = .ok (.bl (p && q)) s1 := by
  show PI.andM (evC Γ a env) (evC Γ b env) s = _
  unfold PI.andM
  rw [bnd_ok ha]
  cases p with
  | false => rfl
  | true => exact hb rfl
theorem e_or {p q : Bool} (ha : evC Γ a env s = .ok (.bl p) s1) (hb : p = false → evC Γ b env s1 = .ok (.bl q) s1) : evC Γ (.or a b) env s = .ok (.bl (p || q)) s1 := by
  show PI.orM (evC Γ a env) (evC Γ b env) s = _
  unfold PI.orM
  rw [bnd_ok ha]
  cases p with
  | true => rfl
  | false => exact hb rfl
theorem e_and_t (ha : evC Γ a env s = .ok (.bl true) s1) (hb : evC Γ b env s1 = .ok d s2) : evC Γ (.and a b) env s = .ok d s2 := by
  show PI.andM (evC Γ a env) (evC Γ b env) s = _
  unfold PI.andM
  rw [bnd_ok ha]; exact hb
theorem e_and_f (ha : evC Γ a env s = .ok (.bl false) s1) : evC Γ (.and a b) env s = .ok (.bl false) s1 := by
  show PI.andM (evC Γ a env) (evC Γ b env) s = _
  unfold PI.andM
  rw [bnd_ok ha]; rfl
theorem e_or_f (ha : evC Γ a env s = .ok (.bl false) s1) (hb : evC Γ b env s1 = .ok d s2) : evC Γ (.or a b) env s = .ok d s2 := by
  show PI.orM (evC Γ a env) (evC Γ b env) s = _
  unfold PI.orM
  rw [bnd_ok ha]; exact hb
theorem e_or_t (ha : evC Γ a env s = .ok (.bl true) s1) : evC Γ (.or a b) env s = .ok (.bl true) s1 := by
  show PI.orM (evC Γ a env) (evC Γ b env) s = _
  unfold PI.orM
  rw [bnd_ok ha]; rfl
theorem e_not {p : Bool} (ha : evC Γ a env s = .ok (.bl p) s1) : evC Γ (.not a) env s = .ok (.bl (!p)) s1 := by
  show notM (evC Γ a env) s = _
  unfold notM
  rw [bnd_ok ha]; rfl
theorem e_notT (ha : evC Γ a env s = .ok (.bl false) s1) : evC Γ (.not a) env s = .ok (.bl true) s1 := e_not ha
theorem e_notF (ha : evC Γ a env s = .ok (.bl true) s1) : evC Γ (.not a) env s = .ok (.bl false) s1 := e_not ha
theorem e_ite {p : Bool} (ht : evC Γ c env s = .ok (.bl p) s1) (ha : p = true → evC Γ a env s1 = .ok d s2) (hb : p = false → evC Γ b env s1 = .ok d s2) : evC Γ (.ite c a b) env s = .ok d s2 := by
  show iteM (evC Γ c env) (evC Γ a env) (evC Γ b env) s = _
  unfold iteM
  rw [bnd_ok ht]
  cases p with
  | true => exact ha rfl
  | false => exact hb rfl
theorem e_isi {ts : List Ty} (ha : evC Γ a env s = .ok x s1) (h : isiD ts (vw s1 x) = some d) : evC Γ (.isi a ts) env s = .ok d s1 := by
  show (evC Γ a env >>= fun x => op1 (isiD ts) x) s = _
  rw [bnd_ok ha]
  unfold op1
  rw [h]
theorem e_ix {i : C} (ha : evC Γ a env s = .ok x s1) (hb : evC Γ i env s1 = .ok y s2) (h : ixD (vw s2 x) (vw s2 y) = some d) : evC Γ (.ix a i) env s = .ok d s2 := by
  show (evC Γ a env >>= fun x => evC Γ i env >>= fun y => op2 ixD x y) s = _
  rw [bnd_ok ha, bnd_ok hb, op2_ok h]
/-! arguments -/
theorem n_nil : evN Γ [] env s = .ok [] s := rfl
theorem n_cons (ha : evC Γ a env s = .ok x s1) (hr : evN Γ es env s1 = .ok xs s2) : evN Γ (a :: es) env s = .ok (x :: xs) s2 := by
  show consN (evC Γ a env) (evN Γ es env) s = _
  unfold consN
  rw [bnd_ok ha, bnd_ok hr]; rfl
theorem e_call {f : Nat} (ha : evN Γ es env s = .ok xs s1) (h : Γ f xs s1 = .ok d s2) : evC Γ (.call f es) env s = .ok d s2 := by
  show (evN Γ es env >>= Γ f) s = _
  rw [bnd_ok ha, h]
theorem e_bi {o : BI} (ha : evN Γ es env s = .ok xs s1) (h : biD o (xs.map (vw s1)) = some d) : evC Γ (.bi o es) env s = .ok d s1 := by
  show biM (biD o) (evN Γ es env) s = _
  unfold biM
  rw [bnd_ok ha]
  show (match biD o (xs.map (vw s1)) with | some d => _ | none => _) = _
  rw [h]
/-! displays -/
theorem l_nil : evL Γ [] env s = .ok [] s := rfl
theorem l_cons (ha : evC Γ a env s = .ok x s1) (hp : pureB x = true) (hr : evL Γ es env s1 = .ok xs s2) (he : evL Γ (a :: es) env = consM (evC Γ a env) (evL Γ es env) := by rfl) : evL Γ (a :: es) env s = .ok (x :: xs) s2 := by
  rw [he]
  unfold consM
  rw [bnd_ok ha, bnd_ok (frz_ok hp), bnd_ok hr]; rfl
theorem l_star (ha : evC Γ a env s = .ok x s1) (hx : seqD (vw s1 x) = some ds) (hr : evL Γ es env s1 = .ok xs s2) : evL Γ (.star a :: es) env s = .ok (ds ++ xs) s2 := by
  show starM (evC Γ a env) (evL Γ es env) s = _
  unfold starM
  rw [bnd_ok ha]
  show (match seqD (vw s1 x) with | some l => _ | none => _) = _
  rw [hx]
  show (evL Γ es env >>= _) s1 = _
  rw [bnd_ok hr]; rfl
theorem e_tup (h : evL Γ es env s = .ok xs s1) (hp : xs.all pureB = true) (hl : xs.length ≤ LIM) : evC Γ (.tup es) env s = .ok (.tup xs) s1 := by
  show tupM (evL Γ es env) s = _
  unfold tupM
  rw [bnd_ok h, hp, decide_eq_true hl]; rfl
theorem e_lst (h : evL Γ es env s = .ok xs s1) (hp : xs.all pureB = true) (hl : xs.length ≤ LIM) : evC Γ (.lst es) env s = .ok (.lst xs) s1 := by
  show lstM (evL Γ es env) s = _
  unfold lstM
  rw [bnd_ok h, hp, decide_eq_true hl]; rfl
/-! slices -/
theorem o_nop : evO Γ .nop env s = .ok none s := rfl
theorem o_int {i : Int} (h : evC Γ a env s = .ok (.int i) s1) (he : evO Γ a env = intM (evC Γ a env) := by rfl) : evO Γ a env s = .ok (some i) s1 := by
  rw [he]
  unfold intM
  rw [bnd_ok h]; rfl
theorem e_sl {lo hi : C} {l h : Option Int} (ha : evC Γ a env s = .ok x s1) (hl : evO Γ lo env s1 = .ok l s2) (hh : evO Γ hi env s2 = .ok h s3) (hc : cutD (vw s3 x) l h = some d) : evC Γ (.sl a lo hi) env s = .ok d s3 := by
  show sliceM cutD (evC Γ a env) (evO Γ lo env) (evO Γ hi env) s = _
  unfold sliceM
  rw [bnd_ok ha, bnd_ok hl, bnd_ok hh, hc]
theorem e_slr {lo hi : C} {l h : Option Int} (ha : evC Γ a env s = .ok x s1) (hl : evO Γ lo env s1 = .ok l s2) (hh : evO Γ hi env s2 = .ok h s3) (hc : backD (vw s3 x) l h = some d) : evC Γ (.slr a lo hi) env s = .ok d s3 := by
  show sliceM backD (evC Γ a env) (evO Γ lo env) (evO Γ hi env) s = _
  unfold sliceM
  rw [bnd_ok ha, bnd_ok hl, bnd_ok hh, hc]
/-! what is walked -/
theorem i_walk (h : evC Γ a env s = .ok x s1) (hp : pureB x = true) (hi : itemsD x = some xs) (he : evI Γ a env = walkM (evC Γ a env) := by rfl) : evI Γ a env s = .ok xs s1 := by
  rw [he]
  unfold walkM
  rw [bnd_ok h, bnd_ok (frz_ok hp), hi]; rfl
theorem i_rng1 {j : Int} (h : evC Γ a env s = .ok (.int j) s1) (hj : inR j = true) (he : evL Γ [a] env = consM (evC Γ a env) (evL Γ [] env) := by rfl) : evI Γ (.rng [a]) env s = .ok (rangeL 0 j) s1 := by
  show rangeM (evL Γ [a] env) s = _
  unfold rangeM
  rw [bnd_ok (l_cons h rfl l_nil he)]
  show (if inR j = true then M.ret (rangeL 0 j) else M.stk) s1 = _
  rw [if_pos hj]; rfl
theorem i_zipT {ys : List D} (h : evL Γ [a, b] env s = .ok [.tup xs, .tup ys] s1) : evI Γ (.zip [a, b]) env s = .ok ((xs.zip ys).map fun p => .tup [p.1, p.2]) s1 := by
  show zipM (evL Γ [a, b] env) s = _
  unfold zipM
  rw [bnd_ok h]; rfl
/-! comprehensions -/
theorem e_lc {own : List Nat} {t : T} {p : D → Bool} {f : D → D} (hi : evI Γ a env s = .ok ds s) (hl : ds.length ≤ LIM)
    (h : ∀ d ∈ ds, ∃ E, asgT t d (wipeE env own) = some E ∧ evC Γ b E s = .ok (.bl (p d)) s ∧ (p d = true → evC Γ e E s = .ok (f d) s ∧ pureB (f d) = true)) :
    evC Γ (.lc own t a b e) env s = .ok (.lst ((ds.filter p).map f)) s := lc_ok hi h hl
theorem e_lcA {own : List Nat} {t : T} {f : D → D} (hi : evI Γ a env s = .ok ds s) (hl : ds.length ≤ LIM)
    (h : ∀ d ∈ ds, ∃ E, asgT t d (wipeE env own) = some E ∧ evC Γ e E s = .ok (f d) s ∧ pureB (f d) = true) :
    evC Γ (.lc own t a (.k (.bl true)) e) env s = .ok (.lst (ds.map f)) s := lc_all hi h hl
theorem cat_ok {f : D → M (List D)} {g : D → List D} : ∀ {ds : List D}, (∀ d ∈ ds, f d s = .ok (g d) s) → catM f ds s = .ok (ds.flatMap g) s
  | [], _ => rfl
  | d :: ds, h => by
    show (f d >>= fun l => catM f ds >>= fun r => M.ret (l ++ r)) s = _
    rw [bnd_ok (h d List.mem_cons_self), bnd_ok (cat_ok fun d hd => h d (List.mem_cons_of_mem _ hd)), List.flatMap_cons]; rfl
theorem e_lc2 {own own2 : List Nat} {t1 t2 : T} {it2 : C} {ys : D → List D} {p : D → D → Bool} {f : D → D → D} (hi : evI Γ a env s = .ok ds s)
    (h : ∀ d ∈ ds, ∃ E1, asgT t1 d (wipeE env own) = some E1 ∧ evI Γ it2 E1 s = .ok (ys d) s ∧ ∀ y ∈ ys d, ∃ E2, asgT t2 y (wipeE E1 own2) = some E2 ∧ evC Γ b E2 s = .ok (.bl (p d y)) s ∧ (p d y = true → evC Γ e E2 s = .ok (f d y) s ∧ pureB (f d y) = true))
    (hl : (ds.flatMap fun d => ((ys d).filter (p d)).map (f d)).length ≤ LIM) :
    evC Γ (.lc2 own t1 a own2 t2 it2 b e) env s = .ok (.lst (ds.flatMap fun d => ((ys d).filter (p d)).map (f d))) s := by
  show lc2M own t1 (evI Γ a env) (fun env => evI Γ it2 env) own2 t2 (fun env => evC Γ b env) (fun env => evC Γ e env) env s = _
  unfold lc2M
  rw [bnd_ok hi]
  have c : M.calm (catM (turn2M t1 (fun env => evI Γ it2 env) own2 t2 (fun env => evC Γ b env) (fun env => evC Γ e env) (wipeE env own)) ds) s = .ok (ds.flatMap fun d => ((ys d).filter (p d)).map (f d)) s := by
    unfold M.calm
    rw [cat_ok (g := fun d => ((ys d).filter (p d)).map (f d)) fun d hd => by
      obtain ⟨E1, e1, e2, e3⟩ := h d hd
      unfold turn2M
      rw [e1]
      dsimp only
      rw [bnd_ok e2, comp_ok e3]]
  refine (bnd_ok (f := fun r : List D => if r.length ≤ LIM then M.ret (D.lst r) else M.stk) c).trans ?_
  rw [if_pos hl]; rfl
/-! statements -/
theorem s_asg {t : T} {st : List S} {r : SR} (h : evC Γ a env s = .ok d s1) (ha : asgT t d env = some E) (hr : evSs Γ st E s1 = r) : evSs Γ (.asg t a :: st) env s = r := (seqS_nx (asg_nx h ha)).trans hr
theorem s_ret {st : List S} (h : evC Γ a env s = .ok d s1) (hp : pureB d = true) : evSs Γ (.ret a :: st) env s = .rt d s1 := seqS_rt (ret_rt h hp)
theorem s_if_t {sa sb st : List S} {r : SR} (h : evC Γ a env s = .ok (.bl true) s1) (hr : evSs Γ sa env s1 = r) (hn : ∀ E s2, r = .nx E s2 → False) : evSs Γ (.ite a sa sb :: st) env s = r := by
  show seqS (ifS (evC Γ a) (evSs Γ sa) (evSs Γ sb)) (evSs Γ st) env s = _
  unfold seqS
  rw [ifS_t h, hr]
  cases r with
  | nx E s2 => exact (hn E s2 rfl).elim
  | _ => rfl
theorem s_if_ret {sa sb st : List S} (h : evC Γ a env s = .ok (.bl true) s1) (hr : evSs Γ sa env s1 = .rt d s2) : evSs Γ (.ite a sa sb :: st) env s = .rt d s2 :=
  s_if_t h hr fun _ _ z => nomatch z
theorem s_if_f {sa st : List S} {r : SR} (h : evC Γ a env s = .ok (.bl false) s1) (hr : evSs Γ st env s1 = r) : evSs Γ (.ite a sa [] :: st) env s = r := by
  show seqS (ifS (evC Γ a) (evSs Γ sa) passS) (evSs Γ st) env s = _
  unfold seqS
  rw [ifS_f h]
  exact hr
theorem s_par {is : List Nat} {st : List S} {r : SR} (h : evN Γ es env s = .ok xs s1) (ha : setsE env is xs = some E) (hr : evSs Γ st E s1 = r) : evSs Γ (.par is es :: st) env s = r := by
  refine (seqS_nx (s' := s1) (env' := E) ?_).trans hr
  show parS is (evN Γ es) env s = _
  unfold parS
  rw [h]
  dsimp only
  rw [ha]
theorem s_for {t : T} {sb st : List S} {r : SR} (hi : evI Γ a env s = .ok ds s1) (hf : forL t (evSs Γ sb) ds env s1 = .nx E s2) (hr : evSs Γ st E s2 = r) : evSs Γ (.for_ t a sb :: st) env s = r := by
  refine (seqS_nx (s' := s2) (env' := E) ?_).trans hr
  show forS t (evI Γ a) (evSs Γ sb) env s = _
  unfold forS
  rw [hi]
  exact hf
theorem for_nil {t : T} {bd : SM} : forL t bd [] env s = .nx env s := rfl
theorem for_cons {t : T} {bd : SM} {E1 E2 : Env'} {r : SR} (ha : asgT t d env = some E1) (hb : bd E1 s = .nx E2 s1) (hr : forL t bd ds E2 s1 = r) : forL t bd (d :: ds) env s = r := by
  show (match asgT t d env with | none => _ | some env1 => _) = _
  rw [ha]
  dsimp only
  rw [hb]
  exact hr
end
/-- a loop that keeps what is said -/
theorem for_inv {t : T} {bd : SM} (P : List D → Env' → SS → Prop) : ∀ {ds : List D} {env : Env'} {s : SS}, P ds env s → (∀ d ds env s, P (d :: ds) env s → ∃ E1 E2 s1, asgT t d env = some E1 ∧ bd E1 s = .nx E2 s1 ∧ P ds E2 s1) →
    ∃ E s1, forL t bd ds env s = .nx E s1 ∧ P [] E s1
  | [], env, s, h, _ => ⟨env, s, rfl, h⟩
  | d :: ds, env, s, h, hs => by
    obtain ⟨E1, E2, s1, e1, e2, h1⟩ := hs d ds env s h
    obtain ⟨E, s2, e3, h2⟩ := for_inv P h1 hs
    exact ⟨E, s2, for_cons e1 e2 e3, h2⟩
end PI

/-! Plain laws, part a: rows and lots of places, by ranks. -/
namespace PL
open PySem PI
section
variable {α β : Type}
/-- a further one may come behind a lot -/
def goesOn (lt : α → α → Bool) (lot : List α) (p : α) : Bool := lot.isEmpty || (match lot.getLast? with | some q => lt q p | none => false)
/-- all lots of so many, ascending -/
def LW (lt : α → α → Bool) (ps : List α) : Nat → List (List α)
  | 0 => [[]]
  | m + 1 => (LW lt ps m).flatMap fun lot => (ps.filter fun p => goesOn lt lot p).map fun p => lot ++ [p]
/-- all rows of so many different ones -/
def RW (eq : α → α → Bool) (ps : List α) : Nat → List (List α)
  | 0 => [[]]
  | m + 1 => (RW eq ps m).flatMap fun r => (ps.filter fun p => !r.any fun y => eq y p).map fun p => r ++ [p]
def SB (ps : List α) : List (List α) := ps.foldl (fun acc w => acc ++ acc.map fun r => r ++ [w]) [[]]
theorem sortBy_map {lt : α → α → Bool} {lt' : β → β → Bool} (f : α → β) : ∀ (xs : List α), (∀ a ∈ xs, ∀ b ∈ xs, lt' (f a) (f b) = lt a b) → sortBy lt' (xs.map f) = (sortBy lt xs).map f := by
  have ins : ∀ (x : α) (ys : List α), (∀ y ∈ ys, lt' (f y) (f x) = lt y x) → insBy lt' (f x) (ys.map f) = (insBy lt x ys).map f := by
    intro x ys
    induction ys with
    | nil => intro _; rfl
    | cons y ys ih =>
      intro h
      rw [List.map_cons]
      unfold insBy
      rw [h y List.mem_cons_self]
      cases lt y x with
      | true =>
        rw [if_pos rfl, if_pos rfl, List.map_cons, ih fun z hz => h z (List.mem_cons_of_mem _ hz)]
      | false => rfl
  intro xs
  induction xs with
  | nil => intro _; rfl
  | cons x xs ih =>
    intro h
    rw [List.map_cons]
    unfold sortBy
    rw [ih fun a ha b hb => h a (List.mem_cons_of_mem _ ha) b (List.mem_cons_of_mem _ hb), ins x _ fun y hy => h y (List.mem_cons_of_mem _ (mem_sortBy.mp hy)) x List.mem_cons_self]
theorem LW_mem {lt : α → α → Bool} {ps : List α} : ∀ (m : Nat) (r : List α), r ∈ LW lt ps m → (∀ p ∈ r, p ∈ ps) ∧ r.length = m
  | 0, r, h => by
    have e : r = [] := List.mem_singleton.mp h
    subst e
    exact ⟨(fun _ h => nomatch h), rfl⟩
  | m + 1, r, h => by
    obtain ⟨lot, h1, h2⟩ := List.mem_flatMap.mp h
    obtain ⟨p, h3, rfl⟩ := List.mem_map.mp h2
    obtain ⟨h4, h5⟩ := LW_mem m lot h1
    refine ⟨fun q hq => ?_, by rw [List.length_append, h5]; rfl⟩
    rcases List.mem_append.mp hq with z | z
    · exact h4 q z
    · rw [List.mem_singleton.mp z]; exact (List.mem_filter.mp h3).1
theorem RW_mem {eq : α → α → Bool} {ps : List α} : ∀ (m : Nat) (r : List α), r ∈ RW eq ps m → (∀ p ∈ r, p ∈ ps) ∧ r.length = m
  | 0, r, h => by
    have e : r = [] := List.mem_singleton.mp h
    subst e
    exact ⟨(fun _ h => nomatch h), rfl⟩
  | m + 1, r, h => by
    obtain ⟨lot, h1, h2⟩ := List.mem_flatMap.mp h
    obtain ⟨p, h3, rfl⟩ := List.mem_map.mp h2
    obtain ⟨h4, h5⟩ := RW_mem m lot h1
    refine ⟨fun q hq => ?_, by rw [List.length_append, h5]; rfl⟩
    rcases List.mem_append.mp hq with z | z
    · exact h4 q z
    · rw [List.mem_singleton.mp z]; exact (List.mem_filter.mp h3).1
theorem flatMap_congr' {f g : α → List β} : ∀ {xs : List α}, (∀ x ∈ xs, f x = g x) → xs.flatMap f = xs.flatMap g
  | [], _ => rfl
  | x :: xs, h => by rw [List.flatMap_cons, List.flatMap_cons, h x List.mem_cons_self, flatMap_congr' fun z hz => h z (List.mem_cons_of_mem _ hz)]
theorem filter_map_congr (f : α → β) {p : β → Bool} {q : α → Bool} {xs : List α} (h : ∀ x ∈ xs, p (f x) = q x) : (xs.map f).filter p = (xs.filter q).map f := by
  rw [List.filter_map]
  congr 1
  exact List.filter_congr h
theorem LW_map {lt : α → α → Bool} {lt' : β → β → Bool} (f : α → β) {ps : List α} (h : ∀ a ∈ ps, ∀ b ∈ ps, lt' (f a) (f b) = lt a b) : ∀ m, LW lt' (ps.map f) m = (LW lt ps m).map (List.map f)
  | 0 => rfl
  | m + 1 => by
    unfold LW
    rw [LW_map f h m, List.flatMap_map, List.map_flatMap]
    refine flatMap_congr' fun lot hl => ?_
    obtain ⟨h1, h2⟩ := LW_mem m lot hl
    rw [List.map_map, filter_map_congr f (q := fun p => goesOn lt lot p), List.map_map]
    · refine List.map_congr_left fun p _ => ?_
      simp
    · intro p hp
      unfold goesOn
      rw [List.getLast?_map]
      cases e : lot.getLast? with
      | none =>
        have : lot = [] := List.getLast?_eq_none_iff.mp e
        subst this
        rfl
      | some q =>
        have hq : q ∈ lot := List.mem_of_getLast? e
        show (List.isEmpty (List.map f lot) || lt' (f q) (f p)) = _
        rw [h q (h1 q hq) p hp]
        simp
theorem RW_map {eq : α → α → Bool} {eq' : β → β → Bool} (f : α → β) {ps : List α} (h : ∀ a ∈ ps, ∀ b ∈ ps, eq' (f a) (f b) = eq a b) : ∀ m, RW eq' (ps.map f) m = (RW eq ps m).map (List.map f)
  | 0 => rfl
  | m + 1 => by
    unfold RW
    rw [RW_map f h m, List.flatMap_map, List.map_flatMap]
    refine flatMap_congr' fun lot hl => ?_
    obtain ⟨h1, h2⟩ := RW_mem m lot hl
    rw [List.map_map, filter_map_congr f (q := fun p => !lot.any fun y => eq y p), List.map_map]
    · refine List.map_congr_left fun p _ => ?_
      simp
    · intro p hp
      congr 1
      rw [List.any_map]
      rw [Bool.eq_iff_iff, List.any_eq_true, List.any_eq_true]
      exact ⟨fun ⟨y, hy, z⟩ => ⟨y, hy, by rw [← h y (h1 y hy) p hp]; exact z⟩, fun ⟨y, hy, z⟩ => ⟨y, hy, by show eq' (f y) (f p) = true; rw [h y (h1 y hy) p hp]; exact z⟩⟩
theorem SB_map (f : α → β) (ps : List α) : SB (ps.map f) = (SB ps).map (List.map f) := by
  have : ∀ (ps : List α) (acc : List (List α)), (ps.map f).foldl (fun acc w => acc ++ acc.map fun r => r ++ [w]) (acc.map (List.map f)) = (ps.foldl (fun acc w => acc ++ acc.map fun r => r ++ [w]) acc).map (List.map f) := by
    intro ps
    induction ps with
    | nil => intro acc; rfl
    | cons p ps ih =>
      intro acc
      rw [List.map_cons, List.foldl_cons, List.foldl_cons, ← ih]
      congr 1
      rw [List.map_append, List.map_map, List.map_map]
      congr 1
      refine List.map_congr_left fun r _ => ?_
      simp
  exact this ps [[]]
theorem SB_mem {ps : List α} : ∀ r ∈ SB ps, (∀ p ∈ r, p ∈ ps) ∧ r.length ≤ ps.length := by
  have : ∀ (qs : List α) (acc : List (List α)) (n : Nat), (∀ r ∈ acc, (∀ p ∈ r, p ∈ ps) ∧ r.length ≤ n) → (∀ q ∈ qs, q ∈ ps) → ∀ r ∈ qs.foldl (fun acc w => acc ++ acc.map fun r => r ++ [w]) acc, (∀ p ∈ r, p ∈ ps) ∧ r.length ≤ n + qs.length := by
    intro qs
    induction qs with
    | nil => intro acc n h _ r hr; exact h r hr
    | cons q qs ih =>
      intro acc n h hq r hr
      rw [List.foldl_cons] at hr
      have := ih _ (n + 1) (fun r hr => ?_) (fun z hz => hq z (List.mem_cons_of_mem _ hz)) r hr
      · rw [List.length_cons]
        exact ⟨this.1, by omega⟩
      · rcases List.mem_append.mp hr with z | z
        · exact ⟨(h r z).1, by have := (h r z).2; omega⟩
        · obtain ⟨r', h1, rfl⟩ := List.mem_map.mp z
          refine ⟨fun p hp => ?_, by have := (h r' h1).2; simp; omega⟩
          rcases List.mem_append.mp hp with y | y
          · exact (h r' h1).1 p y
          · rw [List.mem_singleton.mp y]; exact hq q List.mem_cons_self
  intro r hr
  have := this ps [[]] 0 (fun r hr => by rw [List.mem_singleton.mp hr]; exact ⟨(fun _ h => nomatch h), Nat.le_refl _⟩) (fun _ h => h) r hr
  exact ⟨this.1, by omega⟩
end
/-! ### texts in order -/
def lexB {α : Type} (eq lt : α → α → Bool) : List α → List α → Bool
  | [], [] => false
  | [], _ :: _ => true
  | _ :: _, [] => false
  | x :: xs, y :: ys => if eq x y then lexB eq lt xs ys else lt x y
theorem lexB_map {α β : Type} {eq lt : α → α → Bool} {eq' lt' : β → β → Bool} (f : α → β) {ps : List α} (h1 : ∀ a ∈ ps, ∀ b ∈ ps, eq' (f a) (f b) = eq a b) (h2 : ∀ a ∈ ps, ∀ b ∈ ps, lt' (f a) (f b) = lt a b) :
    ∀ (xs ys : List α), (∀ x ∈ xs, x ∈ ps) → (∀ y ∈ ys, y ∈ ps) → lexB eq' lt' (xs.map f) (ys.map f) = lexB eq lt xs ys
  | [], [], _, _ => rfl
  | [], _ :: _, _, _ => rfl
  | _ :: _, [], _, _ => rfl
  | x :: xs, y :: ys, hx, hy => by
    rw [List.map_cons, List.map_cons]
    unfold lexB
    rw [h1 x (hx x List.mem_cons_self) y (hy y List.mem_cons_self), h2 x (hx x List.mem_cons_self) y (hy y List.mem_cons_self), lexB_map f h1 h2 xs ys (fun z hz => hx z (List.mem_cons_of_mem _ hz)) (fun z hz => hy z (List.mem_cons_of_mem _ hz))]
/-- ascending -/
def Asc (ws : List Str) : Prop := ws.Pairwise fun a b => ltS a b = true
theorem ltS_irrefl (x : Str) : ltS x x = false := by
  unfold ltS
  exact decide_eq_false (List.lt_irrefl _)
theorem ltS_asymm {x y : Str} (h : ltS x y = true) : ltS y x = false := by
  unfold ltS at h ⊢
  exact decide_eq_false (List.lt_asymm (of_decide_eq_true h))
theorem ltS_trans {x y z : Str} (h : ltS x y = true) (h' : ltS y z = true) : ltS x z = true := by
  unfold ltS at h h' ⊢
  exact decide_eq_true (List.lt_trans (of_decide_eq_true h) (of_decide_eq_true h'))
def at0 (ws : List Str) (i : Nat) : Str := ws[i]?.getD ⟨#[]⟩
theorem ranks (ws : List Str) : (List.range ws.length).map (at0 ws) = ws := by
  refine List.ext_getElem? fun i => ?_
  rw [List.getElem?_map]
  by_cases h : i < ws.length
  · rw [List.getElem?_range h]
    simp [at0, h]
  · rw [List.getElem?_eq_none (by simpa using h), List.getElem?_eq_none (by omega)]
    rfl
theorem rank_lt {ws : List Str} (h : Asc ws) (i j : Nat) (hi : i ∈ List.range ws.length) (hj : j ∈ List.range ws.length) : ltS (at0 ws i) (at0 ws j) = decide (i < j) := by
  rw [List.mem_range] at hi hj
  have e1 : at0 ws i = ws[i] := by simp [at0, hi]
  have e2 : at0 ws j = ws[j] := by simp [at0, hj]
  rw [e1, e2]
  by_cases h1 : i < j
  · rw [decide_eq_true h1]; exact List.pairwise_iff_getElem.mp h i j hi hj h1
  · rw [decide_eq_false h1]
    by_cases h2 : j < i
    · exact ltS_asymm (List.pairwise_iff_getElem.mp h j i hj hi h2)
    · have e : i = j := by omega
      subst e
      exact ltS_irrefl _
theorem rank_eq {ws : List Str} (h : Asc ws) (i j : Nat) (hi : i ∈ List.range ws.length) (hj : j ∈ List.range ws.length) : (at0 ws i == at0 ws j) = (i == j) := by
  by_cases e : i = j
  · subst e; simp
  · rw [beq_eq_false_iff_ne.mpr e]
    refine beq_eq_false_iff_ne.mpr fun z => ?_
    have h1 := rank_lt h i j hi hj
    have h2 := rank_lt h j i hj hi
    rw [z] at h1 h2
    rw [ltS_irrefl] at h1 h2
    have := of_decide_eq_false h1.symm
    have := of_decide_eq_false h2.symm
    omega
abbrev eqS : Str → Str → Bool := fun a b => a == b
abbrev nlt : Nat → Nat → Bool := fun a b => decide (a < b)
abbrev neq : Nat → Nat → Bool := fun a b => a == b
theorem lots_ranks : ∀ n ∈ [3, 4, 5], ∀ m ∈ [2, 3], (sortBy (lexB neq nlt) (SB (List.range n))).filter (fun r => r.length == m) = LW nlt (List.range n) m := by decide +kernel
theorem rows_ranks : ∀ n ∈ [3, 4, 5], ∀ m ∈ [4, 5], (RW neq (List.range n) m).length ≤ 120 := by decide +kernel
theorem lots_len : ∀ n ∈ [3, 4, 5], ∀ m ∈ [2, 3], (LW nlt (List.range n) m).length ≤ 10 := by decide +kernel
/-- the law's lots of so many are those of the program -/
theorem lots_same {ws : List Str} (h : Asc ws) (hn : ws.length ∈ [3, 4, 5]) {m : Nat} (hm : m ∈ [2, 3]) : (sortBy (lexB eqS ltS) (SB ws)).filter (fun r => r.length == m) = LW ltS ws m := by
  have e := ranks ws
  have hl := rank_lt h
  have he := rank_eq h
  generalize hN : List.range ws.length = N at e hl he
  generalize at0 ws = f at e hl he
  have k := lots_ranks _ hn m hm
  rw [hN] at k
  subst e
  rw [SB_map, sortBy_map (lt := lexB neq nlt) (List.map f), LW_map f (lt := nlt) (fun a ha b hb => hl a b ha hb), ← k, filter_map_congr (List.map f) (q := fun r => r.length == m)]
  · intro r _; simp
  · intro a ha b hb
    exact lexB_map f (ps := N) (fun a ha b hb => he a b ha hb) (fun a ha b hb => hl a b ha hb) a b (SB_mem a ha).1 (SB_mem b hb).1
theorem rows_few {ws : List Str} (h : Asc ws) (hn : ws.length ∈ [3, 4, 5]) {m : Nat} (hm : m ∈ [4, 5]) : (RW eqS ws m).length ≤ 120 := by
  have e := ranks ws
  have he := rank_eq h
  generalize hN : List.range ws.length = N at e he
  generalize at0 ws = f at e he
  have k := rows_ranks _ hn m hm
  rw [hN] at k
  subst e
  rw [RW_map f (eq := neq) (fun a ha b hb => he a b ha hb), List.length_map]
  exact k
theorem lots_few {ws : List Str} (h : Asc ws) (hn : ws.length ∈ [3, 4, 5]) {m : Nat} (hm : m ∈ [2, 3]) : (LW ltS ws m).length ≤ 10 := by
  have e := ranks ws
  have hl := rank_lt h
  generalize hN : List.range ws.length = N at e hl
  generalize at0 ws = f at e hl
  have k := lots_len _ hn m hm
  rw [hN] at k
  subst e
  rw [LW_map f (lt := nlt) (fun a ha b hb => hl a b ha hb), List.length_map]
  exact k
end PL

/-! Plain laws, part b: the signs of texts. -/
namespace PL
open PySem PI
/-- all signs are code points -/
def Sane (x : Str) : Prop := ∀ c ∈ x.cps.toList, c < 0x110000
theorem sane_plain {x : Str} (h : Sane x) : plain (.str x) = true := by
  show x.cps.all (· < 0x110000) = true
  rw [Array.all_eq_true_iff_forall_mem]
  exact fun c hc => decide_eq_true (h c (Array.mem_toList_iff.mpr hc))
theorem sane_of {B : Nat} {x : Str} (h : fit B (.str x) = true) : Sane x := by
  have h' : x.cps.all (· < 0x110000) = true := h
  rw [Array.all_eq_true_iff_forall_mem] at h'
  exact fun c hc => of_decide_eq_true (h' c (Array.mem_toList_iff.mp hc))
theorem char_small (c : Char) : c.toNat < 0x110000 := by
  have h := c.valid
  simp only [UInt32.isValidChar, Nat.isValidChar] at h
  have : c.toNat = c.val.toNat := rfl
  omega
theorem sane_ofString (s : String) : Sane (Str.ofString s) := fun c hc => by
  rw [PyProof.Rows.signs_ofString] at hc
  obtain ⟨d, _, rfl⟩ := List.mem_map.mp hc
  exact char_small d
theorem sane_app {x y : Str} (hx : Sane x) (hy : Sane y) : Sane (x ++ y) := fun c hc => by
  have e : (x ++ y).cps.toList = x.cps.toList ++ y.cps.toList := by
    show (x.cps ++ y.cps).toList = _
    simp
  rw [e] at hc
  rcases List.mem_append.mp hc with z | z
  · exact hx c z
  · exact hy c z
theorem reprChar_small {q c : Nat} (hq : q < 0x110000) (hc : c < 0x110000) : ∀ d ∈ Builtin.Str.reprChar q c, d < 0x110000 := by
  have hx : ∀ w, ∀ d ∈ (List.replicate (w - ((Nat.toDigits 16 c).map Char.toNat).length) 48 ++ (Nat.toDigits 16 c).map Char.toNat), d < 0x110000 := fun w d hd => by
    rcases List.mem_append.mp hd with z | z
    · rw [(List.mem_replicate.mp z).2]; decide
    · obtain ⟨y, _, rfl⟩ := List.mem_map.mp z
      exact char_small y
  have app : ∀ (a b w : Nat), a < 128 → b < 128 → ∀ d ∈ ([a, b] ++ (List.replicate (w - ((Nat.toDigits 16 c).map Char.toNat).length) 48 ++ (Nat.toDigits 16 c).map Char.toNat)), d < 0x110000 := fun a b w ha hb d hd => by
    rcases List.mem_append.mp hd with z | z
    · simp only [List.mem_cons, List.not_mem_nil, or_false] at z
      rcases z with rfl | rfl <;> omega
    · exact hx w d z
  unfold Builtin.Str.reprChar
  dsimp only
  intro d hd
  split at hd
  · simp only [List.mem_cons, List.not_mem_nil, or_false] at hd
    rcases hd with rfl | rfl <;> omega
  split at hd
  · simp only [List.mem_cons, List.not_mem_nil, or_false] at hd
    rcases hd with rfl | rfl <;> omega
  split at hd
  · simp only [List.mem_cons, List.not_mem_nil, or_false] at hd
    rcases hd with rfl | rfl <;> omega
  split at hd
  · simp only [List.mem_cons, List.not_mem_nil, or_false] at hd
    rcases hd with rfl | rfl <;> omega
  split at hd
  · rw [List.mem_singleton.mp hd]; exact hc
  split at hd
  · exact app 92 120 2 (by decide) (by decide) d hd
  split at hd
  · exact app 92 117 4 (by decide) (by decide) d hd
  · exact app 92 85 8 (by decide) (by decide) d hd
theorem fold_small {q : Nat} (hq : q < 0x110000) : ∀ (l : List Nat) (acc : Array Nat), (∀ c ∈ l, c < 0x110000) → (∀ c ∈ acc.toList, c < 0x110000) → ∀ c ∈ (l.foldl (fun out c => out ++ (Builtin.Str.reprChar q c).toArray) acc).toList, c < 0x110000
  | [], acc, _, ha => ha
  | x :: l, acc, hl, ha => by
    rw [List.foldl_cons]
    refine fold_small hq l _ (fun c hc => hl c (List.mem_cons_of_mem _ hc)) fun c hc => ?_
    have e : (acc ++ (Builtin.Str.reprChar q x).toArray).toList = acc.toList ++ Builtin.Str.reprChar q x := by simp
    rw [e] at hc
    rcases List.mem_append.mp hc with z | z
    · exact ha c z
    · exact reprChar_small hq (hl x List.mem_cons_self) c z
theorem sane_repr {x : Str} (h : Sane x) : Sane (reprText x) := fun c hc => by
  have hq : reprQuote x < 0x110000 := by
    unfold reprQuote
    split <;> decide
  unfold reprText at hc
  rw [← Array.foldl_toList] at hc
  have e : ∀ a : Array Nat, (a.push (reprQuote x)).toList = a.toList ++ [reprQuote x] := fun a => by simp
  rw [e] at hc
  rcases List.mem_append.mp hc with z | z
  · exact fold_small hq _ _ h (fun c hc => by
      have : c = reprQuote x := by simpa using hc
      rw [this]; exact hq) c z
  · rw [List.mem_singleton.mp z]; exact hq
theorem sane_textFrom : ∀ (ts : List Str) (k : Nat) (acc : Str), (∀ t ∈ ts, Sane t) → Sane acc → Sane (textFrom k acc ts)
  | [], _, _, _, h => h
  | t :: r, k, acc, ht, h => by
    refine sane_textFrom r (k + 1) _ (fun z hz => ht z (List.mem_cons_of_mem _ hz)) (sane_app (sane_app h ?_) (ht t List.mem_cons_self))
    exact sane_ofString _
theorem sane_join : ∀ (ts : List Str), (∀ t ∈ ts, Sane t) → Sane (Str.join ", " ts)
  | [], _ => fun c hc => by
    have : c ∈ ([] : List Nat) := hc
    cases this
  | [x], h => h x (by simp)
  | x :: y :: r, h => by
    refine sane_app (sane_app (h x (by simp)) (sane_ofString _)) (sane_join (y :: r) fun z hz => h z (List.mem_cons_of_mem _ hz))
theorem sane_tuple {ts : List Str} (h : ∀ t ∈ ts, Sane t) : Sane (tupleText ts) := sane_app (sane_app (sane_ofString _) (sane_join ts h)) (sane_ofString _)
theorem sane_list {ts : List Str} (h : ∀ t ∈ ts, Sane t) : Sane (listText ts) := sane_app (sane_textFrom ts 0 _ h (sane_ofString _)) (sane_ofString _)
mutual
theorem sane_shown {B : Nat} : ∀ d : D, fit B d = true → Sane (toPyR d).shown
  | .non, _ => sane_ofString _
  | .bl b, _ => by cases b <;> exact sane_ofString _
  | .int i, _ => sane_ofString _
  | .str x, h => sane_repr (sane_of h)
  | .tup xs, h => sane_tuple (sane_showns xs h)
  | .lst xs, h => sane_list (sane_showns xs h)
  | .dct [] [], _ => by
    intro c hc
    have : c ∈ [123, 125] := hc
    simp only [List.mem_cons, List.not_mem_nil, or_false] at this
    omega
  | .dct (_ :: _) _, h => by cases h
  | .dct [] (_ :: _), h => by cases h
  | .obj _ _ _, h => by cases h
  | .own _, h => by cases h
  | .drw, h => by cases h
theorem sane_showns {B : Nat} : ∀ ds : List D, fits B ds = true → ∀ t ∈ PyData.shownAll (toPyRs ds), Sane t
  | [], _, t, h => by cases h
  | d :: ds, h, t, ht => by
    have h' : (fit B d && fits B ds) = true := h
    obtain ⟨h1, h2⟩ := Bool.and_eq_true_iff.mp h'
    have ht : t ∈ (toPyR d).shown :: PyData.shownAll (toPyRs ds) := ht
    rcases List.mem_cons.mp ht with rfl | ht
    · exact sane_shown d h1
    · exact sane_showns ds h2 t ht
end
theorem repr_plain {B n w : Nat} {d : D} (h : Fine B n w d) : plain (.str (reprS d)) = true := sane_plain (sane_shown d h.f)
end PL

namespace K01
open PySem L2 PyProof.Rows PI
def top (i : Nat) : Stmt := PySem.Challenge.pw_leftmaps_k01_whole_places_and_lots.main.body.getD i (.Pass ⟨0, 0, 0, 0⟩)
/-- what the module's other names hold -/
structure G (mg : Str → Option Value) : Prop where
  all : mg "all" = none
  bool_ : mg "bool" = none
  int_ : mg "int" = none
  isinstance : mg "isinstance" = none
  len : mg "len" = none
  list_ : mg "list" = none
  min : mg "min" = none
  range : mg "range" = none
  repr : mg "repr" = none
  sorted : mg "sorted" = none
  str_ : mg "str" = none
  super : mg "super" = none
  tuple_ : mg "tuple" = none
  zip : mg "zip" = none
  LEAST_PLACES : GV mg "LEAST_PLACES" (.int 3)
  LETTERS : GV mg "LETTERS" (.str "abcdefghijklmnopqrstuvwxyz")
  MOST_LETTERS : GV mg "MOST_LETTERS" (.int 8)
  MOST_PLACES : GV mg "MOST_PLACES" (.int 5)
  ROUND : GV mg "ROUND" (.str "round")
  WITHIN : GV mg "WITHIN" (.str "within")
abbrev st_is_word : Stmt := top 10
def N_is_word : List Str := ["thing", "letter"]
def S_is_word : List S := [.ret (.and (.isi (.v 0) [.str]) (.and (.chain .le .le (.k (.int 1)) (.bi .len [.v 0]) (.k (.int 8))) (.bi .all [.lc [1] (.nm 1) (.v 0) (.k (.bl true)) (.cmp .inn (.v 1) (.k (.str "abcdefghijklmnopqrstuvwxyz")))])))]
theorem sc_is_word : FnScope N_is_word ["thing"] (defScope st_is_word) := ⟨rfl, rfl, rfl, by decide +kernel, rfl, by decide +kernel, by decide +kernel⟩
set_option maxHeartbeats 4000000 in
theorem b_is_word {P : Program} {w : World} {K : PySem.W.Frag} {mg : Str → Option Value} {base : Heap} {cls : Nat → Addr} {k : Nat} {Γ : Fns} {f : Addr} {cdv : Value} {A : Around} {out : List Env} {s : Shared} {H : Hp} {E : XK} (g : G mg)
    (ok : Okx (cxOf (L2.CX P w) P w K mg base N_is_word "is_word" (defScope st_is_word) f cdv A out s H E) k) (tk : Takes (cxOf (L2.CX P w) P w K mg base N_is_word "is_word" (defScope st_is_word) f cdv A out s H E) (wE E)) (hp : PassesOwn (model P w) (cxOf (L2.CX P w) P w K mg base N_is_word "is_word" (defScope st_is_word) f cdv A out s H E).A (cxOf (L2.CX P w) P w K mg base N_is_word "is_word" (defScope st_is_word) f cdv A out s H E).env (cxOf (L2.CX P w) P w K mg base N_is_word "is_word" (defScope st_is_word) f cdv A out s H E).xe) : JSs (cxOf (L2.CX P w) P w K mg base N_is_word "is_word" (defScope st_is_word) f cdv A out s H E) ⟨cls, fldX⟩ (wE E) Γ (defBody st_is_word) S_is_word :=
  (js_cons (js_ret (j_and (j_isi .str g.isinstance g.str_ boot_str' (j_v 0)) (j_and (j_chain .le .le ok j_int (j_len g.len (jn_cons (j_v 0) jn_nil)) (j_gint g.MOST_LETTERS)) (j_one (j_all ok g.all (jn_cons (j_lc (own := [("letter", 1)]) ok (blk_of (by kernel_rfl)) (ji_walk (j_v 0)) (fun _ _ _ _ _ => (jg_nm 1 ok.blk.nd)) (fun _ _ _ _ _ => jts_nil) (fun _ _ _ _ _ => (j_cmp .inn ok.blk (j_v 1) (j_gstr g.LETTERS))) (by decide)) jn_nil))))))
  js_nil)
abbrev st_are_ascending : Stmt := top 11
def N_are_ascending : List Str := ["thing", "one", "other"]
def S_are_ascending : List S := [.ite (.or (.not (.isi (.v 0) [.tuple])) (.not (.bi .all [.lc [1] (.nm 1) (.v 0) (.k (.bl true)) (.call 221 [.v 1])]))) [.ret (.k (.bl false))] [], .ret (.bi .all [.lc [1, 2] (.tup [(.nm 1), (.nm 2)]) (.zip [.v 0, .sl (.v 0) (.k (.int 1)) (.nop)]) (.k (.bl true)) (.cmp .lt (.v 1) (.v 2))])]
theorem sc_are_ascending : FnScope N_are_ascending ["thing"] (defScope st_are_ascending) := ⟨rfl, rfl, rfl, by decide +kernel, rfl, by decide +kernel, by decide +kernel⟩
set_option maxHeartbeats 4000000 in
theorem b_are_ascending {P : Program} {w : World} {K : PySem.W.Frag} {mg : Str → Option Value} {base : Heap} {cls : Nat → Addr} {k : Nat} {Γ : Fns} {f : Addr} {cdv : Value} {A : Around} {out : List Env} {s : Shared} {H : Hp} {E : XK} (g : G mg) (h_is_word : FnAt P w K mg base ⟨cls, fldX⟩ (k + 1) "is_word" ["thing"] (Γ 221))
    (ok : Okx (cxOf (L2.CX P w) P w K mg base N_are_ascending "are_ascending" (defScope st_are_ascending) f cdv A out s H E) k) (tk : Takes (cxOf (L2.CX P w) P w K mg base N_are_ascending "are_ascending" (defScope st_are_ascending) f cdv A out s H E) (wE E)) (hp : PassesOwn (model P w) (cxOf (L2.CX P w) P w K mg base N_are_ascending "are_ascending" (defScope st_are_ascending) f cdv A out s H E).A (cxOf (L2.CX P w) P w K mg base N_are_ascending "are_ascending" (defScope st_are_ascending) f cdv A out s H E).env (cxOf (L2.CX P w) P w K mg base N_are_ascending "are_ascending" (defScope st_are_ascending) f cdv A out s H E).xe) : JSs (cxOf (L2.CX P w) P w K mg base N_are_ascending "are_ascending" (defScope st_are_ascending) f cdv A out s H E) ⟨cls, fldX⟩ (wE E) Γ (defBody st_are_ascending) S_are_ascending :=
  (js_cons (js_if (jt_w (jw_or (jt_not (jt_val (j_isi .tuple g.isinstance g.tuple_ boot_tup' (j_v 0)))) (jw_or1 (jt_not (jt_val (j_all ok g.all (jn_cons (j_lc (own := [("one", 1)]) ok (blk_of (by kernel_rfl)) (ji_walk (j_v 0)) (fun _ _ _ _ _ => (jg_nm 1 ok.blk.nd)) (fun _ _ _ _ _ => jts_nil) (fun _ _ _ _ _ => (j_call h_is_word ok.blk takes0 (jn_cons (j_v 1) jn_nil))) (by decide)) jn_nil))))))) (js_cons (js_ret j_bl)
  js_nil) js_nil)
  (js_cons (js_ret (j_all ok g.all (jn_cons (j_lc (own := [("one", 1), ("other", 2)]) ok (blk_of (by kernel_rfl)) (ji_zip g.zip (jl_cons (j_v 0) (jl_cons (j_sl (j_v 0) (jo_some j_int) jo_none) jl_nil))) (fun _ _ _ _ _ => (jg_tup ok.blk (jgs_cons (jg_nm 1 ok.blk.nd) (jgs_cons (jg_nm 2 ok.blk.nd) jgs_nil)))) (fun _ _ _ _ _ => jts_nil) (fun _ _ _ _ _ => (j_cmp .lt ok.blk (j_v 1) (j_v 2))) (by decide)) jn_nil)))
  js_nil))
abbrev st_need_places : Stmt := top 12
def N_need_places : List Str := ["thing"]
def S_need_places : List S := [.ite (.or (.not (.call 157 [.v 0])) (.not (.chain .le .le (.k (.int 3)) (.bi .len [.v 0]) (.k (.int 5))))) [.raise 0 (.v 0)] [], .ret (.v 0)]
theorem sc_need_places : FnScope N_need_places ["thing"] (defScope st_need_places) := ⟨rfl, rfl, rfl, by decide +kernel, rfl, by decide +kernel, by decide +kernel⟩
set_option maxHeartbeats 4000000 in
theorem b_need_places {P : Program} {w : World} {K : PySem.W.Frag} {mg : Str → Option Value} {base : Heap} {cls : Nat → Addr} {k : Nat} {Γ : Fns} {f : Addr} {cdv : Value} {A : Around} {out : List Env} {s : Shared} {H : Hp} {E : XK} (g : G mg) (h_are_ascending : FnAt P w K mg base ⟨cls, fldX⟩ (k + 1) "are_ascending" ["thing"] (Γ 157)) (x_BadPlaces : XcAt P K mg ⟨cls, fldX⟩ 0 "BadPlaces" [])
    (ok : Okx (cxOf (L2.CX P w) P w K mg base N_need_places "need_places" (defScope st_need_places) f cdv A out s H E) k) (tk : Takes (cxOf (L2.CX P w) P w K mg base N_need_places "need_places" (defScope st_need_places) f cdv A out s H E) (wE E)) (hp : PassesOwn (model P w) (cxOf (L2.CX P w) P w K mg base N_need_places "need_places" (defScope st_need_places) f cdv A out s H E).A (cxOf (L2.CX P w) P w K mg base N_need_places "need_places" (defScope st_need_places) f cdv A out s H E).env (cxOf (L2.CX P w) P w K mg base N_need_places "need_places" (defScope st_need_places) f cdv A out s H E).xe) : JSs (cxOf (L2.CX P w) P w K mg base N_need_places "need_places" (defScope st_need_places) f cdv A out s H E) ⟨cls, fldX⟩ (wE E) Γ (defBody st_need_places) S_need_places :=
  (js_cons (js_if (jt_w (jw_or (jt_not (jt_val (j_call h_are_ascending ok tk (jn_cons (j_v 0) jn_nil)))) (jw_or1 (jt_not (jt_chain .le .le ok (j_gint g.LEAST_PLACES) (j_len g.len (jn_cons (j_v 0) jn_nil)) (j_gint g.MOST_PLACES)))))) (js_cons (js_raise 0 ok tk x_BadPlaces.sup x_BadPlaces.at_ g.super (j_v 0))
  js_nil) js_nil)
  (js_cons (js_ret (j_v 0))
  js_nil))
abbrev st_is_lot : Stmt := top 13
def N_is_lot : List Str := ["places", "thing", "one"]
def S_is_lot : List S := [.ret (.and (.call 157 [.v 1]) (.bi .all [.lc [2] (.nm 2) (.v 1) (.k (.bl true)) (.cmp .inn (.v 2) (.v 0))]))]
theorem sc_is_lot : FnScope N_is_lot ["places", "thing"] (defScope st_is_lot) := ⟨rfl, rfl, rfl, by decide +kernel, rfl, by decide +kernel, by decide +kernel⟩
set_option maxHeartbeats 4000000 in
theorem b_is_lot {P : Program} {w : World} {K : PySem.W.Frag} {mg : Str → Option Value} {base : Heap} {cls : Nat → Addr} {k : Nat} {Γ : Fns} {f : Addr} {cdv : Value} {A : Around} {out : List Env} {s : Shared} {H : Hp} {E : XK} (g : G mg) (h_are_ascending : FnAt P w K mg base ⟨cls, fldX⟩ (k + 1) "are_ascending" ["thing"] (Γ 157))
    (ok : Okx (cxOf (L2.CX P w) P w K mg base N_is_lot "is_lot" (defScope st_is_lot) f cdv A out s H E) k) (tk : Takes (cxOf (L2.CX P w) P w K mg base N_is_lot "is_lot" (defScope st_is_lot) f cdv A out s H E) (wE E)) (hp : PassesOwn (model P w) (cxOf (L2.CX P w) P w K mg base N_is_lot "is_lot" (defScope st_is_lot) f cdv A out s H E).A (cxOf (L2.CX P w) P w K mg base N_is_lot "is_lot" (defScope st_is_lot) f cdv A out s H E).env (cxOf (L2.CX P w) P w K mg base N_is_lot "is_lot" (defScope st_is_lot) f cdv A out s H E).xe) : JSs (cxOf (L2.CX P w) P w K mg base N_is_lot "is_lot" (defScope st_is_lot) f cdv A out s H E) ⟨cls, fldX⟩ (wE E) Γ (defBody st_is_lot) S_is_lot :=
  (js_cons (js_ret (j_and (j_call h_are_ascending ok tk (jn_cons (j_v 1) jn_nil)) (j_one (j_all ok g.all (jn_cons (j_lc (own := [("one", 2)]) ok (blk_of (by kernel_rfl)) (ji_walk (j_v 1)) (fun _ _ _ _ _ => (jg_nm 2 ok.blk.nd)) (fun _ _ _ _ _ => jts_nil) (fun _ _ _ _ _ => (j_cmp .inn ok.blk (j_v 2) (j_v 0))) (by decide)) jn_nil)))))
  js_nil)
abbrev st_without : Stmt := top 14
def N_without : List Str := ["one", "other", "place"]
def S_without : List S := [.ret (.bi .tuple [.lc [2] (.nm 2) (.v 0) (.cmp .notin (.v 2) (.v 1)) (.v 2)])]
theorem sc_without : FnScope N_without ["one", "other"] (defScope st_without) := ⟨rfl, rfl, rfl, by decide +kernel, rfl, by decide +kernel, by decide +kernel⟩
set_option maxHeartbeats 4000000 in
theorem b_without {P : Program} {w : World} {K : PySem.W.Frag} {mg : Str → Option Value} {base : Heap} {cls : Nat → Addr} {k : Nat} {Γ : Fns} {f : Addr} {cdv : Value} {A : Around} {out : List Env} {s : Shared} {H : Hp} {E : XK} (g : G mg)
    (ok : Okx (cxOf (L2.CX P w) P w K mg base N_without "without" (defScope st_without) f cdv A out s H E) k) (tk : Takes (cxOf (L2.CX P w) P w K mg base N_without "without" (defScope st_without) f cdv A out s H E) (wE E)) (hp : PassesOwn (model P w) (cxOf (L2.CX P w) P w K mg base N_without "without" (defScope st_without) f cdv A out s H E).A (cxOf (L2.CX P w) P w K mg base N_without "without" (defScope st_without) f cdv A out s H E).env (cxOf (L2.CX P w) P w K mg base N_without "without" (defScope st_without) f cdv A out s H E).xe) : JSs (cxOf (L2.CX P w) P w K mg base N_without "without" (defScope st_without) f cdv A out s H E) ⟨cls, fldX⟩ (wE E) Γ (defBody st_without) S_without :=
  (js_cons (js_ret (j_totup g.tuple_ (jn_cons (j_lc (own := [("place", 2)]) ok (blk_of (by kernel_rfl)) (ji_walk (j_v 0)) (fun _ _ _ _ _ => (jg_nm 2 ok.blk.nd)) (fun _ _ _ _ _ => (jts_one (jt_cmp .notin ok.blk (j_v 2) (j_v 1)))) (fun _ _ _ _ _ => (j_v 2)) (by decide)) jn_nil)))
  js_nil)
abbrev st_lots_with : Stmt := top 15
def N_lots_with : List Str := ["places", "many", "found", "turn", "lot", "place"]
def S_lots_with : List S := [.asg (.nm 2) (.lst [.tup []]), .for_ (.nm 3) (.rng [.v 1]) [.asg (.nm 2) (.lc2 [4, 5] (.nm 4) (.v 2) [5] (.nm 5) (.v 0) (.or (.cmp .eq (.v 4) (.tup [])) (.cmp .gt (.v 5) (.ix (.v 4) (.neg (.k (.int 1)))))) (.tup [.star (.v 4), .v 5]))], .ret (.bi .tuple [.v 2])]
theorem sc_lots_with : FnScope N_lots_with ["places", "many"] (defScope st_lots_with) := ⟨rfl, rfl, rfl, by decide +kernel, rfl, by decide +kernel, by decide +kernel⟩
set_option maxHeartbeats 4000000 in
theorem b_lots_with {P : Program} {w : World} {K : PySem.W.Frag} {mg : Str → Option Value} {base : Heap} {cls : Nat → Addr} {k : Nat} {Γ : Fns} {f : Addr} {cdv : Value} {A : Around} {out : List Env} {s : Shared} {H : Hp} {E : XK} (g : G mg)
    (ok : Okx (cxOf (L2.CX P w) P w K mg base N_lots_with "lots_with" (defScope st_lots_with) f cdv A out s H E) k) (tk : Takes (cxOf (L2.CX P w) P w K mg base N_lots_with "lots_with" (defScope st_lots_with) f cdv A out s H E) (wE E)) (hp : PassesOwn (model P w) (cxOf (L2.CX P w) P w K mg base N_lots_with "lots_with" (defScope st_lots_with) f cdv A out s H E).A (cxOf (L2.CX P w) P w K mg base N_lots_with "lots_with" (defScope st_lots_with) f cdv A out s H E).env (cxOf (L2.CX P w) P w K mg base N_lots_with "lots_with" (defScope st_lots_with) f cdv A out s H E).xe) : JSs (cxOf (L2.CX P w) P w K mg base N_lots_with "lots_with" (defScope st_lots_with) f cdv A out s H E) ⟨cls, fldX⟩ (wE E) Γ (defBody st_lots_with) S_lots_with :=
  (js_cons (js_set 2 ok (j_lst (jl_cons (j_tup jl_nil) jl_nil)))
  (js_cons (js_for ok hp (ji_rng1 g.range (jl_cons (j_v 1) jl_nil)) (jg_nm 3 ok.nd) (js_cons (js_setLc2 2 (own := [("lot", 4), ("place", 5)]) (vs1 := [5]) ok (sw_true rfl rfl rfl rfl) (blk_of (by kernel_rfl)) (by decide) (ji_walk (j_v 2)) (fun _ _ _ _ _ => (jg_nm 4 ok.blk.nd)) (fun _ _ _ _ _ => (ji_walk (j_v 0))) (fun _ _ _ _ _ => (jg_nm 5 ok.blk.nd)) (fun _ _ _ _ _ => (jts_one (jt_w (jw_or (jt_cmp .eq ok.blk (j_v 4) (j_tup jl_nil)) (jw_or1 (jt_cmp .gt ok.blk (j_v 5) (j_ix (j_v 4) (j_neg j_int)))))))) (fun _ _ _ _ _ => (j_tup (jl_star (j_v 4) (jl_cons (j_v 5) jl_nil)))) (by decide) (by decide))
  js_nil))
  (js_cons (js_ret (j_totup g.tuple_ (jn_cons (j_v 2) jn_nil)))
  js_nil)))
abbrev st_threes : Stmt := top 16
def N_threes : List Str := ["places"]
def S_threes : List S := [.ret (.call 234 [.v 0, .k (.int 3)])]
theorem sc_threes : FnScope N_threes ["places"] (defScope st_threes) := ⟨rfl, rfl, rfl, by decide +kernel, rfl, by decide +kernel, by decide +kernel⟩
set_option maxHeartbeats 4000000 in
theorem b_threes {P : Program} {w : World} {K : PySem.W.Frag} {mg : Str → Option Value} {base : Heap} {cls : Nat → Addr} {k : Nat} {Γ : Fns} {f : Addr} {cdv : Value} {A : Around} {out : List Env} {s : Shared} {H : Hp} {E : XK} (g : G mg) (h_lots_with : FnAt P w K mg base ⟨cls, fldX⟩ (k + 1) "lots_with" ["places", "many"] (Γ 234))
    (ok : Okx (cxOf (L2.CX P w) P w K mg base N_threes "threes" (defScope st_threes) f cdv A out s H E) k) (tk : Takes (cxOf (L2.CX P w) P w K mg base N_threes "threes" (defScope st_threes) f cdv A out s H E) (wE E)) (hp : PassesOwn (model P w) (cxOf (L2.CX P w) P w K mg base N_threes "threes" (defScope st_threes) f cdv A out s H E).A (cxOf (L2.CX P w) P w K mg base N_threes "threes" (defScope st_threes) f cdv A out s H E).env (cxOf (L2.CX P w) P w K mg base N_threes "threes" (defScope st_threes) f cdv A out s H E).xe) : JSs (cxOf (L2.CX P w) P w K mg base N_threes "threes" (defScope st_threes) f cdv A out s H E) ⟨cls, fldX⟩ (wE E) Γ (defBody st_threes) S_threes :=
  (js_cons (js_ret (j_call h_lots_with ok tk (jn_cons (j_v 0) (jn_cons j_int jn_nil))))
  js_nil)
abbrev st_ways : Stmt := top 17
def N_ways : List Str := ["places"]
def S_ways : List S := [.ret (.call 234 [.v 0, .k (.int 2)])]
theorem sc_ways : FnScope N_ways ["places"] (defScope st_ways) := ⟨rfl, rfl, rfl, by decide +kernel, rfl, by decide +kernel, by decide +kernel⟩
set_option maxHeartbeats 4000000 in
theorem b_ways {P : Program} {w : World} {K : PySem.W.Frag} {mg : Str → Option Value} {base : Heap} {cls : Nat → Addr} {k : Nat} {Γ : Fns} {f : Addr} {cdv : Value} {A : Around} {out : List Env} {s : Shared} {H : Hp} {E : XK} (g : G mg) (h_lots_with : FnAt P w K mg base ⟨cls, fldX⟩ (k + 1) "lots_with" ["places", "many"] (Γ 234))
    (ok : Okx (cxOf (L2.CX P w) P w K mg base N_ways "ways" (defScope st_ways) f cdv A out s H E) k) (tk : Takes (cxOf (L2.CX P w) P w K mg base N_ways "ways" (defScope st_ways) f cdv A out s H E) (wE E)) (hp : PassesOwn (model P w) (cxOf (L2.CX P w) P w K mg base N_ways "ways" (defScope st_ways) f cdv A out s H E).A (cxOf (L2.CX P w) P w K mg base N_ways "ways" (defScope st_ways) f cdv A out s H E).env (cxOf (L2.CX P w) P w K mg base N_ways "ways" (defScope st_ways) f cdv A out s H E).xe) : JSs (cxOf (L2.CX P w) P w K mg base N_ways "ways" (defScope st_ways) f cdv A out s H E) ⟨cls, fldX⟩ (wE E) Γ (defBody st_ways) S_ways :=
  (js_cons (js_ret (j_call h_lots_with ok tk (jn_cons (j_v 0) (jn_cons j_int jn_nil))))
  js_nil)
abbrev st_rows_of : Stmt := top 18
def N_rows_of : List Str := ["places", "many", "found", "turn", "row", "place"]
def S_rows_of : List S := [.asg (.nm 2) (.lst [.tup []]), .for_ (.nm 3) (.rng [.v 1]) [.asg (.nm 2) (.lc2 [4, 5] (.nm 4) (.v 2) [5] (.nm 5) (.call 297 [.v 0, .v 4]) (.k (.bl true)) (.tup [.star (.v 4), .v 5]))], .ret (.v 2)]
theorem sc_rows_of : FnScope N_rows_of ["places", "many"] (defScope st_rows_of) := ⟨rfl, rfl, rfl, by decide +kernel, rfl, by decide +kernel, by decide +kernel⟩
set_option maxHeartbeats 4000000 in
theorem b_rows_of {P : Program} {w : World} {K : PySem.W.Frag} {mg : Str → Option Value} {base : Heap} {cls : Nat → Addr} {k : Nat} {Γ : Fns} {f : Addr} {cdv : Value} {A : Around} {out : List Env} {s : Shared} {H : Hp} {E : XK} (g : G mg) (h_without : FnAt P w K mg base ⟨cls, fldX⟩ (k + 1) "without" ["one", "other"] (Γ 297))
    (ok : Okx (cxOf (L2.CX P w) P w K mg base N_rows_of "rows_of" (defScope st_rows_of) f cdv A out s H E) k) (tk : Takes (cxOf (L2.CX P w) P w K mg base N_rows_of "rows_of" (defScope st_rows_of) f cdv A out s H E) (wE E)) (hp : PassesOwn (model P w) (cxOf (L2.CX P w) P w K mg base N_rows_of "rows_of" (defScope st_rows_of) f cdv A out s H E).A (cxOf (L2.CX P w) P w K mg base N_rows_of "rows_of" (defScope st_rows_of) f cdv A out s H E).env (cxOf (L2.CX P w) P w K mg base N_rows_of "rows_of" (defScope st_rows_of) f cdv A out s H E).xe) : JSs (cxOf (L2.CX P w) P w K mg base N_rows_of "rows_of" (defScope st_rows_of) f cdv A out s H E) ⟨cls, fldX⟩ (wE E) Γ (defBody st_rows_of) S_rows_of :=
  (js_cons (js_set 2 ok (j_lst (jl_cons (j_tup jl_nil) jl_nil)))
  (js_cons (js_for ok hp (ji_rng1 g.range (jl_cons (j_v 1) jl_nil)) (jg_nm 3 ok.nd) (js_cons (js_setLc2 2 (own := [("row", 4), ("place", 5)]) (vs1 := [5]) ok (sw_true rfl rfl rfl rfl) (blk_of (by kernel_rfl)) (by decide) (ji_walk (j_v 2)) (fun _ _ _ _ _ => (jg_nm 4 ok.blk.nd)) (fun _ _ _ _ _ => (ji_walk (j_call h_without ok.blk takes0 (jn_cons (j_v 0) (jn_cons (j_v 4) jn_nil))))) (fun _ _ _ _ _ => (jg_nm 5 ok.blk.nd)) (fun _ _ _ _ _ => jts_nil) (fun _ _ _ _ _ => (j_tup (jl_star (j_v 4) (jl_cons (j_v 5) jl_nil)))) (by decide) (by decide))
  js_nil))
  (js_cons (js_ret (j_v 2))
  js_nil)))
abbrev st_rules : Stmt := top 19
def N_rules : List Str := ["places", "found", "row"]
def S_rules : List S := [.asg (.nm 1) (.lc [2] (.nm 2) (.call 264 [.v 0, .k (.int 5)]) (.k (.bl true)) (.tup [.k (.str "round"), .star (.v 2)])), .ret (.bi .tuple [.bin .add (.v 1) (.lc [2] (.nm 2) (.call 264 [.v 0, .k (.int 4)]) (.and (.cmp .lt (.ix (.v 2) (.k (.int 1))) (.ix (.v 2) (.k (.int 2)))) (.cmp .lt (.ix (.v 2) (.k (.int 1))) (.ix (.v 2) (.k (.int 3))))) (.tup [.k (.str "within"), .star (.v 2)]))])]
theorem sc_rules : FnScope N_rules ["places"] (defScope st_rules) := ⟨rfl, rfl, rfl, by decide +kernel, rfl, by decide +kernel, by decide +kernel⟩
set_option maxHeartbeats 4000000 in
theorem b_rules {P : Program} {w : World} {K : PySem.W.Frag} {mg : Str → Option Value} {base : Heap} {cls : Nat → Addr} {k : Nat} {Γ : Fns} {f : Addr} {cdv : Value} {A : Around} {out : List Env} {s : Shared} {H : Hp} {E : XK} (g : G mg) (h_rows_of : FnAt P w K mg base ⟨cls, fldX⟩ (k + 1) "rows_of" ["places", "many"] (Γ 264))
    (ok : Okx (cxOf (L2.CX P w) P w K mg base N_rules "rules" (defScope st_rules) f cdv A out s H E) k) (tk : Takes (cxOf (L2.CX P w) P w K mg base N_rules "rules" (defScope st_rules) f cdv A out s H E) (wE E)) (hp : PassesOwn (model P w) (cxOf (L2.CX P w) P w K mg base N_rules "rules" (defScope st_rules) f cdv A out s H E).A (cxOf (L2.CX P w) P w K mg base N_rules "rules" (defScope st_rules) f cdv A out s H E).env (cxOf (L2.CX P w) P w K mg base N_rules "rules" (defScope st_rules) f cdv A out s H E).xe) : JSs (cxOf (L2.CX P w) P w K mg base N_rules "rules" (defScope st_rules) f cdv A out s H E) ⟨cls, fldX⟩ (wE E) Γ (defBody st_rules) S_rules :=
  (js_cons (js_setLc 1 (own := [("row", 2)]) ok (sw_true rfl rfl rfl rfl) (blk_of (by kernel_rfl)) (ji_walk (j_call h_rows_of ok tk (jn_cons (j_v 0) (jn_cons j_int jn_nil)))) (fun _ _ _ _ _ => (jg_nm 2 ok.blk.nd)) (fun _ _ _ _ _ => jts_nil) (fun _ _ _ _ _ => (j_tup (jl_cons (j_gstr g.ROUND) (jl_star (j_v 2) jl_nil)))) (by decide))
  (js_cons (js_ret (j_totup g.tuple_ (jn_cons (j_bin .add (j_v 1) (j_lc (own := [("row", 2)]) ok (blk_of (by kernel_rfl)) (ji_walk (j_call h_rows_of ok tk (jn_cons (j_v 0) (jn_cons j_int jn_nil)))) (fun _ _ _ _ _ => (jg_nm 2 ok.blk.nd)) (fun _ _ _ _ _ => (jts_one (jt_w (jw_and (jt_cmp .lt ok.blk (j_ix (j_v 2) j_int) (j_ix (j_v 2) j_int)) (jw_and1 (jt_cmp .lt ok.blk (j_ix (j_v 2) j_int) (j_ix (j_v 2) j_int))))))) (fun _ _ _ _ _ => (j_tup (jl_cons (j_gstr g.WITHIN) (jl_star (j_v 2) jl_nil)))) (by decide))) jn_nil)))
  js_nil))
abbrev st_law_names : Stmt := top 23
def N_law_names : List Str := ["_law_m", "_law_many", "_law_letters", "_law_stem", "_law_k", "_law_at", "_law_first", "_law_by", "_law_word"]
def S_law_names : List S := [.asg (.tup [(.nm 2), (.nm 3)]) (.tup [.k (.str "abcdefghijklmnopqrstuvwxyz"), .k (.str "")]), .for_ (.nm 4) (.rng [.call 90 [.v 0, .k (.int 8)]]) [.asg (.nm 3) (.bin .add (.v 3) (.ix (.v 2) (.call 90 [.v 0, .k (.int 26)])))], .asg (.tup [(.nm 5), (.nm 6), (.nm 7)]) (.tup [.call 90 [.v 0, .bin .add (.bi .len [.v 3]) (.k (.int 1))], .call 90 [.v 0, .k (.int 26)], .ix (.lst [.k (.int 1), .k (.int 3), .k (.int 5), .k (.int 7), .k (.int 9), .k (.int 11)]) (.call 90 [.v 0, .k (.int 6)])]), .asg (.nm 8) (.sl (.bin .add (.v 3) (.bin .mul (.ix (.v 2) (.v 6)) (.k (.int 8)))) (.nop) (.k (.int 8))), .ite (.and (.cmp .gt (.v 7) (.k (.int 5))) (.cmp .lt (.v 1) (.k (.int 9)))) [.ret (.lc [4] (.nm 4) (.rng [.v 1]) (.k (.bl true)) (.ite (.cmp .gt (.v 7) (.k (.int 7))) (.sl (.v 8) (.v 4) (.nop)) (.sl (.v 8) (.nop) (.bin .sub (.bin .add (.v 4) (.k (.int 9))) (.v 1)))))] [], .ret (.lc [4] (.nm 4) (.rng [.v 1]) (.k (.bl true)) (.bin .add (.bin .add (.sl (.v 3) (.nop) (.v 5)) (.ix (.v 2) (.bin .mod (.bi .int [.bin .add (.v 6) (.bin .mul (.v 7) (.v 4))]) (.k (.int 26))))) (.sl (.v 3) (.v 5) (.nop))))]
theorem sc_law_names : FnScope N_law_names ["_law_m", "_law_many"] (defScope st_law_names) := ⟨rfl, rfl, rfl, by decide +kernel, rfl, by decide +kernel, by decide +kernel⟩
set_option maxHeartbeats 4000000 in
theorem b_law_names {P : Program} {w : World} {K : PySem.W.Frag} {mg : Str → Option Value} {base : Heap} {cls : Nat → Addr} {k : Nat} {Γ : Fns} {f : Addr} {cdv : Value} {A : Around} {out : List Env} {s : Shared} {H : Hp} {E : XK} (g : G mg) (h__law_next : FnAt P w K mg base ⟨cls, fldX⟩ (k + 1) "_law_next" ["_law_m", "_law_many"] (Γ 90))
    (ok : Okx (cxOf (L2.CX P w) P w K mg base N_law_names "_law_names" (defScope st_law_names) f cdv A out s H E) k) (tk : Takes (cxOf (L2.CX P w) P w K mg base N_law_names "_law_names" (defScope st_law_names) f cdv A out s H E) (wE E)) (hp : PassesOwn (model P w) (cxOf (L2.CX P w) P w K mg base N_law_names "_law_names" (defScope st_law_names) f cdv A out s H E).A (cxOf (L2.CX P w) P w K mg base N_law_names "_law_names" (defScope st_law_names) f cdv A out s H E).env (cxOf (L2.CX P w) P w K mg base N_law_names "_law_names" (defScope st_law_names) f cdv A out s H E).xe) : JSs (cxOf (L2.CX P w) P w K mg base N_law_names "_law_names" (defScope st_law_names) f cdv A out s H E) ⟨cls, fldX⟩ (wE E) Γ (defBody st_law_names) S_law_names :=
  (js_cons (js_asg (j_tup (jl_cons j_str (jl_cons j_str jl_nil))) (jg_tup ok (jgs_cons (jg_nm 2 ok.nd) (jgs_cons (jg_nm 3 ok.nd) jgs_nil))))
  (js_cons (js_for ok hp (ji_rng1 g.range (jl_cons (j_call h__law_next ok tk (jn_cons (j_v 0) (jn_cons j_int jn_nil))) jl_nil)) (jg_nm 4 ok.nd) (js_cons (js_set 3 ok (j_bin .add (j_v 3) (j_ix (j_v 2) (j_call h__law_next ok tk (jn_cons (j_v 0) (jn_cons j_int jn_nil))))))
  js_nil))
  (js_cons (js_asg (j_tup (jl_cons (j_call h__law_next ok tk (jn_cons (j_v 0) (jn_cons (j_bin .add (j_len g.len (jn_cons (j_v 3) jn_nil)) j_int) jn_nil))) (jl_cons (j_call h__law_next ok tk (jn_cons (j_v 0) (jn_cons j_int jn_nil))) (jl_cons (j_ix (j_lst (jl_cons j_int (jl_cons j_int (jl_cons j_int (jl_cons j_int (jl_cons j_int (jl_cons j_int jl_nil))))))) (j_call h__law_next ok tk (jn_cons (j_v 0) (jn_cons j_int jn_nil)))) jl_nil)))) (jg_tup ok (jgs_cons (jg_nm 5 ok.nd) (jgs_cons (jg_nm 6 ok.nd) (jgs_cons (jg_nm 7 ok.nd) jgs_nil)))))
  (js_cons (js_set 8 ok (j_sl (j_bin .add (j_v 3) (j_bin .mul (j_ix (j_v 2) (j_v 6)) j_int)) jo_none (jo_some j_int)))
  (js_cons (js_if (jt_w (jw_and (jt_cmp .gt ok (j_v 7) j_int) (jw_and1 (jt_cmp .lt ok (j_v 1) j_int)))) (js_cons (js_ret (j_lc (own := [("_law_k", 4)]) ok (blk_of (by kernel_rfl)) (ji_rng1 g.range (jl_cons (j_v 1) jl_nil)) (fun _ _ _ _ _ => (jg_nm 4 ok.blk.nd)) (fun _ _ _ _ _ => jts_nil) (fun _ _ _ _ _ => (j_ite (jt_cmp .gt ok.blk (j_v 7) j_int) (j_sl (j_v 8) (jo_some (j_v 4)) jo_none) (j_sl (j_v 8) jo_none (jo_some (j_bin .sub (j_bin .add (j_v 4) j_int) (j_v 1)))))) (by decide)))
  js_nil) js_nil)
  (js_cons (js_ret (j_lc (own := [("_law_k", 4)]) ok (blk_of (by kernel_rfl)) (ji_rng1 g.range (jl_cons (j_v 1) jl_nil)) (fun _ _ _ _ _ => (jg_nm 4 ok.blk.nd)) (fun _ _ _ _ _ => jts_nil) (fun _ _ _ _ _ => (j_bin .add (j_bin .add (j_sl (j_v 3) jo_none (jo_some (j_v 5))) (j_ix (j_v 2) (j_bin .mod (j_toint g.int_ (jn_cons (j_bin .add (j_v 6) (j_bin .mul (j_v 7) (j_v 4))) jn_nil)) j_int))) (j_sl (j_v 3) (jo_some (j_v 5)) jo_none))) (by decide)))
  js_nil))))))
abbrev st_law_is_name : Stmt := top 25
def N_law_is_name : List Str := ["_law_thing", "_law_sign"]
def S_law_is_name : List S := [.ite (.or (.not (.isi (.v 0) [.str])) (.not (.chain .le .le (.k (.int 1)) (.bi .len [.v 0]) (.k (.int 8))))) [.ret (.k (.bl false))] [], .ret (.cmp .eq (.lc [1] (.nm 1) (.v 0) (.cmp .notin (.v 1) (.k (.str "abcdefghijklmnopqrstuvwxyz"))) (.v 1)) (.lst []))]
theorem sc_law_is_name : FnScope N_law_is_name ["_law_thing"] (defScope st_law_is_name) := ⟨rfl, rfl, rfl, by decide +kernel, rfl, by decide +kernel, by decide +kernel⟩
set_option maxHeartbeats 4000000 in
theorem b_law_is_name {P : Program} {w : World} {K : PySem.W.Frag} {mg : Str → Option Value} {base : Heap} {cls : Nat → Addr} {k : Nat} {Γ : Fns} {f : Addr} {cdv : Value} {A : Around} {out : List Env} {s : Shared} {H : Hp} {E : XK} (g : G mg)
    (ok : Okx (cxOf (L2.CX P w) P w K mg base N_law_is_name "_law_is_name" (defScope st_law_is_name) f cdv A out s H E) k) (tk : Takes (cxOf (L2.CX P w) P w K mg base N_law_is_name "_law_is_name" (defScope st_law_is_name) f cdv A out s H E) (wE E)) (hp : PassesOwn (model P w) (cxOf (L2.CX P w) P w K mg base N_law_is_name "_law_is_name" (defScope st_law_is_name) f cdv A out s H E).A (cxOf (L2.CX P w) P w K mg base N_law_is_name "_law_is_name" (defScope st_law_is_name) f cdv A out s H E).env (cxOf (L2.CX P w) P w K mg base N_law_is_name "_law_is_name" (defScope st_law_is_name) f cdv A out s H E).xe) : JSs (cxOf (L2.CX P w) P w K mg base N_law_is_name "_law_is_name" (defScope st_law_is_name) f cdv A out s H E) ⟨cls, fldX⟩ (wE E) Γ (defBody st_law_is_name) S_law_is_name :=
  (js_cons (js_if (jt_w (jw_or (jt_not (jt_val (j_isi .str g.isinstance g.str_ boot_str' (j_v 0)))) (jw_or1 (jt_not (jt_chain .le .le ok j_int (j_len g.len (jn_cons (j_v 0) jn_nil)) j_int))))) (js_cons (js_ret j_bl)
  js_nil) js_nil)
  (js_cons (js_ret (j_cmp .eq ok (j_lc (own := [("_law_sign", 1)]) ok (blk_of (by kernel_rfl)) (ji_walk (j_v 0)) (fun _ _ _ _ _ => (jg_nm 1 ok.blk.nd)) (fun _ _ _ _ _ => (jts_one (jt_cmp .notin ok.blk (j_v 1) j_str))) (fun _ _ _ _ _ => (j_v 1)) (by decide)) (j_lst jl_nil)))
  js_nil))
abbrev st_law_odd : Stmt := top 26
def N_law_odd : List Str := ["_law_m", "_law_some"]
def S_law_odd : List S := [.asg (.nm 1) (.lst [.k .non, .k (.int 0), .k (.int 1), .k (.int 2), .k (.int 9), .neg (.k (.int 1)), .k (.int 10), .neg (.k (.int 10)), .k (.bl true), .k (.bl false), .k (.str ""), .k (.str "a"), .k (.str "abcdefghi"), .k (.str "A"), .k (.str "all"), .k (.str "not"), .tup [], .tup [.tup []], .tup [.k (.str "a"), .k (.int 0)]]), .asg (.nm 1) (.bin .add (.v 1) (.lst [.lst [], .dct0, .bin .pow (.k (.int 10)) (.k (.int 30)), .tup [.k (.str "all"), .tup []], .tup [.k (.str "left"), .k (.str "a")], .k (.str "a1"), .tup [.k .non], .tup [.k (.int 0)], .tup [.k (.str "a")], .tup [.k (.str "a"), .k (.str "b"), .k (.str "c")]])), .ret (.ix (.v 1) (.call 90 [.v 0, .k (.int 29)]))]
theorem sc_law_odd : FnScope N_law_odd ["_law_m"] (defScope st_law_odd) := ⟨rfl, rfl, rfl, by decide +kernel, rfl, by decide +kernel, by decide +kernel⟩
set_option maxHeartbeats 4000000 in
theorem b_law_odd {P : Program} {w : World} {K : PySem.W.Frag} {mg : Str → Option Value} {base : Heap} {cls : Nat → Addr} {k : Nat} {Γ : Fns} {f : Addr} {cdv : Value} {A : Around} {out : List Env} {s : Shared} {H : Hp} {E : XK} (g : G mg) (h__law_next : FnAt P w K mg base ⟨cls, fldX⟩ (k + 1) "_law_next" ["_law_m", "_law_many"] (Γ 90))
    (ok : Okx (cxOf (L2.CX P w) P w K mg base N_law_odd "_law_odd" (defScope st_law_odd) f cdv A out s H E) k) (tk : Takes (cxOf (L2.CX P w) P w K mg base N_law_odd "_law_odd" (defScope st_law_odd) f cdv A out s H E) (wE E)) (hp : PassesOwn (model P w) (cxOf (L2.CX P w) P w K mg base N_law_odd "_law_odd" (defScope st_law_odd) f cdv A out s H E).A (cxOf (L2.CX P w) P w K mg base N_law_odd "_law_odd" (defScope st_law_odd) f cdv A out s H E).env (cxOf (L2.CX P w) P w K mg base N_law_odd "_law_odd" (defScope st_law_odd) f cdv A out s H E).xe) : JSs (cxOf (L2.CX P w) P w K mg base N_law_odd "_law_odd" (defScope st_law_odd) f cdv A out s H E) ⟨cls, fldX⟩ (wE E) Γ (defBody st_law_odd) S_law_odd :=
  (js_cons (js_set 1 ok (j_lst (jl_cons j_non (jl_cons j_int (jl_cons j_int (jl_cons j_int (jl_cons j_int (jl_cons (j_neg j_int) (jl_cons j_int (jl_cons (j_neg j_int) (jl_cons j_bl (jl_cons j_bl (jl_cons j_str (jl_cons j_str (jl_cons j_str (jl_cons j_str (jl_cons j_str (jl_cons j_str (jl_cons (j_tup jl_nil) (jl_cons (j_tup (jl_cons (j_tup jl_nil) jl_nil)) (jl_cons (j_tup (jl_cons j_str (jl_cons j_int jl_nil))) jl_nil)))))))))))))))))))))
  (js_cons (js_set 1 ok (j_bin .add (j_v 1) (j_lst (jl_cons (j_lst jl_nil) (jl_cons j_dct0 (jl_cons (j_bin .pow j_int j_int) (jl_cons (j_tup (jl_cons j_str (jl_cons (j_tup jl_nil) jl_nil))) (jl_cons (j_tup (jl_cons j_str (jl_cons j_str jl_nil))) (jl_cons j_str (jl_cons (j_tup (jl_cons j_non jl_nil)) (jl_cons (j_tup (jl_cons j_int jl_nil)) (jl_cons (j_tup (jl_cons j_str jl_nil)) (jl_cons (j_tup (jl_cons j_str (jl_cons j_str (jl_cons j_str jl_nil)))) jl_nil)))))))))))))
  (js_cons (js_ret (j_ix (j_v 1) (j_call h__law_next ok tk (jn_cons (j_v 0) (jn_cons j_int jn_nil)))))
  js_nil)))
abbrev st_law_bent : Stmt := top 27
def N_law_bent : List Str := ["_law_m", "_law_thing", "_law_at", "_law_pick"]
def S_law_bent : List S := [.ite (.and (.isi (.v 1) [.str]) (.cmp .eq (.call 90 [.v 0, .k (.int 2)]) (.k (.int 0)))) [.ret (.ix (.lst [.bin .add (.v 1) (.k (.str "b")), .sl (.v 1) (.k (.int 1)) (.nop), .bin .add (.v 1) (.k (.str "A")), .bin .add (.v 1) (.k (.str " ")), .bin .mul (.v 1) (.k (.int 2)), .bin .add (.v 1) (.k (.str "1"))]) (.call 90 [.v 0, .k (.int 6)]))] [], .ite (.and (.isi (.v 1) [.int]) (.and (.not (.isi (.v 1) [.bool])) (.cmp .eq (.call 90 [.v 0, .k (.int 2)]) (.k (.int 0))))) [.ret (.bin .add (.v 1) (.ix (.lst [.k (.int 1), .neg (.k (.int 1)), .k (.int 2), .neg (.k (.int 2)), .k (.int 10), .neg (.k (.int 10))]) (.call 90 [.v 0, .k (.int 6)])))] [], .ite (.or (.not (.isi (.v 1) [.tuple])) (.or (.cmp .eq (.v 1) (.tup [])) (.cmp .eq (.call 90 [.v 0, .k (.int 6)]) (.k (.int 0))))) [.ret (.call 93 [.v 0])] [], .par [2, 3] [.call 90 [.v 0, .bi .len [.v 1]], .call 90 [.v 0, .k (.int 11)]], .ite (.cmp .eq (.v 3) (.k (.int 0))) [.ret (.bin .add (.sl (.v 1) (.nop) (.v 2)) (.sl (.v 1) (.bin .add (.v 2) (.k (.int 1))) (.nop)))] [], .ite (.cmp .eq (.v 3) (.k (.int 1))) [.ret (.bin .add (.v 1) (.sl (.v 1) (.v 2) (.bin .add (.v 2) (.k (.int 1)))))] [], .ite (.cmp .eq (.v 3) (.k (.int 2))) [.ret (.bi .list [.v 1])] [], .ite (.cmp .eq (.v 3) (.k (.int 3))) [.ret (.bin .add (.bin .add (.sl (.v 1) (.nop) (.v 2)) (.tup [.call 93 [.v 0]])) (.sl (.v 1) (.v 2) (.nop)))] [], .ite (.cmp .eq (.v 3) (.k (.int 4))) [.ret (.slr (.v 1) (.nop) (.nop))] [], .ret (.bin .add (.bin .add (.sl (.v 1) (.nop) (.v 2)) (.tup [.call 7 [.v 0, .ix (.v 1) (.v 2)]])) (.sl (.v 1) (.bin .add (.v 2) (.k (.int 1))) (.nop)))]
theorem sc_law_bent : FnScope N_law_bent ["_law_m", "_law_thing"] (defScope st_law_bent) := ⟨rfl, rfl, rfl, by decide +kernel, rfl, by decide +kernel, by decide +kernel⟩
set_option maxHeartbeats 4000000 in
theorem b_law_bent {P : Program} {w : World} {K : PySem.W.Frag} {mg : Str → Option Value} {base : Heap} {cls : Nat → Addr} {k : Nat} {Γ : Fns} {f : Addr} {cdv : Value} {A : Around} {out : List Env} {s : Shared} {H : Hp} {E : XK} (g : G mg) (h__law_next : FnAt P w K mg base ⟨cls, fldX⟩ (k + 1) "_law_next" ["_law_m", "_law_many"] (Γ 90)) (h__law_odd : FnAt P w K mg base ⟨cls, fldX⟩ (k + 1) "_law_odd" ["_law_m"] (Γ 93)) (h__law_bent : FnAt P w K mg base ⟨cls, fldX⟩ (k + 1) "_law_bent" ["_law_m", "_law_thing"] (Γ 7))
    (ok : Okx (cxOf (L2.CX P w) P w K mg base N_law_bent "_law_bent" (defScope st_law_bent) f cdv A out s H E) k) (tk : Takes (cxOf (L2.CX P w) P w K mg base N_law_bent "_law_bent" (defScope st_law_bent) f cdv A out s H E) (wE E)) (hp : PassesOwn (model P w) (cxOf (L2.CX P w) P w K mg base N_law_bent "_law_bent" (defScope st_law_bent) f cdv A out s H E).A (cxOf (L2.CX P w) P w K mg base N_law_bent "_law_bent" (defScope st_law_bent) f cdv A out s H E).env (cxOf (L2.CX P w) P w K mg base N_law_bent "_law_bent" (defScope st_law_bent) f cdv A out s H E).xe) : JSs (cxOf (L2.CX P w) P w K mg base N_law_bent "_law_bent" (defScope st_law_bent) f cdv A out s H E) ⟨cls, fldX⟩ (wE E) Γ (defBody st_law_bent) S_law_bent :=
  (js_cons (js_if (jt_w (jw_and (jt_val (j_isi .str g.isinstance g.str_ boot_str' (j_v 1))) (jw_and1 (jt_cmp .eq ok (j_call h__law_next ok tk (jn_cons (j_v 0) (jn_cons j_int jn_nil))) j_int)))) (js_cons (js_ret (j_ix (j_lst (jl_cons (j_bin .add (j_v 1) j_str) (jl_cons (j_sl (j_v 1) (jo_some j_int) jo_none) (jl_cons (j_bin .add (j_v 1) j_str) (jl_cons (j_bin .add (j_v 1) j_str) (jl_cons (j_bin .mul (j_v 1) j_int) (jl_cons (j_bin .add (j_v 1) j_str) jl_nil))))))) (j_call h__law_next ok tk (jn_cons (j_v 0) (jn_cons j_int jn_nil)))))
  js_nil) js_nil)
  (js_cons (js_if (jt_w (jw_and (jt_val (j_isi .int g.isinstance g.int_ boot_int' (j_v 1))) (jw_and (jt_not (jt_val (j_isi .bool g.isinstance g.bool_ boot_bool' (j_v 1)))) (jw_and1 (jt_cmp .eq ok (j_call h__law_next ok tk (jn_cons (j_v 0) (jn_cons j_int jn_nil))) j_int))))) (js_cons (js_ret (j_bin .add (j_v 1) (j_ix (j_lst (jl_cons j_int (jl_cons (j_neg j_int) (jl_cons j_int (jl_cons (j_neg j_int) (jl_cons j_int (jl_cons (j_neg j_int) jl_nil))))))) (j_call h__law_next ok tk (jn_cons (j_v 0) (jn_cons j_int jn_nil))))))
  js_nil) js_nil)
  (js_cons (js_if (jt_w (jw_or (jt_not (jt_val (j_isi .tuple g.isinstance g.tuple_ boot_tup' (j_v 1)))) (jw_or (jt_cmp .eq ok (j_v 1) (j_tup jl_nil)) (jw_or1 (jt_cmp .eq ok (j_call h__law_next ok tk (jn_cons (j_v 0) (jn_cons j_int jn_nil))) j_int))))) (js_cons (js_ret (j_call h__law_odd ok tk (jn_cons (j_v 0) jn_nil)))
  js_nil) js_nil)
  (js_cons (js_par2 2 3 ok (jn_cons (j_call h__law_next ok tk (jn_cons (j_v 0) (jn_cons (j_len g.len (jn_cons (j_v 1) jn_nil)) jn_nil))) (jn_cons (j_call h__law_next ok tk (jn_cons (j_v 0) (jn_cons j_int jn_nil))) jn_nil)))
  (js_cons (js_if (jt_cmp .eq ok (j_v 3) j_int) (js_cons (js_ret (j_bin .add (j_sl (j_v 1) jo_none (jo_some (j_v 2))) (j_sl (j_v 1) (jo_some (j_bin .add (j_v 2) j_int)) jo_none)))
  js_nil) js_nil)
  (js_cons (js_if (jt_cmp .eq ok (j_v 3) j_int) (js_cons (js_ret (j_bin .add (j_v 1) (j_sl (j_v 1) (jo_some (j_v 2)) (jo_some (j_bin .add (j_v 2) j_int)))))
  js_nil) js_nil)
  (js_cons (js_if (jt_cmp .eq ok (j_v 3) j_int) (js_cons (js_ret (j_tolst g.list_ (jn_cons (j_v 1) jn_nil)))
  js_nil) js_nil)
  (js_cons (js_if (jt_cmp .eq ok (j_v 3) j_int) (js_cons (js_ret (j_bin .add (j_bin .add (j_sl (j_v 1) jo_none (jo_some (j_v 2))) (j_tup (jl_cons (j_call h__law_odd ok tk (jn_cons (j_v 0) jn_nil)) jl_nil))) (j_sl (j_v 1) (jo_some (j_v 2)) jo_none)))
  js_nil) js_nil)
  (js_cons (js_if (jt_cmp .eq ok (j_v 3) j_int) (js_cons (js_ret (j_slr (j_v 1) jo_none jo_none))
  js_nil) js_nil)
  (js_cons (js_ret (j_bin .add (j_bin .add (j_sl (j_v 1) jo_none (jo_some (j_v 2))) (j_tup (jl_cons (j_call h__law_bent ok tk (jn_cons (j_v 0) (jn_cons (j_ix (j_v 1) (j_v 2)) jn_nil))) jl_nil))) (j_sl (j_v 1) (jo_some (j_bin .add (j_v 2) j_int)) jo_none)))
  js_nil))))))))))
abbrev st_law_lots : Stmt := top 28
def N_law_lots : List Str := ["_law_many", "_law_rows_here", "_law_one", "_law_row"]
def S_law_lots : List S := [.asg (.nm 1) (.lst [.tup []]), .for_ (.nm 2) (.v 0) [.asg (.nm 1) (.bin .add (.v 1) (.lc [3] (.nm 3) (.v 1) (.k (.bl true)) (.bin .add (.v 3) (.tup [.v 2]))))], .ret (.bi .sorted [.v 1])]
theorem sc_law_lots : FnScope N_law_lots ["_law_many"] (defScope st_law_lots) := ⟨rfl, rfl, rfl, by decide +kernel, rfl, by decide +kernel, by decide +kernel⟩
set_option maxHeartbeats 4000000 in
theorem b_law_lots {P : Program} {w : World} {K : PySem.W.Frag} {mg : Str → Option Value} {base : Heap} {cls : Nat → Addr} {k : Nat} {Γ : Fns} {f : Addr} {cdv : Value} {A : Around} {out : List Env} {s : Shared} {H : Hp} {E : XK} (g : G mg)
    (ok : Okx (cxOf (L2.CX P w) P w K mg base N_law_lots "_law_lots" (defScope st_law_lots) f cdv A out s H E) k) (tk : Takes (cxOf (L2.CX P w) P w K mg base N_law_lots "_law_lots" (defScope st_law_lots) f cdv A out s H E) (wE E)) (hp : PassesOwn (model P w) (cxOf (L2.CX P w) P w K mg base N_law_lots "_law_lots" (defScope st_law_lots) f cdv A out s H E).A (cxOf (L2.CX P w) P w K mg base N_law_lots "_law_lots" (defScope st_law_lots) f cdv A out s H E).env (cxOf (L2.CX P w) P w K mg base N_law_lots "_law_lots" (defScope st_law_lots) f cdv A out s H E).xe) : JSs (cxOf (L2.CX P w) P w K mg base N_law_lots "_law_lots" (defScope st_law_lots) f cdv A out s H E) ⟨cls, fldX⟩ (wE E) Γ (defBody st_law_lots) S_law_lots :=
  (js_cons (js_set 1 ok (j_lst (jl_cons (j_tup jl_nil) jl_nil)))
  (js_cons (js_for ok hp (ji_walk (j_v 0)) (jg_nm 2 ok.nd) (js_cons (js_set 1 ok (j_bin .add (j_v 1) (j_lc (own := [("_law_row", 3)]) ok (blk_of (by kernel_rfl)) (ji_walk (j_v 1)) (fun _ _ _ _ _ => (jg_nm 3 ok.blk.nd)) (fun _ _ _ _ _ => jts_nil) (fun _ _ _ _ _ => (j_bin .add (j_v 3) (j_tup (jl_cons (j_v 2) jl_nil)))) (by decide))))
  js_nil))
  (js_cons (js_ret (j_sorted ok g.sorted (jn_cons (j_v 1) jn_nil)))
  js_nil)))
abbrev st_law_threes : Stmt := top 29
def N_law_threes : List Str := ["_law_many", "_law_lot"]
def S_law_threes : List S := [.ret (.lc [1] (.nm 1) (.call 78 [.v 0]) (.cmp .eq (.bi .len [.v 1]) (.k (.int 3))) (.v 1))]
theorem sc_law_threes : FnScope N_law_threes ["_law_many"] (defScope st_law_threes) := ⟨rfl, rfl, rfl, by decide +kernel, rfl, by decide +kernel, by decide +kernel⟩
set_option maxHeartbeats 4000000 in
theorem b_law_threes {P : Program} {w : World} {K : PySem.W.Frag} {mg : Str → Option Value} {base : Heap} {cls : Nat → Addr} {k : Nat} {Γ : Fns} {f : Addr} {cdv : Value} {A : Around} {out : List Env} {s : Shared} {H : Hp} {E : XK} (g : G mg) (h__law_lots : FnAt P w K mg base ⟨cls, fldX⟩ (k + 1) "_law_lots" ["_law_many"] (Γ 78))
    (ok : Okx (cxOf (L2.CX P w) P w K mg base N_law_threes "_law_threes" (defScope st_law_threes) f cdv A out s H E) k) (tk : Takes (cxOf (L2.CX P w) P w K mg base N_law_threes "_law_threes" (defScope st_law_threes) f cdv A out s H E) (wE E)) (hp : PassesOwn (model P w) (cxOf (L2.CX P w) P w K mg base N_law_threes "_law_threes" (defScope st_law_threes) f cdv A out s H E).A (cxOf (L2.CX P w) P w K mg base N_law_threes "_law_threes" (defScope st_law_threes) f cdv A out s H E).env (cxOf (L2.CX P w) P w K mg base N_law_threes "_law_threes" (defScope st_law_threes) f cdv A out s H E).xe) : JSs (cxOf (L2.CX P w) P w K mg base N_law_threes "_law_threes" (defScope st_law_threes) f cdv A out s H E) ⟨cls, fldX⟩ (wE E) Γ (defBody st_law_threes) S_law_threes :=
  (js_cons (js_ret (j_lc (own := [("_law_lot", 1)]) ok (blk_of (by kernel_rfl)) (ji_walk (j_call h__law_lots ok tk (jn_cons (j_v 0) jn_nil))) (fun _ _ _ _ _ => (jg_nm 1 ok.blk.nd)) (fun _ _ _ _ _ => (jts_one (jt_cmp .eq ok.blk (j_len g.len (jn_cons (j_v 1) jn_nil)) j_int))) (fun _ _ _ _ _ => (j_v 1)) (by decide)))
  js_nil)
abbrev st_law_words : Stmt := top 30
def N_law_words : List Str := ["_law_m", "_law_most"]
def S_law_words : List S := [.ret (.bi .tuple [.bi .sorted [.call 86 [.v 0, .bin .add (.k (.int 3)) (.call 90 [.v 0, .bin .sub (.v 1) (.k (.int 2))])]]])]
theorem sc_law_words : FnScope N_law_words ["_law_m", "_law_most"] (defScope st_law_words) := ⟨rfl, rfl, rfl, by decide +kernel, rfl, by decide +kernel, by decide +kernel⟩
set_option maxHeartbeats 4000000 in
theorem b_law_words {P : Program} {w : World} {K : PySem.W.Frag} {mg : Str → Option Value} {base : Heap} {cls : Nat → Addr} {k : Nat} {Γ : Fns} {f : Addr} {cdv : Value} {A : Around} {out : List Env} {s : Shared} {H : Hp} {E : XK} (g : G mg) (h__law_names : FnAt P w K mg base ⟨cls, fldX⟩ (k + 1) "_law_names" ["_law_m", "_law_many"] (Γ 86)) (h__law_next : FnAt P w K mg base ⟨cls, fldX⟩ (k + 1) "_law_next" ["_law_m", "_law_many"] (Γ 90))
    (ok : Okx (cxOf (L2.CX P w) P w K mg base N_law_words "_law_words" (defScope st_law_words) f cdv A out s H E) k) (tk : Takes (cxOf (L2.CX P w) P w K mg base N_law_words "_law_words" (defScope st_law_words) f cdv A out s H E) (wE E)) (hp : PassesOwn (model P w) (cxOf (L2.CX P w) P w K mg base N_law_words "_law_words" (defScope st_law_words) f cdv A out s H E).A (cxOf (L2.CX P w) P w K mg base N_law_words "_law_words" (defScope st_law_words) f cdv A out s H E).env (cxOf (L2.CX P w) P w K mg base N_law_words "_law_words" (defScope st_law_words) f cdv A out s H E).xe) : JSs (cxOf (L2.CX P w) P w K mg base N_law_words "_law_words" (defScope st_law_words) f cdv A out s H E) ⟨cls, fldX⟩ (wE E) Γ (defBody st_law_words) S_law_words :=
  (js_cons (js_ret (j_totup g.tuple_ (jn_cons (j_sorted ok g.sorted (jn_cons (j_call h__law_names ok tk (jn_cons (j_v 0) (jn_cons (j_bin .add j_int (j_call h__law_next ok tk (jn_cons (j_v 0) (jn_cons (j_bin .sub (j_v 1) j_int) jn_nil)))) jn_nil))) jn_nil)) jn_nil)))
  js_nil)
abbrev st_law_rows : Stmt := top 33
def N_law_rows : List Str := ["_law_many", "_law_size", "_law_rows_here", "_law_k", "_law_longer", "_law_row", "_law_one"]
def S_law_rows : List S := [.asg (.nm 2) (.lst [.tup []]), .for_ (.nm 3) (.rng [.v 1]) [.asg (.nm 4) (.lst []), .for_ (.nm 5) (.v 2) [.asg (.nm 4) (.bin .add (.v 4) (.lc [6] (.nm 6) (.v 0) (.cmp .notin (.v 6) (.v 5)) (.bin .add (.v 5) (.tup [.v 6]))))], .asg (.nm 2) (.v 4)], .ret (.v 2)]
theorem sc_law_rows : FnScope N_law_rows ["_law_many", "_law_size"] (defScope st_law_rows) := ⟨rfl, rfl, rfl, by decide +kernel, rfl, by decide +kernel, by decide +kernel⟩
set_option maxHeartbeats 4000000 in
theorem b_law_rows {P : Program} {w : World} {K : PySem.W.Frag} {mg : Str → Option Value} {base : Heap} {cls : Nat → Addr} {k : Nat} {Γ : Fns} {f : Addr} {cdv : Value} {A : Around} {out : List Env} {s : Shared} {H : Hp} {E : XK} (g : G mg)
    (ok : Okx (cxOf (L2.CX P w) P w K mg base N_law_rows "_law_rows" (defScope st_law_rows) f cdv A out s H E) k) (tk : Takes (cxOf (L2.CX P w) P w K mg base N_law_rows "_law_rows" (defScope st_law_rows) f cdv A out s H E) (wE E)) (hp : PassesOwn (model P w) (cxOf (L2.CX P w) P w K mg base N_law_rows "_law_rows" (defScope st_law_rows) f cdv A out s H E).A (cxOf (L2.CX P w) P w K mg base N_law_rows "_law_rows" (defScope st_law_rows) f cdv A out s H E).env (cxOf (L2.CX P w) P w K mg base N_law_rows "_law_rows" (defScope st_law_rows) f cdv A out s H E).xe) : JSs (cxOf (L2.CX P w) P w K mg base N_law_rows "_law_rows" (defScope st_law_rows) f cdv A out s H E) ⟨cls, fldX⟩ (wE E) Γ (defBody st_law_rows) S_law_rows :=
  (js_cons (js_set 2 ok (j_lst (jl_cons (j_tup jl_nil) jl_nil)))
  (js_cons (js_for ok hp (ji_rng1 g.range (jl_cons (j_v 1) jl_nil)) (jg_nm 3 ok.nd) (js_cons (js_set 4 ok (j_lst jl_nil))
  (js_cons (js_for ok hp (ji_walk (j_v 2)) (jg_nm 5 ok.nd) (js_cons (js_set 4 ok (j_bin .add (j_v 4) (j_lc (own := [("_law_one", 6)]) ok (blk_of (by kernel_rfl)) (ji_walk (j_v 0)) (fun _ _ _ _ _ => (jg_nm 6 ok.blk.nd)) (fun _ _ _ _ _ => (jts_one (jt_cmp .notin ok.blk (j_v 6) (j_v 5)))) (fun _ _ _ _ _ => (j_bin .add (j_v 5) (j_tup (jl_cons (j_v 6) jl_nil)))) (by decide))))
  js_nil))
  (js_cons (js_set 2 ok (j_v 4))
  js_nil))))
  (js_cons (js_ret (j_v 2))
  js_nil)))
abbrev st_law_rules : Stmt := top 34
def N_law_rules : List Str := ["_law_many", "_law_found", "_law_row"]
def S_law_rules : List S := [.asg (.nm 1) (.lc [2] (.nm 2) (.call 117 [.v 0, .k (.int 5)]) (.k (.bl true)) (.bin .add (.tup [.k (.str "round")]) (.v 2))), .ret (.bin .add (.v 1) (.lc [2] (.nm 2) (.call 117 [.v 0, .k (.int 4)]) (.cmp .lt (.ix (.v 2) (.k (.int 1))) (.bi .min [.ix (.v 2) (.k (.int 2)), .ix (.v 2) (.k (.int 3))])) (.bin .add (.tup [.k (.str "within")]) (.v 2))))]
theorem sc_law_rules : FnScope N_law_rules ["_law_many"] (defScope st_law_rules) := ⟨rfl, rfl, rfl, by decide +kernel, rfl, by decide +kernel, by decide +kernel⟩
set_option maxHeartbeats 4000000 in
theorem b_law_rules {P : Program} {w : World} {K : PySem.W.Frag} {mg : Str → Option Value} {base : Heap} {cls : Nat → Addr} {k : Nat} {Γ : Fns} {f : Addr} {cdv : Value} {A : Around} {out : List Env} {s : Shared} {H : Hp} {E : XK} (g : G mg) (h__law_rows : FnAt P w K mg base ⟨cls, fldX⟩ (k + 1) "_law_rows" ["_law_many", "_law_size"] (Γ 117))
    (ok : Okx (cxOf (L2.CX P w) P w K mg base N_law_rules "_law_rules" (defScope st_law_rules) f cdv A out s H E) k) (tk : Takes (cxOf (L2.CX P w) P w K mg base N_law_rules "_law_rules" (defScope st_law_rules) f cdv A out s H E) (wE E)) (hp : PassesOwn (model P w) (cxOf (L2.CX P w) P w K mg base N_law_rules "_law_rules" (defScope st_law_rules) f cdv A out s H E).A (cxOf (L2.CX P w) P w K mg base N_law_rules "_law_rules" (defScope st_law_rules) f cdv A out s H E).env (cxOf (L2.CX P w) P w K mg base N_law_rules "_law_rules" (defScope st_law_rules) f cdv A out s H E).xe) : JSs (cxOf (L2.CX P w) P w K mg base N_law_rules "_law_rules" (defScope st_law_rules) f cdv A out s H E) ⟨cls, fldX⟩ (wE E) Γ (defBody st_law_rules) S_law_rules :=
  (js_cons (js_setLc 1 (own := [("_law_row", 2)]) ok (sw_true rfl rfl rfl rfl) (blk_of (by kernel_rfl)) (ji_walk (j_call h__law_rows ok tk (jn_cons (j_v 0) (jn_cons j_int jn_nil)))) (fun _ _ _ _ _ => (jg_nm 2 ok.blk.nd)) (fun _ _ _ _ _ => jts_nil) (fun _ _ _ _ _ => (j_bin .add (j_tup (jl_cons j_str jl_nil)) (j_v 2))) (by decide))
  (js_cons (js_ret (j_bin .add (j_v 1) (j_lc (own := [("_law_row", 2)]) ok (blk_of (by kernel_rfl)) (ji_walk (j_call h__law_rows ok tk (jn_cons (j_v 0) (jn_cons j_int jn_nil)))) (fun _ _ _ _ _ => (jg_nm 2 ok.blk.nd)) (fun _ _ _ _ _ => (jts_one (jt_cmp .lt ok.blk (j_ix (j_v 2) j_int) (j_min ok.blk g.min (jn_cons (j_ix (j_v 2) j_int) (jn_cons (j_ix (j_v 2) j_int) jn_nil)))))) (fun _ _ _ _ _ => (j_bin .add (j_tup (jl_cons j_str jl_nil)) (j_v 2))) (by decide))))
  js_nil))
abbrev st_law_are_ascending : Stmt := top 37
def N_law_are_ascending : List Str := ["_law_thing", "_law_one", "_law_other"]
def S_law_are_ascending : List S := [.ite (.or (.not (.isi (.v 0) [.tuple])) (.cmp .ne (.lc [1] (.nm 1) (.v 0) (.not (.call 56 [.v 1])) (.v 1)) (.lst []))) [.ret (.k (.bl false))] [], .ret (.cmp .eq (.lc [1, 2] (.tup [(.nm 1), (.nm 2)]) (.zip [.v 0, .sl (.v 0) (.k (.int 1)) (.nop)]) (.not (.cmp .lt (.v 1) (.v 2))) (.k (.int 1))) (.lst []))]
theorem sc_law_are_ascending : FnScope N_law_are_ascending ["_law_thing"] (defScope st_law_are_ascending) := ⟨rfl, rfl, rfl, by decide +kernel, rfl, by decide +kernel, by decide +kernel⟩
set_option maxHeartbeats 4000000 in
theorem b_law_are_ascending {P : Program} {w : World} {K : PySem.W.Frag} {mg : Str → Option Value} {base : Heap} {cls : Nat → Addr} {k : Nat} {Γ : Fns} {f : Addr} {cdv : Value} {A : Around} {out : List Env} {s : Shared} {H : Hp} {E : XK} (g : G mg) (h__law_is_name : FnAt P w K mg base ⟨cls, fldX⟩ (k + 1) "_law_is_name" ["_law_thing"] (Γ 56))
    (ok : Okx (cxOf (L2.CX P w) P w K mg base N_law_are_ascending "_law_are_ascending" (defScope st_law_are_ascending) f cdv A out s H E) k) (tk : Takes (cxOf (L2.CX P w) P w K mg base N_law_are_ascending "_law_are_ascending" (defScope st_law_are_ascending) f cdv A out s H E) (wE E)) (hp : PassesOwn (model P w) (cxOf (L2.CX P w) P w K mg base N_law_are_ascending "_law_are_ascending" (defScope st_law_are_ascending) f cdv A out s H E).A (cxOf (L2.CX P w) P w K mg base N_law_are_ascending "_law_are_ascending" (defScope st_law_are_ascending) f cdv A out s H E).env (cxOf (L2.CX P w) P w K mg base N_law_are_ascending "_law_are_ascending" (defScope st_law_are_ascending) f cdv A out s H E).xe) : JSs (cxOf (L2.CX P w) P w K mg base N_law_are_ascending "_law_are_ascending" (defScope st_law_are_ascending) f cdv A out s H E) ⟨cls, fldX⟩ (wE E) Γ (defBody st_law_are_ascending) S_law_are_ascending :=
  (js_cons (js_if (jt_w (jw_or (jt_not (jt_val (j_isi .tuple g.isinstance g.tuple_ boot_tup' (j_v 0)))) (jw_or1 (jt_cmp .ne ok (j_lc (own := [("_law_one", 1)]) ok (blk_of (by kernel_rfl)) (ji_walk (j_v 0)) (fun _ _ _ _ _ => (jg_nm 1 ok.blk.nd)) (fun _ _ _ _ _ => (jts_one (jt_not (jt_val (j_call h__law_is_name ok.blk takes0 (jn_cons (j_v 1) jn_nil)))))) (fun _ _ _ _ _ => (j_v 1)) (by decide)) (j_lst jl_nil))))) (js_cons (js_ret j_bl)
  js_nil) js_nil)
  (js_cons (js_ret (j_cmp .eq ok (j_lc (own := [("_law_one", 1), ("_law_other", 2)]) ok (blk_of (by kernel_rfl)) (ji_zip g.zip (jl_cons (j_v 0) (jl_cons (j_sl (j_v 0) (jo_some j_int) jo_none) jl_nil))) (fun _ _ _ _ _ => (jg_tup ok.blk (jgs_cons (jg_nm 1 ok.blk.nd) (jgs_cons (jg_nm 2 ok.blk.nd) jgs_nil)))) (fun _ _ _ _ _ => (jts_one (jt_not (jt_cmp .lt ok.blk (j_v 1) (j_v 2))))) (fun _ _ _ _ _ => j_int) (by decide)) (j_lst jl_nil)))
  js_nil))
abbrev st_law : Stmt := top 38
def N_law : List Str := ["_law_script", "_law_m", "_law_turn", "_law_many", "_law_lots_here", "_law_some", "_law_thing", "_law_kept", "_law_found", "_law_caught", "e", "_law_is_so", "_law_one", "_law_lot", "_law_far"]
def S_law : List S := [.asg (.nm 1) (.call 5 [.v 0]), .for_ (.nm 2) (.rng [.bin .add (.k (.int 4)) (.bi .min [.bi .len [.v 0], .k (.int 8)])]) [.asg (.nm 3) (.call 149 [.v 1, .k (.int 5)]), .asg (.nm 4) (.call 78 [.v 3]), .ite (.or (.cmp .ne (.bi .repr [.call 282 [.v 3]]) (.bi .repr [.bi .tuple [.call 135 [.v 3]]])) (.cmp .ne (.bi .repr [.call 266 [.v 3]]) (.bi .repr [.bi .tuple [.call 118 [.v 3]]]))) [.ret (.k (.bl false))] [], .ite (.cmp .ne (.bi .repr [.call 295 [.v 3]]) (.bi .repr [.bi .tuple [.lc [13] (.nm 13) (.v 4) (.cmp .eq (.bi .len [.v 13]) (.k (.int 2))) (.v 13)]])) [.ret (.k (.bl false))] [], .asg (.nm 5) (.lst [.v 3, .slr (.v 3) (.nop) (.nop), .bin .add (.v 3) (.sl (.v 3) (.nop) (.k (.int 1))), .bin .add (.v 3) (.tup [.k (.str "zz")]), .tup [], .bi .list [.v 3], .call 7 [.v 1, .v 3], .call 93 [.v 1]]), .asg (.nm 5) (.bin .add (.v 5) (.lst [.bi .tuple [.bi .sorted [.call 86 [.v 1, .k (.int 6)]]], .sl (.v 3) (.nop) (.k (.int 2)), .sl (.v 3) (.k (.int 1)) (.nop), .call 7 [.v 1, .call 7 [.v 1, .v 3]]])), .for_ (.nm 6) (.v 5) [.par [7, 8, 9] [.bi .repr [.v 6], .k .non, .k .non], .tryR 0 [] 10 9 [.asg (.nm 8) (.call 244 [.v 6])], .asg (.nm 11) (.and (.call 3 [.v 6]) (.chain .le .le (.k (.int 3)) (.bi .len [.v 6]) (.k (.int 5)))), .ite (.or (.cmp .ne (.tup [.bi .repr [.v 8], .v 9]) (.ite (.v 11) (.tup [.v 7, .k .non]) (.tup [.k (.str "None"), .v 7]))) (.cmp .ne (.bi .repr [.v 6]) (.v 7))) [.ret (.k (.bl false))] []], .asg (.nm 12) (.ix (.v 4) (.call 90 [.v 1, .bi .len [.v 4]])), .for_ (.nm 6) (.lst [.v 12, .slr (.v 12) (.nop) (.nop), .bi .list [.v 12], .bin .add (.v 12) (.tup [.k (.str "zz")]), .bin .mul (.v 12) (.k (.int 2)), .call 7 [.v 1, .v 12], .call 93 [.v 1], .v 3]) [.asg (.nm 11) (.and (.call 3 [.v 6]) (.cmp .eq (.lc [14] (.nm 14) (.v 6) (.cmp .notin (.v 14) (.v 3)) (.v 14)) (.lst []))), .ite (.cmp .ne (.bi .repr [.call 212 [.v 3, .v 6]]) (.bi .repr [.v 11])) [.ret (.k (.bl false))] []]], .ret (.k (.bl true))]
theorem sc_law : FnScope N_law ["_law_script"] (defScope st_law) := ⟨rfl, rfl, rfl, by decide +kernel, rfl, by decide +kernel, by decide +kernel⟩
set_option maxHeartbeats 4000000 in
theorem b_law {P : Program} {w : World} {K : PySem.W.Frag} {mg : Str → Option Value} {base : Heap} {cls : Nat → Addr} {k : Nat} {Γ : Fns} {f : Addr} {cdv : Value} {A : Around} {out : List Env} {s : Shared} {H : Hp} {E : XK} (g : G mg) (h__law_begun : FnAt P w K mg base ⟨cls, fldX⟩ (k + 1) "_law_begun" ["_law_script"] (Γ 5)) (h__law_words : FnAt P w K mg base ⟨cls, fldX⟩ (k + 1) "_law_words" ["_law_m", "_law_most"] (Γ 149)) (h__law_lots : FnAt P w K mg base ⟨cls, fldX⟩ (k + 1) "_law_lots" ["_law_many"] (Γ 78)) (h_threes : FnAt P w K mg base ⟨cls, fldX⟩ (k + 1) "threes" ["places"] (Γ 282)) (h__law_threes : FnAt P w K mg base ⟨cls, fldX⟩ (k + 1) "_law_threes" ["_law_many"] (Γ 135)) (h_rules : FnAt P w K mg base ⟨cls, fldX⟩ (k + 1) "rules" ["places"] (Γ 266)) (h__law_rules : FnAt P w K mg base ⟨cls, fldX⟩ (k + 1) "_law_rules" ["_law_many"] (Γ 118)) (h_ways : FnAt P w K mg base ⟨cls, fldX⟩ (k + 1) "ways" ["places"] (Γ 295)) (h__law_bent : FnAt P w K mg base ⟨cls, fldX⟩ (k + 1) "_law_bent" ["_law_m", "_law_thing"] (Γ 7)) (h__law_odd : FnAt P w K mg base ⟨cls, fldX⟩ (k + 1) "_law_odd" ["_law_m"] (Γ 93)) (h__law_names : FnAt P w K mg base ⟨cls, fldX⟩ (k + 1) "_law_names" ["_law_m", "_law_many"] (Γ 86)) (h_need_places : FnAt P w K mg base ⟨cls, fldX⟩ (k + 1) "need_places" ["thing"] (Γ 244)) (h__law_are_ascending : FnAt P w K mg base ⟨cls, fldX⟩ (k + 1) "_law_are_ascending" ["_law_thing"] (Γ 3)) (h__law_next : FnAt P w K mg base ⟨cls, fldX⟩ (k + 1) "_law_next" ["_law_m", "_law_many"] (Γ 90)) (h_is_lot : FnAt P w K mg base ⟨cls, fldX⟩ (k + 1) "is_lot" ["places", "thing"] (Γ 212)) (x_BadPlaces : XcAt P K mg ⟨cls, fldX⟩ 0 "BadPlaces" [])
    (ok : Okx (cxOf (L2.CX P w) P w K mg base N_law "law" (defScope st_law) f cdv A out s H E) k) (tk : Takes (cxOf (L2.CX P w) P w K mg base N_law "law" (defScope st_law) f cdv A out s H E) (wE E)) (hp : PassesOwn (model P w) (cxOf (L2.CX P w) P w K mg base N_law "law" (defScope st_law) f cdv A out s H E).A (cxOf (L2.CX P w) P w K mg base N_law "law" (defScope st_law) f cdv A out s H E).env (cxOf (L2.CX P w) P w K mg base N_law "law" (defScope st_law) f cdv A out s H E).xe) : JSs (cxOf (L2.CX P w) P w K mg base N_law "law" (defScope st_law) f cdv A out s H E) ⟨cls, fldX⟩ (wE E) Γ (defBody st_law) S_law :=
  (js_cons (js_set 1 ok (j_call h__law_begun ok tk (jn_cons (j_v 0) jn_nil)))
  (js_cons (js_for ok hp (ji_rng1 g.range (jl_cons (j_bin .add j_int (j_min ok g.min (jn_cons (j_len g.len (jn_cons (j_v 0) jn_nil)) (jn_cons j_int jn_nil)))) jl_nil)) (jg_nm 2 ok.nd) (js_cons (js_set 3 ok (j_call h__law_words ok tk (jn_cons (j_v 1) (jn_cons j_int jn_nil))))
  (js_cons (js_set 4 ok (j_call h__law_lots ok tk (jn_cons (j_v 3) jn_nil)))
  (js_cons (js_if (jt_w (jw_or (jt_cmp .ne ok (j_repr ok g.repr (jn_cons (j_call h_threes ok tk (jn_cons (j_v 3) jn_nil)) jn_nil)) (j_repr ok g.repr (jn_cons (j_totup g.tuple_ (jn_cons (j_call h__law_threes ok tk (jn_cons (j_v 3) jn_nil)) jn_nil)) jn_nil))) (jw_or1 (jt_cmp .ne ok (j_repr ok g.repr (jn_cons (j_call h_rules ok tk (jn_cons (j_v 3) jn_nil)) jn_nil)) (j_repr ok g.repr (jn_cons (j_totup g.tuple_ (jn_cons (j_call h__law_rules ok tk (jn_cons (j_v 3) jn_nil)) jn_nil)) jn_nil)))))) (js_cons (js_ret j_bl)
  js_nil) js_nil)
  (js_cons (js_if (jt_cmp .ne ok (j_repr ok g.repr (jn_cons (j_call h_ways ok tk (jn_cons (j_v 3) jn_nil)) jn_nil)) (j_repr ok g.repr (jn_cons (j_totup g.tuple_ (jn_cons (j_lc (own := [("_law_lot", 13)]) ok (blk_of (by kernel_rfl)) (ji_walk (j_v 4)) (fun _ _ _ _ _ => (jg_nm 13 ok.blk.nd)) (fun _ _ _ _ _ => (jts_one (jt_cmp .eq ok.blk (j_len g.len (jn_cons (j_v 13) jn_nil)) j_int))) (fun _ _ _ _ _ => (j_v 13)) (by decide)) jn_nil)) jn_nil))) (js_cons (js_ret j_bl)
  js_nil) js_nil)
  (js_cons (js_set 5 ok (j_lst (jl_cons (j_v 3) (jl_cons (j_slr (j_v 3) jo_none jo_none) (jl_cons (j_bin .add (j_v 3) (j_sl (j_v 3) jo_none (jo_some j_int))) (jl_cons (j_bin .add (j_v 3) (j_tup (jl_cons j_str jl_nil))) (jl_cons (j_tup jl_nil) (jl_cons (j_tolst g.list_ (jn_cons (j_v 3) jn_nil)) (jl_cons (j_call h__law_bent ok tk (jn_cons (j_v 1) (jn_cons (j_v 3) jn_nil))) (jl_cons (j_call h__law_odd ok tk (jn_cons (j_v 1) jn_nil)) jl_nil))))))))))
  (js_cons (js_set 5 ok (j_bin .add (j_v 5) (j_lst (jl_cons (j_totup g.tuple_ (jn_cons (j_sorted ok g.sorted (jn_cons (j_call h__law_names ok tk (jn_cons (j_v 1) (jn_cons j_int jn_nil))) jn_nil)) jn_nil)) (jl_cons (j_sl (j_v 3) jo_none (jo_some j_int)) (jl_cons (j_sl (j_v 3) (jo_some j_int) jo_none) (jl_cons (j_call h__law_bent ok tk (jn_cons (j_v 1) (jn_cons (j_call h__law_bent ok tk (jn_cons (j_v 1) (jn_cons (j_v 3) jn_nil))) jn_nil))) jl_nil)))))))
  (js_cons (js_for ok hp (ji_walk (j_v 5)) (jg_nm 6 ok.nd) (js_cons (js_par3 7 8 9 ok (jn_cons (j_repr ok g.repr (jn_cons (j_v 6) jn_nil)) (jn_cons j_non (jn_cons j_non jn_nil))))
  (js_cons (js_tryR 0 10 9 ok tk x_BadPlaces g.repr (fun W' pn xe tk' hp' => (js_cons (js_set 8 ok.tr (j_call h_need_places ok.tr tk' (jn_cons (j_v 6) jn_nil)))
  js_nil)))
  (js_cons (js_set 11 ok (j_and (j_call h__law_are_ascending ok tk (jn_cons (j_v 6) jn_nil)) (j_one (j_chain .le .le ok j_int (j_len g.len (jn_cons (j_v 6) jn_nil)) j_int))))
  (js_cons (js_if (jt_w (jw_or (jt_cmp .ne ok (j_tup (jl_cons (j_repr ok g.repr (jn_cons (j_v 8) jn_nil)) (jl_cons (j_v 9) jl_nil))) (j_ite (jt_val (j_v 11)) (j_tup (jl_cons (j_v 7) (jl_cons j_non jl_nil))) (j_tup (jl_cons j_str (jl_cons (j_v 7) jl_nil))))) (jw_or1 (jt_cmp .ne ok (j_repr ok g.repr (jn_cons (j_v 6) jn_nil)) (j_v 7))))) (js_cons (js_ret j_bl)
  js_nil) js_nil)
  js_nil)))))
  (js_cons (js_set 12 ok (j_ix (j_v 4) (j_call h__law_next ok tk (jn_cons (j_v 1) (jn_cons (j_len g.len (jn_cons (j_v 4) jn_nil)) jn_nil)))))
  (js_cons (js_for ok hp (ji_walk (j_lst (jl_cons (j_v 12) (jl_cons (j_slr (j_v 12) jo_none jo_none) (jl_cons (j_tolst g.list_ (jn_cons (j_v 12) jn_nil)) (jl_cons (j_bin .add (j_v 12) (j_tup (jl_cons j_str jl_nil))) (jl_cons (j_bin .mul (j_v 12) j_int) (jl_cons (j_call h__law_bent ok tk (jn_cons (j_v 1) (jn_cons (j_v 12) jn_nil))) (jl_cons (j_call h__law_odd ok tk (jn_cons (j_v 1) jn_nil)) (jl_cons (j_v 3) jl_nil)))))))))) (jg_nm 6 ok.nd) (js_cons (js_set 11 ok (j_and (j_call h__law_are_ascending ok tk (jn_cons (j_v 6) jn_nil)) (j_one (j_cmp .eq ok (j_lc (own := [("_law_far", 14)]) ok (blk_of (by kernel_rfl)) (ji_walk (j_v 6)) (fun _ _ _ _ _ => (jg_nm 14 ok.blk.nd)) (fun _ _ _ _ _ => (jts_one (jt_cmp .notin ok.blk (j_v 14) (j_v 3)))) (fun _ _ _ _ _ => (j_v 14)) (by decide)) (j_lst jl_nil)))))
  (js_cons (js_if (jt_cmp .ne ok (j_repr ok g.repr (jn_cons (j_call h_is_lot ok tk (jn_cons (j_v 3) (jn_cons (j_v 6) jn_nil))) jn_nil)) (j_repr ok g.repr (jn_cons (j_v 11) jn_nil))) (js_cons (js_ret j_bl)
  js_nil) js_nil)
  js_nil)))
  js_nil))))))))))
  (js_cons (js_ret j_bl)
  js_nil)))
abbrev st_law_next : Stmt := top 22
def N_law_next : List Str := ["_law_m", "_law_many", "_law_rest", "_law_at", "_law_bits", "_law_cell", "_law_blend"]
theorem sc_law_next : FnScope N_law_next ["_law_m", "_law_many"] (defScope st_law_next) := ⟨rfl, rfl, rfl, by decide +kernel, rfl, by decide +kernel, by decide +kernel⟩
set_option maxHeartbeats 4000000 in
theorem b_law_next {P : Program} {w : World} {K : PySem.W.Frag} {mg : Str → Option Value} {base : Heap} {xc : XC} {k : Nat} {Γ : Fns} {f : Addr} {cdv : Value} {A : Around} {out : List Env} {s : Shared} {H : Hp} {E : XK} (g : G mg)
    (ok : Okx (cxOf (L2.CX P w) P w K mg base N_law_next "_law_next" (defScope st_law_next) f cdv A out s H E) k) (tk : Takes (cxOf (L2.CX P w) P w K mg base N_law_next "_law_next" (defScope st_law_next) f cdv A out s H E) (wE E)) (hp : PassesOwn (model P w) (cxOf (L2.CX P w) P w K mg base N_law_next "_law_next" (defScope st_law_next) f cdv A out s H E).A (cxOf (L2.CX P w) P w K mg base N_law_next "_law_next" (defScope st_law_next) f cdv A out s H E).env (cxOf (L2.CX P w) P w K mg base N_law_next "_law_next" (defScope st_law_next) f cdv A out s H E).xe) : PSs (cxOf (L2.CX P w) P w K mg base N_law_next "_law_next" (defScope st_law_next) f cdv A out s H E) (defBody st_law_next) (tS K xc (wE E) (nextS Γ)) :=
  (pds_cons (pds_while (n := 65) hp (PW.pt (pdt_and (pt_mSome ok.hu (j_v (Γ := Γ) 0)) (pw_and1 (pdt_cmp (cmp_ok ok.hu .eq) rfl (pd_mHead ok.hu (j_v (Γ := Γ) 0)) (j_int (Γ := Γ)))))) (pds_cons (pds_mCut ok.hu (pe_var (i := 0) rfl (Or.inl rfl) (by decide) (by decide)) (pe_var (i := 0) rfl (Or.inl rfl) (by decide) (by decide)) rfl) pds_nil))
  (pds_cons (pds_if (pt_mSome ok.hu (j_v (Γ := Γ) 0)) (pds_cons (pds_set (i := 2) ok.nd rfl (Or.inl rfl) (pd_mHead ok.hu (j_v (Γ := Γ) 0)) rfl (.inr rfl)) (pds_cons (pds_mHead ok.hu (j_v (Γ := Γ) 0) (j_bin (Γ := Γ) .fdiv (j_v 2) (j_v 1)) rfl rfl rfl)
    (js_cons (js_ret (j_bin .mod (j_toint g.int_ (jn_cons (j_v 2) jn_nil)) (j_v 1))) js_nil))) pds_nil)
  (pds_cons (pds_par2 (i := 3) (j := 4) ok.cm ok.nd rfl rfl (by decide) rfl rfl (pda_consN (pd_op (bin_ok .add) (pd_mAt ok.hu (j_v (Γ := Γ) 0)) (j_int (Γ := Γ))) (pda_consN (pd_mCells ok.hu (j_v (Γ := Γ) 0)) pda_nil rfl) rfl) rfl rfl)
  (pds_cons (pds_mAt ok.hu (j_v (Γ := Γ) 0) (j_v (Γ := Γ) 3) rfl)
  (js_cons (js_set 5 ok (j_ite (jt_cmp .ne ok (j_v 4) (j_lst jl_nil)) (j_toint g.int_ (jn_cons (j_ix (j_v 4) (j_bin .mod (j_toint g.int_ (jn_cons (j_bin .add (j_bin .mul (j_v 3) (j_v 3)) (j_bin .fdiv (j_v 3) j_int)) jn_nil)) (j_len g.len (jn_cons (j_v 4) jn_nil)))) jn_nil)) j_int))
  (js_cons (js_set 6 ok (j_bin .mod (j_toint g.int_ (jn_cons (j_bin .add (j_bin .add (j_bin .mul (j_v 5) j_int) (j_bin .mul (j_v 3) j_int)) (j_bin .mul (j_bin .mul j_int (j_v 3)) (j_v 3))) jn_nil)) j_int))
  (js_cons (js_ret (j_bin .mod (j_toint g.int_ (jn_cons (j_bin .fdiv (j_bin .mod (j_toint g.int_ (jn_cons (j_bin .add (j_bin .mul (j_v 6) j_int) (j_bin .mul j_int (j_v 3))) jn_nil)) j_int) j_int) jn_nil)) (j_v 1)))
  js_nil)))))))
abbrev st_law_begun : Stmt := top 21
def N_law_begun : List Str := ["_law_script", "_law_cell"]
theorem sc_law_begun : FnScope N_law_begun ["_law_script"] (defScope st_law_begun) := ⟨rfl, rfl, rfl, by decide +kernel, rfl, by decide +kernel, by decide +kernel⟩
set_option maxHeartbeats 4000000 in
theorem b_law_begun {P : Program} {w : World} {K : PySem.W.Frag} {mg : Str → Option Value} {base : Heap} {xc : XC} {k : Nat} {Γ : Fns} {f : Addr} {cdv : Value} {A : Around} {out : List Env} {s : Shared} {H : Hp} {E : XK} (g : G mg) (ok : Okx (cxOf (L2.CX P w) P w K mg base N_law_begun "_law_begun" (defScope st_law_begun) f cdv A out s H E) k) : PSs (cxOf (L2.CX P w) P w K mg base N_law_begun "_law_begun" (defScope st_law_begun) f cdv A out s H E) (defBody st_law_begun) (tRet (tE K xc (wE E) (begE (begL Γ) (begR Γ)))) :=
  pss_one (ps_ret (pd_begun (j_tolst (Γ := Γ) g.list_ (jn_cons (j_v 0) jn_nil)) (pd_lcU (own := [("_law_cell", 1)]) (t := .nm 1) ok.cm ok.nd (ji_walk (Γ := Γ) (j_v 0)) (blk_of (by kernel_rfl)) (fun _ _ _ _ _ => jg_nm 1 ok.blk.nd) (fun _ _ _ _ _ => jts_one (jt_cmp (Γ := Γ) .ge ok.blk (j_v 1) (j_bin .pow j_int j_int))) (fun _ _ _ _ _ => j_v (Γ := Γ) 1) (fun _ => rfl) (by decide))))
structure Txt (P : Program) (K : PySem.W.Frag) (mg : Str → Option Value) (cls : Nat → Addr) : Prop where
  g : G mg
  d_is_word : DefAt K mg "is_word" st_is_word
  d_are_ascending : DefAt K mg "are_ascending" st_are_ascending
  d_need_places : DefAt K mg "need_places" st_need_places
  d_is_lot : DefAt K mg "is_lot" st_is_lot
  d_without : DefAt K mg "without" st_without
  d_lots_with : DefAt K mg "lots_with" st_lots_with
  d_threes : DefAt K mg "threes" st_threes
  d_ways : DefAt K mg "ways" st_ways
  d_rows_of : DefAt K mg "rows_of" st_rows_of
  d_rules : DefAt K mg "rules" st_rules
  d__law_names : DefAt K mg "_law_names" st_law_names
  d__law_is_name : DefAt K mg "_law_is_name" st_law_is_name
  d__law_odd : DefAt K mg "_law_odd" st_law_odd
  d__law_bent : DefAt K mg "_law_bent" st_law_bent
  d__law_lots : DefAt K mg "_law_lots" st_law_lots
  d__law_threes : DefAt K mg "_law_threes" st_law_threes
  d__law_words : DefAt K mg "_law_words" st_law_words
  d__law_rows : DefAt K mg "_law_rows" st_law_rows
  d__law_rules : DefAt K mg "_law_rules" st_law_rules
  d__law_are_ascending : DefAt K mg "_law_are_ascending" st_law_are_ascending
  d_law : DefAt K mg "law" st_law
  d__law_next : DefAt K mg "_law_next" st_law_next
  d__law_begun : DefAt K mg "_law_begun" st_law_begun
  x_BadPlaces : XcAt P K mg ⟨cls, fldX⟩ 0 "BadPlaces" []
structure Calls (P : Program) (w : World) (K : PySem.W.Frag) (mg : Str → Option Value) (base : Heap) (xc : XC) (k : Nat) (Γ : Fns) : Prop where
  h_is_word : FnAt P w K mg base xc (k + 1) "is_word" ["thing"] (Γ 221)
  h_are_ascending : FnAt P w K mg base xc (k + 1) "are_ascending" ["thing"] (Γ 157)
  h_need_places : FnAt P w K mg base xc (k + 1) "need_places" ["thing"] (Γ 244)
  h_is_lot : FnAt P w K mg base xc (k + 1) "is_lot" ["places", "thing"] (Γ 212)
  h_without : FnAt P w K mg base xc (k + 1) "without" ["one", "other"] (Γ 297)
  h_lots_with : FnAt P w K mg base xc (k + 1) "lots_with" ["places", "many"] (Γ 234)
  h_threes : FnAt P w K mg base xc (k + 1) "threes" ["places"] (Γ 282)
  h_ways : FnAt P w K mg base xc (k + 1) "ways" ["places"] (Γ 295)
  h_rows_of : FnAt P w K mg base xc (k + 1) "rows_of" ["places", "many"] (Γ 264)
  h_rules : FnAt P w K mg base xc (k + 1) "rules" ["places"] (Γ 266)
  h__law_names : FnAt P w K mg base xc (k + 1) "_law_names" ["_law_m", "_law_many"] (Γ 86)
  h__law_is_name : FnAt P w K mg base xc (k + 1) "_law_is_name" ["_law_thing"] (Γ 56)
  h__law_odd : FnAt P w K mg base xc (k + 1) "_law_odd" ["_law_m"] (Γ 93)
  h__law_bent : FnAt P w K mg base xc (k + 1) "_law_bent" ["_law_m", "_law_thing"] (Γ 7)
  h__law_lots : FnAt P w K mg base xc (k + 1) "_law_lots" ["_law_many"] (Γ 78)
  h__law_threes : FnAt P w K mg base xc (k + 1) "_law_threes" ["_law_many"] (Γ 135)
  h__law_words : FnAt P w K mg base xc (k + 1) "_law_words" ["_law_m", "_law_most"] (Γ 149)
  h__law_rows : FnAt P w K mg base xc (k + 1) "_law_rows" ["_law_many", "_law_size"] (Γ 117)
  h__law_rules : FnAt P w K mg base xc (k + 1) "_law_rules" ["_law_many"] (Γ 118)
  h__law_are_ascending : FnAt P w K mg base xc (k + 1) "_law_are_ascending" ["_law_thing"] (Γ 3)
  h_law : FnAt P w K mg base xc (k + 1) "law" ["_law_script"] (Γ 224)
  h__law_next : FnAt P w K mg base xc (k + 1) "_law_next" ["_law_m", "_law_many"] (Γ 90)
  h__law_begun : FnAt P w K mg base xc (k + 1) "_law_begun" ["_law_script"] (Γ 5)
def tab (Γ : Fns) (f : Nat) : List D → M D :=
  bif Nat.beq f 221 then fnM 2 (evSs Γ S_is_word) else
  bif Nat.beq f 157 then fnM 3 (evSs Γ S_are_ascending) else
  bif Nat.beq f 244 then fnM 1 (evSs Γ S_need_places) else
  bif Nat.beq f 212 then fnM 3 (evSs Γ S_is_lot) else
  bif Nat.beq f 297 then fnM 3 (evSs Γ S_without) else
  bif Nat.beq f 234 then fnM 6 (evSs Γ S_lots_with) else
  bif Nat.beq f 282 then fnM 1 (evSs Γ S_threes) else
  bif Nat.beq f 295 then fnM 1 (evSs Γ S_ways) else
  bif Nat.beq f 264 then fnM 6 (evSs Γ S_rows_of) else
  bif Nat.beq f 266 then fnM 3 (evSs Γ S_rules) else
  bif Nat.beq f 86 then fnM 9 (evSs Γ S_law_names) else
  bif Nat.beq f 56 then fnM 2 (evSs Γ S_law_is_name) else
  bif Nat.beq f 93 then fnM 2 (evSs Γ S_law_odd) else
  bif Nat.beq f 7 then fnM 4 (evSs Γ S_law_bent) else
  bif Nat.beq f 78 then fnM 4 (evSs Γ S_law_lots) else
  bif Nat.beq f 135 then fnM 2 (evSs Γ S_law_threes) else
  bif Nat.beq f 149 then fnM 2 (evSs Γ S_law_words) else
  bif Nat.beq f 117 then fnM 7 (evSs Γ S_law_rows) else
  bif Nat.beq f 118 then fnM 3 (evSs Γ S_law_rules) else
  bif Nat.beq f 3 then fnM 3 (evSs Γ S_law_are_ascending) else
  bif Nat.beq f 224 then fnM 15 (evSs Γ S_law) else
  bif Nat.beq f 90 then nextM else
  bif Nat.beq f 5 then begunM else
  fun _ => M.stk
def callT : Nat → Fns
  | 0 => fun _ _ => M.stk
  | k + 1 => tab (callT k)
theorem bd_is_word (kV doc pm : Value) (an : Option Addr) (cdv ct : Value) (us : List Value) (hl : us.length = (["thing"] : List Str).length) : bindArgs (PySem.W.fnOf "is_word" "is_word" (defArgs st_is_word) (defBody st_is_word) (defScope st_is_word) .none kV doc pm an cdv ct) ⟨us, []⟩ = pure ((["thing"] : List Str).zip us) := match us, hl with | [_], _ => by kernel_rfl
theorem bd_are_ascending (kV doc pm : Value) (an : Option Addr) (cdv ct : Value) (us : List Value) (hl : us.length = (["thing"] : List Str).length) : bindArgs (PySem.W.fnOf "are_ascending" "are_ascending" (defArgs st_are_ascending) (defBody st_are_ascending) (defScope st_are_ascending) .none kV doc pm an cdv ct) ⟨us, []⟩ = pure ((["thing"] : List Str).zip us) := match us, hl with | [_], _ => by kernel_rfl
theorem bd_need_places (kV doc pm : Value) (an : Option Addr) (cdv ct : Value) (us : List Value) (hl : us.length = (["thing"] : List Str).length) : bindArgs (PySem.W.fnOf "need_places" "need_places" (defArgs st_need_places) (defBody st_need_places) (defScope st_need_places) .none kV doc pm an cdv ct) ⟨us, []⟩ = pure ((["thing"] : List Str).zip us) := match us, hl with | [_], _ => by kernel_rfl
theorem bd_is_lot (kV doc pm : Value) (an : Option Addr) (cdv ct : Value) (us : List Value) (hl : us.length = (["places", "thing"] : List Str).length) : bindArgs (PySem.W.fnOf "is_lot" "is_lot" (defArgs st_is_lot) (defBody st_is_lot) (defScope st_is_lot) .none kV doc pm an cdv ct) ⟨us, []⟩ = pure ((["places", "thing"] : List Str).zip us) := match us, hl with | [_, _], _ => by kernel_rfl
theorem bd_without (kV doc pm : Value) (an : Option Addr) (cdv ct : Value) (us : List Value) (hl : us.length = (["one", "other"] : List Str).length) : bindArgs (PySem.W.fnOf "without" "without" (defArgs st_without) (defBody st_without) (defScope st_without) .none kV doc pm an cdv ct) ⟨us, []⟩ = pure ((["one", "other"] : List Str).zip us) := match us, hl with | [_, _], _ => by kernel_rfl
theorem bd_lots_with (kV doc pm : Value) (an : Option Addr) (cdv ct : Value) (us : List Value) (hl : us.length = (["places", "many"] : List Str).length) : bindArgs (PySem.W.fnOf "lots_with" "lots_with" (defArgs st_lots_with) (defBody st_lots_with) (defScope st_lots_with) .none kV doc pm an cdv ct) ⟨us, []⟩ = pure ((["places", "many"] : List Str).zip us) := match us, hl with | [_, _], _ => by kernel_rfl
theorem bd_threes (kV doc pm : Value) (an : Option Addr) (cdv ct : Value) (us : List Value) (hl : us.length = (["places"] : List Str).length) : bindArgs (PySem.W.fnOf "threes" "threes" (defArgs st_threes) (defBody st_threes) (defScope st_threes) .none kV doc pm an cdv ct) ⟨us, []⟩ = pure ((["places"] : List Str).zip us) := match us, hl with | [_], _ => by kernel_rfl
theorem bd_ways (kV doc pm : Value) (an : Option Addr) (cdv ct : Value) (us : List Value) (hl : us.length = (["places"] : List Str).length) : bindArgs (PySem.W.fnOf "ways" "ways" (defArgs st_ways) (defBody st_ways) (defScope st_ways) .none kV doc pm an cdv ct) ⟨us, []⟩ = pure ((["places"] : List Str).zip us) := match us, hl with | [_], _ => by kernel_rfl
theorem bd_rows_of (kV doc pm : Value) (an : Option Addr) (cdv ct : Value) (us : List Value) (hl : us.length = (["places", "many"] : List Str).length) : bindArgs (PySem.W.fnOf "rows_of" "rows_of" (defArgs st_rows_of) (defBody st_rows_of) (defScope st_rows_of) .none kV doc pm an cdv ct) ⟨us, []⟩ = pure ((["places", "many"] : List Str).zip us) := match us, hl with | [_, _], _ => by kernel_rfl
theorem bd_rules (kV doc pm : Value) (an : Option Addr) (cdv ct : Value) (us : List Value) (hl : us.length = (["places"] : List Str).length) : bindArgs (PySem.W.fnOf "rules" "rules" (defArgs st_rules) (defBody st_rules) (defScope st_rules) .none kV doc pm an cdv ct) ⟨us, []⟩ = pure ((["places"] : List Str).zip us) := match us, hl with | [_], _ => by kernel_rfl
theorem bd_law_names (kV doc pm : Value) (an : Option Addr) (cdv ct : Value) (us : List Value) (hl : us.length = (["_law_m", "_law_many"] : List Str).length) : bindArgs (PySem.W.fnOf "_law_names" "_law_names" (defArgs st_law_names) (defBody st_law_names) (defScope st_law_names) .none kV doc pm an cdv ct) ⟨us, []⟩ = pure ((["_law_m", "_law_many"] : List Str).zip us) := match us, hl with | [_, _], _ => by kernel_rfl
theorem bd_law_is_name (kV doc pm : Value) (an : Option Addr) (cdv ct : Value) (us : List Value) (hl : us.length = (["_law_thing"] : List Str).length) : bindArgs (PySem.W.fnOf "_law_is_name" "_law_is_name" (defArgs st_law_is_name) (defBody st_law_is_name) (defScope st_law_is_name) .none kV doc pm an cdv ct) ⟨us, []⟩ = pure ((["_law_thing"] : List Str).zip us) := match us, hl with | [_], _ => by kernel_rfl
theorem bd_law_odd (kV doc pm : Value) (an : Option Addr) (cdv ct : Value) (us : List Value) (hl : us.length = (["_law_m"] : List Str).length) : bindArgs (PySem.W.fnOf "_law_odd" "_law_odd" (defArgs st_law_odd) (defBody st_law_odd) (defScope st_law_odd) .none kV doc pm an cdv ct) ⟨us, []⟩ = pure ((["_law_m"] : List Str).zip us) := match us, hl with | [_], _ => by kernel_rfl
theorem bd_law_bent (kV doc pm : Value) (an : Option Addr) (cdv ct : Value) (us : List Value) (hl : us.length = (["_law_m", "_law_thing"] : List Str).length) : bindArgs (PySem.W.fnOf "_law_bent" "_law_bent" (defArgs st_law_bent) (defBody st_law_bent) (defScope st_law_bent) .none kV doc pm an cdv ct) ⟨us, []⟩ = pure ((["_law_m", "_law_thing"] : List Str).zip us) := match us, hl with | [_, _], _ => by kernel_rfl
theorem bd_law_lots (kV doc pm : Value) (an : Option Addr) (cdv ct : Value) (us : List Value) (hl : us.length = (["_law_many"] : List Str).length) : bindArgs (PySem.W.fnOf "_law_lots" "_law_lots" (defArgs st_law_lots) (defBody st_law_lots) (defScope st_law_lots) .none kV doc pm an cdv ct) ⟨us, []⟩ = pure ((["_law_many"] : List Str).zip us) := match us, hl with | [_], _ => by kernel_rfl
theorem bd_law_threes (kV doc pm : Value) (an : Option Addr) (cdv ct : Value) (us : List Value) (hl : us.length = (["_law_many"] : List Str).length) : bindArgs (PySem.W.fnOf "_law_threes" "_law_threes" (defArgs st_law_threes) (defBody st_law_threes) (defScope st_law_threes) .none kV doc pm an cdv ct) ⟨us, []⟩ = pure ((["_law_many"] : List Str).zip us) := match us, hl with | [_], _ => by kernel_rfl
theorem bd_law_words (kV doc pm : Value) (an : Option Addr) (cdv ct : Value) (us : List Value) (hl : us.length = (["_law_m", "_law_most"] : List Str).length) : bindArgs (PySem.W.fnOf "_law_words" "_law_words" (defArgs st_law_words) (defBody st_law_words) (defScope st_law_words) .none kV doc pm an cdv ct) ⟨us, []⟩ = pure ((["_law_m", "_law_most"] : List Str).zip us) := match us, hl with | [_, _], _ => by kernel_rfl
theorem bd_law_rows (kV doc pm : Value) (an : Option Addr) (cdv ct : Value) (us : List Value) (hl : us.length = (["_law_many", "_law_size"] : List Str).length) : bindArgs (PySem.W.fnOf "_law_rows" "_law_rows" (defArgs st_law_rows) (defBody st_law_rows) (defScope st_law_rows) .none kV doc pm an cdv ct) ⟨us, []⟩ = pure ((["_law_many", "_law_size"] : List Str).zip us) := match us, hl with | [_, _], _ => by kernel_rfl
theorem bd_law_rules (kV doc pm : Value) (an : Option Addr) (cdv ct : Value) (us : List Value) (hl : us.length = (["_law_many"] : List Str).length) : bindArgs (PySem.W.fnOf "_law_rules" "_law_rules" (defArgs st_law_rules) (defBody st_law_rules) (defScope st_law_rules) .none kV doc pm an cdv ct) ⟨us, []⟩ = pure ((["_law_many"] : List Str).zip us) := match us, hl with | [_], _ => by kernel_rfl
theorem bd_law_are_ascending (kV doc pm : Value) (an : Option Addr) (cdv ct : Value) (us : List Value) (hl : us.length = (["_law_thing"] : List Str).length) : bindArgs (PySem.W.fnOf "_law_are_ascending" "_law_are_ascending" (defArgs st_law_are_ascending) (defBody st_law_are_ascending) (defScope st_law_are_ascending) .none kV doc pm an cdv ct) ⟨us, []⟩ = pure ((["_law_thing"] : List Str).zip us) := match us, hl with | [_], _ => by kernel_rfl
theorem bd_law (kV doc pm : Value) (an : Option Addr) (cdv ct : Value) (us : List Value) (hl : us.length = (["_law_script"] : List Str).length) : bindArgs (PySem.W.fnOf "law" "law" (defArgs st_law) (defBody st_law) (defScope st_law) .none kV doc pm an cdv ct) ⟨us, []⟩ = pure ((["_law_script"] : List Str).zip us) := match us, hl with | [_], _ => by kernel_rfl
theorem bd_law_next (kV doc pm : Value) (an : Option Addr) (cdv ct : Value) (us : List Value) (hl : us.length = (["_law_m", "_law_many"] : List Str).length) : bindArgs (PySem.W.fnOf "_law_next" "_law_next" (defArgs st_law_next) (defBody st_law_next) (defScope st_law_next) .none kV doc pm an cdv ct) ⟨us, []⟩ = pure ((["_law_m", "_law_many"] : List Str).zip us) := match us, hl with | [_, _], _ => by kernel_rfl
theorem bd_law_begun (kV doc pm : Value) (an : Option Addr) (cdv ct : Value) (us : List Value) (hl : us.length = (["_law_script"] : List Str).length) : bindArgs (PySem.W.fnOf "_law_begun" "_law_begun" (defArgs st_law_begun) (defBody st_law_begun) (defScope st_law_begun) .none kV doc pm an cdv ct) ⟨us, []⟩ = pure ((["_law_script"] : List Str).zip us) := match us, hl with | [_], _ => by kernel_rfl
theorem calls0 {P : Program} {w : World} {K : PySem.W.Frag} {mg : Str → Option Value} {base : Heap} {xc : XC} {cls : Nat → Addr} (T : Txt P K mg cls) : Calls P w K mg base xc 0 (callT 0) :=
  { h_is_word := fnAt_stk T.d_is_word bd_is_word,
    h_are_ascending := fnAt_stk T.d_are_ascending bd_are_ascending,
    h_need_places := fnAt_stk T.d_need_places bd_need_places,
    h_is_lot := fnAt_stk T.d_is_lot bd_is_lot,
    h_without := fnAt_stk T.d_without bd_without,
    h_lots_with := fnAt_stk T.d_lots_with bd_lots_with,
    h_threes := fnAt_stk T.d_threes bd_threes,
    h_ways := fnAt_stk T.d_ways bd_ways,
    h_rows_of := fnAt_stk T.d_rows_of bd_rows_of,
    h_rules := fnAt_stk T.d_rules bd_rules,
    h__law_names := fnAt_stk T.d__law_names bd_law_names,
    h__law_is_name := fnAt_stk T.d__law_is_name bd_law_is_name,
    h__law_odd := fnAt_stk T.d__law_odd bd_law_odd,
    h__law_bent := fnAt_stk T.d__law_bent bd_law_bent,
    h__law_lots := fnAt_stk T.d__law_lots bd_law_lots,
    h__law_threes := fnAt_stk T.d__law_threes bd_law_threes,
    h__law_words := fnAt_stk T.d__law_words bd_law_words,
    h__law_rows := fnAt_stk T.d__law_rows bd_law_rows,
    h__law_rules := fnAt_stk T.d__law_rules bd_law_rules,
    h__law_are_ascending := fnAt_stk T.d__law_are_ascending bd_law_are_ascending,
    h_law := fnAt_stk T.d_law bd_law,
    h__law_next := fnAt_stk T.d__law_next bd_law_next,
    h__law_begun := fnAt_stk T.d__law_begun bd_law_begun }
theorem calls1 {P : Program} {w : World} {K : PySem.W.Frag} {mg : Str → Option Value} {base : Heap} {cls : Nat → Addr} {k : Nat} {Γ : Fns} (T : Txt P K mg cls) (h : Calls P w K mg base ⟨cls, fldX⟩ k Γ) : Calls P w K mg base ⟨cls, fldX⟩ (k + 1) (tab Γ) :=
  { h_is_word := fnAt_body T.d_is_word sc_is_word bd_is_word fun f cdv A out s H E ok tk hp => b_is_word T.g   ok tk hp,
    h_are_ascending := fnAt_body T.d_are_ascending sc_are_ascending bd_are_ascending fun f cdv A out s H E ok tk hp => b_are_ascending T.g h.h_is_word  ok tk hp,
    h_need_places := fnAt_body T.d_need_places sc_need_places bd_need_places fun f cdv A out s H E ok tk hp => b_need_places T.g h.h_are_ascending T.x_BadPlaces ok tk hp,
    h_is_lot := fnAt_body T.d_is_lot sc_is_lot bd_is_lot fun f cdv A out s H E ok tk hp => b_is_lot T.g h.h_are_ascending  ok tk hp,
    h_without := fnAt_body T.d_without sc_without bd_without fun f cdv A out s H E ok tk hp => b_without T.g   ok tk hp,
    h_lots_with := fnAt_body T.d_lots_with sc_lots_with bd_lots_with fun f cdv A out s H E ok tk hp => b_lots_with T.g   ok tk hp,
    h_threes := fnAt_body T.d_threes sc_threes bd_threes fun f cdv A out s H E ok tk hp => b_threes T.g h.h_lots_with  ok tk hp,
    h_ways := fnAt_body T.d_ways sc_ways bd_ways fun f cdv A out s H E ok tk hp => b_ways T.g h.h_lots_with  ok tk hp,
    h_rows_of := fnAt_body T.d_rows_of sc_rows_of bd_rows_of fun f cdv A out s H E ok tk hp => b_rows_of T.g h.h_without  ok tk hp,
    h_rules := fnAt_body T.d_rules sc_rules bd_rules fun f cdv A out s H E ok tk hp => b_rules T.g h.h_rows_of  ok tk hp,
    h__law_names := fnAt_body T.d__law_names sc_law_names bd_law_names fun f cdv A out s H E ok tk hp => b_law_names T.g h.h__law_next  ok tk hp,
    h__law_is_name := fnAt_body T.d__law_is_name sc_law_is_name bd_law_is_name fun f cdv A out s H E ok tk hp => b_law_is_name T.g   ok tk hp,
    h__law_odd := fnAt_body T.d__law_odd sc_law_odd bd_law_odd fun f cdv A out s H E ok tk hp => b_law_odd T.g h.h__law_next  ok tk hp,
    h__law_bent := fnAt_body T.d__law_bent sc_law_bent bd_law_bent fun f cdv A out s H E ok tk hp => b_law_bent T.g h.h__law_next h.h__law_odd h.h__law_bent  ok tk hp,
    h__law_lots := fnAt_body T.d__law_lots sc_law_lots bd_law_lots fun f cdv A out s H E ok tk hp => b_law_lots T.g   ok tk hp,
    h__law_threes := fnAt_body T.d__law_threes sc_law_threes bd_law_threes fun f cdv A out s H E ok tk hp => b_law_threes T.g h.h__law_lots  ok tk hp,
    h__law_words := fnAt_body T.d__law_words sc_law_words bd_law_words fun f cdv A out s H E ok tk hp => b_law_words T.g h.h__law_names h.h__law_next  ok tk hp,
    h__law_rows := fnAt_body T.d__law_rows sc_law_rows bd_law_rows fun f cdv A out s H E ok tk hp => b_law_rows T.g   ok tk hp,
    h__law_rules := fnAt_body T.d__law_rules sc_law_rules bd_law_rules fun f cdv A out s H E ok tk hp => b_law_rules T.g h.h__law_rows  ok tk hp,
    h__law_are_ascending := fnAt_body T.d__law_are_ascending sc_law_are_ascending bd_law_are_ascending fun f cdv A out s H E ok tk hp => b_law_are_ascending T.g h.h__law_is_name  ok tk hp,
    h_law := fnAt_body T.d_law sc_law bd_law fun f cdv A out s H E ok tk hp => b_law T.g h.h__law_begun h.h__law_words h.h__law_lots h.h_threes h.h__law_threes h.h_rules h.h__law_rules h.h_ways h.h__law_bent h.h__law_odd h.h__law_names h.h_need_places h.h__law_are_ascending h.h__law_next h.h_is_lot T.x_BadPlaces ok tk hp,
    h__law_next := (fnAt_body T.d__law_next sc_law_next bd_law_next fun f cdv A out s H E ok tk hp => b_law_next (Γ := Γ) T.g ok tk hp).imp (next_eq Γ),
    h__law_begun := (fnAt_ret' T.d__law_begun sc_law_begun bd_law_begun fun f cdv A out s H E ok => b_law_begun (Γ := Γ) T.g ok).imp (beg_eq Γ) }
theorem calls {P : Program} {w : World} {K : PySem.W.Frag} {mg : Str → Option Value} {base : Heap} {cls : Nat → Addr} (T : Txt P K mg cls) : ∀ k, Calls P w K mg base ⟨cls, fldX⟩ k (callT k)
  | 0 => calls0 T
  | k + 1 => calls1 T (calls T k)
theorem law_fd {P : Program} {w : World} {K : PySem.W.Frag} {mg : Str → Option Value} {cls : Nat → Addr} {k : Nat} {fa : Addr} (hmg : mg "law" = some (.ref fa)) (T : Txt P K mg cls) :
    ∃ fd : FuncData, Binds K fd ["_law_script"] [] ∧ ∀ base : Heap, FnG P w K mg base (L2.CX P w) (k + 2) fa fd ["_law_script"] (spM ⟨cls, fldX⟩ K 1 (callT (k + 1) 224)) :=
  fnG_body hmg T.d_law sc_law bd_law fun base f cdv A out s H E ok tk hp => b_law T.g (calls T k).h__law_begun (calls T k).h__law_words (calls T k).h__law_lots (calls T k).h_threes (calls T k).h__law_threes (calls T k).h_rules (calls T k).h__law_rules (calls T k).h_ways (calls T k).h__law_bent (calls T k).h__law_odd (calls T k).h__law_names (calls T k).h_need_places (calls T k).h__law_are_ascending (calls T k).h__law_next (calls T k).h_is_lot T.x_BadPlaces ok tk hp
theorem txt_mk {P : Program} {w : World} {K : PySem.W.Frag} {mg : Str → Option Value} {k : Nat} {fa : Addr} {C_BadPlaces : Addr} (hmg : mg "law" = some (.ref fa)) (g : G mg)
    (d_is_word : DefAt K mg "is_word" st_is_word) (d_are_ascending : DefAt K mg "are_ascending" st_are_ascending) (d_need_places : DefAt K mg "need_places" st_need_places) (d_is_lot : DefAt K mg "is_lot" st_is_lot) (d_without : DefAt K mg "without" st_without) (d_lots_with : DefAt K mg "lots_with" st_lots_with) (d_threes : DefAt K mg "threes" st_threes) (d_ways : DefAt K mg "ways" st_ways) (d_rows_of : DefAt K mg "rows_of" st_rows_of) (d_rules : DefAt K mg "rules" st_rules) (d__law_names : DefAt K mg "_law_names" st_law_names) (d__law_is_name : DefAt K mg "_law_is_name" st_law_is_name) (d__law_odd : DefAt K mg "_law_odd" st_law_odd) (d__law_bent : DefAt K mg "_law_bent" st_law_bent) (d__law_lots : DefAt K mg "_law_lots" st_law_lots) (d__law_threes : DefAt K mg "_law_threes" st_law_threes) (d__law_words : DefAt K mg "_law_words" st_law_words) (d__law_rows : DefAt K mg "_law_rows" st_law_rows) (d__law_rules : DefAt K mg "_law_rules" st_law_rules) (d__law_are_ascending : DefAt K mg "_law_are_ascending" st_law_are_ascending) (d_law : DefAt K mg "law" st_law) (d__law_next : DefAt K mg "_law_next" st_law_next) (d__law_begun : DefAt K mg "_law_begun" st_law_begun)
    (t_BadPlaces : ExcTxt P K mg "BadPlaces" "value" C_BadPlaces)
    (s_BadPlaces_BadPlaces : PySem.W.subIn K (.ref C_BadPlaces) (.ref C_BadPlaces) = some true) :
    ∃ (fd : FuncData) (xc : XC), (∀ (s : Shared) (u : Value), K.In s.heap → BindsTo s fd ⟨[u], []⟩ [(("_law_script" : Str), u)]) ∧ ∀ base : Heap, K.In base → base.Ns mainGlobals mg → FnG P w K mg base (L2.CX P w) (k + 2) fa fd ["_law_script"] (spM xc K 1 (callT (k + 1) 224)) :=
  law_mk hmg (law_fd (cls := fun n => match n with | 0 => C_BadPlaces | _ => 0) hmg
    { g := g, d_is_word := d_is_word, d_are_ascending := d_are_ascending, d_need_places := d_need_places, d_is_lot := d_is_lot, d_without := d_without, d_lots_with := d_lots_with, d_threes := d_threes, d_ways := d_ways, d_rows_of := d_rows_of, d_rules := d_rules, d__law_names := d__law_names, d__law_is_name := d__law_is_name, d__law_odd := d__law_odd, d__law_bent := d__law_bent, d__law_lots := d__law_lots, d__law_threes := d__law_threes, d__law_words := d__law_words, d__law_rows := d__law_rows, d__law_rules := d__law_rules, d__law_are_ascending := d__law_are_ascending, d_law := d_law, d__law_next := d__law_next, d__law_begun := d__law_begun, x_BadPlaces := ⟨t_BadPlaces.sup, t_BadPlaces.at_, exm_mk t_BadPlaces.sup.T.exC t_BadPlaces.isc t_BadPlaces.sup.T.tyC s_BadPlaces_BadPlaces, (fun c h => nomatch h), t_BadPlaces.xf⟩ })
end K01

namespace K01
open PySem L2 PI
def LET : List Nat := ("abcdefghijklmnopqrstuvwxyz" : Str).cps.toList
def isWordS (x : Str) : Bool := (decide (1 ≤ x.length) && decide (x.length ≤ 8)) && x.cps.toList.all (fun c => LET.contains c)
def isWord : D → Bool
  | .str x => isWordS x
  | _ => false
def sgn (c : Nat) : D := .str ⟨#[c]⟩
theorem all_bools : ∀ (bs : List Bool), boolsD (bs.map D.bl) = some bs
  | [] => rfl
  | b :: bs => by show (boolsD (bs.map D.bl)).map (b :: ·) = _; rw [all_bools bs]; rfl
theorem bools_map {α : Type} (f : α → Bool) (xs : List α) : boolsD (xs.map fun a => D.bl (f a)) = some (xs.map f) := by rw [← all_bools, List.map_map]; rfl
theorem eqNil (L : List D) : eqD (.lst L) (.lst []) = some (.bl L.isEmpty) := by cases L <;> rfl
theorem neNil (L : List D) : neD (.lst L) (.lst []) = some (.bl (!L.isEmpty)) := by cases L <;> rfl
theorem none_bad {α β : Type} (p : α → Bool) (f : α → β) : ∀ xs : List α, ((xs.filter fun x => !p x).map f).isEmpty = xs.all p
  | [] => rfl
  | x :: xs => by
    rw [List.filter_cons, List.all_cons]
    cases h : p x with
    | true => exact none_bad p f xs
    | false => rfl
theorem cut1 {α : Type} (xs : List α) : cutL xs (some 1) none = xs.drop 1 := by
  unfold cutL
  rw [show (some (1 : Int)) = some ((1 : Nat) : Int) from rfl, HT.sIx_nat, HT.sIx_none]
  cases xs with
  | nil => rfl
  | cons x xs => simp [Nat.min_def]
theorem fine_not {B n w : Nat} {d : D} (hd : Fine B n w d) : (∀ c f v, d ≠ .obj c f v) ∧ (∀ i, d ≠ .own i) ∧ d ≠ .drw := by
  refine ⟨fun c f v e => ?_, fun i e => ?_, fun e => ?_⟩ <;> (subst e; have := hd.f; cases this)
theorem len_chain {x : Str} {s : SS} {lo hi : Int} (h : x.length ≤ LIM) {Γ : Fns} {i : Nat} {env : Env'} (he : env[i]? = some (some (.str x))) :
    evC Γ (.chain .le .le (.k (.int lo)) (.bi .len [.v i]) (.k (.int hi))) env s = .ok (.bl (decide (lo ≤ x.length) && decide ((x.length : Int) ≤ hi))) s :=
  e_chain e_k (e_bi (n_cons (e_v he) n_nil) (show (if x.length ≤ LIM then some (D.int (x.length : Nat)) else none) = _ from if_pos h)) rfl fun _ => ⟨e_k, rfl⟩
theorem len_chainT {xs : List D} {s : SS} {lo hi : Int} {Γ : Fns} {i : Nat} {env : Env'} (he : env[i]? = some (some (.tup xs))) :
    evC Γ (.chain .le .le (.k (.int lo)) (.bi .len [.v i]) (.k (.int hi))) env s = .ok (.bl (decide (lo ≤ xs.length) && decide ((xs.length : Int) ≤ hi))) s :=
  e_chain e_k (e_bi (n_cons (e_v he) n_nil) rfl) rfl fun _ => ⟨e_k, rfl⟩
theorem len_fix (n lo hi : Nat) : (decide ((lo : Int) ≤ n) && decide ((n : Int) ≤ hi)) = (decide (lo ≤ n) && decide (n ≤ hi)) := by
  congr 1 <;> simp
theorem str_len {B n w : Nat} {x : Str} (hd : Fine B n w (.str x)) (hw : w ≤ LIM) : x.length ≤ LIM := by
  have := hd.w
  have e : wt (.str x) = 10 * x.length + 2 := rfl
  omega
theorem tup_len {B n w : Nat} {xs : List D} (hd : Fine B n w (.tup xs)) (hw : w ≤ LIM) : xs.length ≤ LIM := by
  have := hd.w
  have e : wt (.tup xs) = wts xs + 4 := rfl
  have := wts_len (xs := xs)
  omega
theorem is_word_ev (Γ : Fns) {B n w : Nat} {d : D} {s : SS} (hd : Fine B n w d) (hw : w ≤ LIM) (hc : s.cs = []) : fnM 2 (evSs Γ S_is_word) [d] s = .ok (.bl (isWord d)) s := by
  refine fn_rt (s_ret ?_ rfl) rfl hc hc
  cases d with
  | str x =>
    have hl := str_len hd hw
    refine e_and_t (e_isi (e_v rfl) rfl) ?_
    show _ = R.ok (D.bl (isWordS x)) s
    unfold isWordS
    rw [← len_fix x.length 1 8]
    refine e_and (len_chain hl rfl) fun _ => e_bi (n_cons (e_lcA (t := .nm 1) (ds := x.cps.toList.map sgn) (f := fun d => match d with | .str y => .bl (LET.contains (y.cps.getD 0 0)) | _ => .non) (i_walk (e_v rfl) rfl rfl) (by rw [List.length_map]; exact hl) fun d hd => ?_) n_nil) ?_
    · obtain ⟨c, _, rfl⟩ := List.mem_map.mp hd
      exact ⟨_, rfl, e_cmp (e_v rfl) e_k rfl, rfl⟩
    · show (boolsD ((x.cps.toList.map sgn).map _)).map (fun bs => D.bl (bs.all id)) = _
      rw [List.map_map]
      rw [show boolsD (x.cps.toList.map ((fun d => match d with | .str y => .bl (LET.contains (y.cps.getD 0 0)) | _ => .non) ∘ sgn)) = _ from bools_map (fun c => LET.contains c) x.cps.toList]
      show some (D.bl ((x.cps.toList.map fun c => LET.contains c).all id)) = _
      rw [List.all_map]
      rfl
  | non => exact e_and_f (e_isi (e_v rfl) rfl)
  | bl b => exact e_and_f (e_isi (e_v rfl) rfl)
  | int i => exact e_and_f (e_isi (e_v rfl) rfl)
  | tup xs => exact e_and_f (e_isi (e_v rfl) rfl)
  | lst xs => exact e_and_f (e_isi (e_v rfl) rfl)
  | dct ks vs => exact e_and_f (e_isi (e_v rfl) rfl)
  | obj c f v => exact absurd rfl ((fine_not hd).1 c f v)
  | own i => exact absurd rfl ((fine_not hd).2.1 i)
  | drw => exact absurd rfl (fine_not hd).2.2
/-- the law's own look -/
theorem is_name_ev (Γ : Fns) {B n w : Nat} {d : D} {s : SS} (hd : Fine B n w d) (hw : w ≤ LIM) (hc : s.cs = []) : fnM 2 (evSs Γ S_law_is_name) [d] s = .ok (.bl (isWord d)) s := by
  cases d with
  | str x =>
    have hl := str_len hd hw
    show _ = R.ok (D.bl (isWordS x)) s
    unfold isWordS
    rw [← len_fix x.length 1 8]
    have t1 : evC Γ (.or (.not (.isi (.v 0) [.str])) (.not (.chain .le .le (.k (.int 1)) (.bi .len [.v 0]) (.k (.int 8))))) [some (.str x), none] s = .ok (.bl (!(decide (((1 : Nat) : Int) ≤ x.length) && decide ((x.length : Int) ≤ (8 : Nat))))) s :=
      e_or_f (e_notF (e_isi (e_v rfl) rfl)) (e_not (len_chain hl rfl))
    refine fn_rt (d := .bl _) ?_ rfl hc hc
    cases hb : (decide (((1 : Nat) : Int) ≤ x.length) && decide ((x.length : Int) ≤ (8 : Nat))) with
    | false =>
      rw [hb] at t1
      exact s_if_ret t1 (s_ret e_k rfl)
    | true =>
      rw [hb] at t1
      refine s_if_f t1 (s_ret (e_cmp (e_lc (t := .nm 1) (ds := x.cps.toList.map sgn) (p := fun d => match d with | .str y => !(LET.contains (y.cps.getD 0 0)) | _ => false) (f := id) (i_walk (e_v rfl) rfl rfl) (by rw [List.length_map]; exact hl) fun d hd => ?_) (e_lst l_nil rfl (by decide)) ?_) rfl)
      · obtain ⟨c, _, rfl⟩ := List.mem_map.mp hd
        exact ⟨_, rfl, e_cmp (e_v rfl) e_k rfl, fun _ => ⟨e_v rfl, rfl⟩⟩
      · show eqD _ _ = _
        refine (eqNil _).trans ?_
        rw [List.filter_map]
        congr 2
        show ((List.map sgn (List.filter (fun c => !LET.contains c) x.cps.toList)).map id).isEmpty = _
        rw [List.map_map]
        exact none_bad (fun c => LET.contains c) _ _
  | non => exact fn_rt (s_if_ret (e_or_t (e_notT (e_isi (e_v rfl) rfl))) (s_ret e_k rfl)) rfl hc hc
  | bl b => exact fn_rt (s_if_ret (e_or_t (e_notT (e_isi (e_v rfl) rfl))) (s_ret e_k rfl)) rfl hc hc
  | int i => exact fn_rt (s_if_ret (e_or_t (e_notT (e_isi (e_v rfl) rfl))) (s_ret e_k rfl)) rfl hc hc
  | tup xs => exact fn_rt (s_if_ret (e_or_t (e_notT (e_isi (e_v rfl) rfl))) (s_ret e_k rfl)) rfl hc hc
  | lst xs => exact fn_rt (s_if_ret (e_or_t (e_notT (e_isi (e_v rfl) rfl))) (s_ret e_k rfl)) rfl hc hc
  | dct ks vs => exact fn_rt (s_if_ret (e_or_t (e_notT (e_isi (e_v rfl) rfl))) (s_ret e_k rfl)) rfl hc hc
  | obj c f v => exact absurd rfl ((fine_not hd).1 c f v)
  | own i => exact absurd rfl ((fine_not hd).2.1 i)
  | drw => exact absurd rfl (fine_not hd).2.2
def ltW : D → D → Bool
  | .str x, .str y => ltS x y
  | _, _ => false
def asc : D → Bool
  | .tup xs => xs.all isWord && (xs.zip (xs.drop 1)).all fun p => ltW p.1 p.2
  | _ => false
abbrev Fine0 (d : D) : Prop := Fine (10 ^ 40) 50 200000 d
theorem w0 : 200000 ≤ LIM := by decide
theorem fine_mem {B n w : Nat} {xs : List D} (h : Fine B n w (.tup xs)) {d : D} (hd : d ∈ xs) : Fine B n w d := by
  refine ⟨fits_iff.mp h.f d hd, ?_, ?_⟩
  · have h1 : dps xs + 1 ≤ n := h.n
    have h2 := dps_le.mp (Nat.le_refl (dps xs)) d hd
    omega
  · have h1 : wts xs + 4 ≤ w := h.w
    have h2 : wts [d] ≤ wts xs := wts_sub (List.singleton_sublist.mpr hd)
    have e : wts [d] = wt d + 2 + 0 := rfl
    omega
theorem word_str {d : D} (h : isWord d = true) : ∃ x, d = .str x ∧ isWordS x = true := by
  cases d with
  | str x => exact ⟨x, rfl, h⟩
  | _ => cases h
theorem zip_lt {Γ : Fns} {xs : List D} {E : Env'} {i j : Nat} {s : SS} (hw : xs.all isWord = true) {d : D} (hd : d ∈ (xs.zip (xs.drop 1)).map fun p => D.tup [p.1, p.2]) :
    ∃ x y, d = .tup [.str x, .str y] := by
  obtain ⟨p, hp, rfl⟩ := List.mem_map.mp hd
  have h1 := List.of_mem_zip (a := p.1) (b := p.2) hp
  obtain ⟨x, ex, _⟩ := word_str (List.all_eq_true.mp hw _ h1.1)
  obtain ⟨y, ey, _⟩ := word_str (List.all_eq_true.mp hw _ (List.mem_of_mem_drop h1.2))
  exact ⟨x, y, by rw [ex, ey]⟩
def pairLt : D → Bool
  | .tup [a, b] => ltW a b
  | _ => false
theorem pairs_all (xs : List (D × D)) : (xs.map fun p => D.tup [p.1, p.2]).all pairLt = xs.all fun p => ltW p.1 p.2 := by
  rw [List.all_map]; rfl
theorem ascending_ev (Γ : Fns) (hw : ∀ {d : D} {s : SS}, Fine0 d → s.cs = [] → Γ 221 [d] s = .ok (.bl (isWord d)) s) {d : D} {s : SS} (hd : Fine0 d) (hc : s.cs = []) : fnM 3 (evSs Γ S_are_ascending) [d] s = .ok (.bl (asc d)) s := by
  cases d with
  | tup xs =>
    have hl := tup_len hd w0
    have t1 : evC Γ (.or (.not (.isi (.v 0) [.tuple])) (.not (.bi .all [.lc [1] (.nm 1) (.v 0) (.k (.bl true)) (.call 221 [.v 1])]))) [some (.tup xs), none, none] s = .ok (.bl (!xs.all isWord)) s := by
      refine e_or_f (e_notF (e_isi (e_v rfl) rfl)) (e_not (e_bi (n_cons (e_lcA (t := .nm 1) (ds := xs) (f := fun d => .bl (isWord d)) (i_walk (e_v rfl) rfl rfl) hl fun d hd' => ⟨_, rfl, e_call (n_cons (e_v rfl) n_nil) (hw (fine_mem hd hd') hc), rfl⟩) n_nil) ?_))
      show (boolsD (xs.map _)).map (fun bs => D.bl (bs.all id)) = _
      rw [bools_map isWord xs]
      show some (D.bl ((xs.map isWord).all id)) = _
      rw [List.all_map]; rfl
    refine fn_rt (d := .bl _) ?_ rfl hc hc
    show _ = SR.rt (D.bl (xs.all isWord && (xs.zip (xs.drop 1)).all fun p => ltW p.1 p.2)) s
    cases hb : xs.all isWord with
    | false =>
      rw [hb] at t1
      exact s_if_ret t1 (s_ret e_k rfl)
    | true =>
      rw [hb] at t1
      refine s_if_f t1 (s_ret (e_bi (n_cons (e_lcA (t := .tup [.nm 1, .nm 2]) (ds := (xs.zip (xs.drop 1)).map fun p => .tup [p.1, p.2]) (f := fun d => .bl (pairLt d)) ?_ ?_ fun d hd' => ?_) n_nil) ?_) rfl)
      · refine i_zipT (l_cons (e_v rfl) rfl (l_cons (e_sl (e_v rfl) (o_int e_k) o_nop ?_) rfl l_nil))
        show some (D.tup (cutL xs (some 1) none)) = _
        rw [cut1]
      · rw [List.length_map, List.length_zip]; omega
      · obtain ⟨x, y, rfl⟩ := zip_lt (Γ := Γ) (E := []) (i := 0) (j := 0) (s := s) hb hd'
        exact ⟨_, rfl, e_cmp (e_v rfl) (e_v rfl) rfl, rfl⟩
      · show (boolsD (List.map _ _)).map (fun bs => D.bl (bs.all id)) = _
        rw [bools_map pairLt]
        show some (D.bl ((List.map pairLt _).all id)) = _
        rw [List.all_map]
        show some (D.bl (List.all _ pairLt)) = _
        rw [pairs_all]; rfl
  | non => exact fn_rt (s_if_ret (e_or_t (e_notT (e_isi (e_v rfl) rfl))) (s_ret e_k rfl)) rfl hc hc
  | bl b => exact fn_rt (s_if_ret (e_or_t (e_notT (e_isi (e_v rfl) rfl))) (s_ret e_k rfl)) rfl hc hc
  | int i => exact fn_rt (s_if_ret (e_or_t (e_notT (e_isi (e_v rfl) rfl))) (s_ret e_k rfl)) rfl hc hc
  | str x => exact fn_rt (s_if_ret (e_or_t (e_notT (e_isi (e_v rfl) rfl))) (s_ret e_k rfl)) rfl hc hc
  | lst xs => exact fn_rt (s_if_ret (e_or_t (e_notT (e_isi (e_v rfl) rfl))) (s_ret e_k rfl)) rfl hc hc
  | dct ks vs => exact fn_rt (s_if_ret (e_or_t (e_notT (e_isi (e_v rfl) rfl))) (s_ret e_k rfl)) rfl hc hc
  | obj c f v => exact absurd rfl ((fine_not hd).1 c f v)
  | own i => exact absurd rfl ((fine_not hd).2.1 i)
  | drw => exact absurd rfl (fine_not hd).2.2
theorem law_asc_ev (Γ : Fns) (hw : ∀ {d : D} {s : SS}, Fine0 d → s.cs = [] → Γ 56 [d] s = .ok (.bl (isWord d)) s) {d : D} {s : SS} (hd : Fine0 d) (hc : s.cs = []) : fnM 3 (evSs Γ S_law_are_ascending) [d] s = .ok (.bl (asc d)) s := by
  cases d with
  | tup xs =>
    have hl := tup_len hd w0
    have t1 : evC Γ (.or (.not (.isi (.v 0) [.tuple])) (.cmp .ne (.lc [1] (.nm 1) (.v 0) (.not (.call 56 [.v 1])) (.v 1)) (.lst []))) [some (.tup xs), none, none] s = .ok (.bl (!xs.all isWord)) s := by
      refine e_or_f (e_notF (e_isi (e_v rfl) rfl)) (e_cmp (e_lc (t := .nm 1) (ds := xs) (p := fun d => !isWord d) (f := id) (i_walk (e_v rfl) rfl rfl) hl fun d hd' => ⟨_, rfl, e_not (e_call (n_cons (e_v rfl) n_nil) (hw (fine_mem hd hd') hc)), fun _ => ⟨e_v rfl, fit_pure (fine_mem hd hd').f⟩⟩) (e_lst l_nil rfl (by decide)) ?_)
      refine (neNil _).trans ?_
      rw [none_bad]
    refine fn_rt (d := .bl _) ?_ rfl hc hc
    show _ = SR.rt (D.bl (xs.all isWord && (xs.zip (xs.drop 1)).all fun p => ltW p.1 p.2)) s
    cases hb : xs.all isWord with
    | false =>
      rw [hb] at t1
      exact s_if_ret t1 (s_ret e_k rfl)
    | true =>
      rw [hb] at t1
      refine s_if_f t1 (s_ret (e_cmp (e_lc (t := .tup [.nm 1, .nm 2]) (ds := (xs.zip (xs.drop 1)).map fun p => .tup [p.1, p.2]) (p := fun d => !pairLt d) (f := fun _ => .int 1) ?_ ?_ fun d hd' => ?_) (e_lst l_nil rfl (by decide)) ?_) rfl)
      · refine i_zipT (l_cons (e_v rfl) rfl (l_cons (e_sl (e_v rfl) (o_int e_k) o_nop ?_) rfl l_nil))
        show some (D.tup (cutL xs (some 1) none)) = _
        rw [cut1]
      · rw [List.length_map, List.length_zip]; omega
      · obtain ⟨x, y, rfl⟩ := zip_lt (Γ := Γ) (E := []) (i := 0) (j := 0) (s := s) hb hd'
        exact ⟨_, rfl, e_not (e_cmp (e_v rfl) (e_v rfl) rfl), fun _ => ⟨e_k, rfl⟩⟩
      · refine (eqNil _).trans ?_
        rw [none_bad, pairs_all]; rfl
  | non => exact fn_rt (s_if_ret (e_or_t (e_notT (e_isi (e_v rfl) rfl))) (s_ret e_k rfl)) rfl hc hc
  | bl b => exact fn_rt (s_if_ret (e_or_t (e_notT (e_isi (e_v rfl) rfl))) (s_ret e_k rfl)) rfl hc hc
  | int i => exact fn_rt (s_if_ret (e_or_t (e_notT (e_isi (e_v rfl) rfl))) (s_ret e_k rfl)) rfl hc hc
  | str x => exact fn_rt (s_if_ret (e_or_t (e_notT (e_isi (e_v rfl) rfl))) (s_ret e_k rfl)) rfl hc hc
  | lst xs => exact fn_rt (s_if_ret (e_or_t (e_notT (e_isi (e_v rfl) rfl))) (s_ret e_k rfl)) rfl hc hc
  | dct ks vs => exact fn_rt (s_if_ret (e_or_t (e_notT (e_isi (e_v rfl) rfl))) (s_ret e_k rfl)) rfl hc hc
  | obj c f v => exact absurd rfl ((fine_not hd).1 c f v)
  | own i => exact absurd rfl ((fine_not hd).2.1 i)
  | drw => exact absurd rfl (fine_not hd).2.2
end K01

namespace K01
open PySem L2 PI PL
def rowD (r : List Str) : D := .tup (r.map .str)
def unS : D → Str
  | .str x => x
  | _ => ⟨#[]⟩
def unrow : D → List Str
  | .tup xs => xs.map unS
  | _ => []
theorem unrow_row (r : List Str) : unrow (rowD r) = r := by
  show (r.map D.str).map unS = r
  rw [List.map_map]
  exact List.map_id'' (fun _ => rfl) r
theorem unrow_rows (as : List (List Str)) : (as.map rowD).map unrow = as := by
  rw [List.map_map]
  exact List.map_id'' (fun r => unrow_row r) as
theorem rows_inj {as bs : List (List Str)} (h : as.map rowD = bs.map rowD) : as = bs := by
  rw [← unrow_rows as, h, unrow_rows]
def Wds (ws : List Str) : Prop := ∀ w ∈ ws, isWordS w = true
theorem let_small : ∀ c ∈ LET, c < 0x110000 := by decide +kernel
theorem word_plain {x : Str} (h : isWordS x = true) : plain (.str x) = true := by
  unfold isWordS at h
  rw [Bool.and_eq_true_iff] at h
  show x.cps.all (· < 0x110000) = true
  rw [Array.all_eq_true_iff_forall_mem]
  intro c hc
  have := List.all_eq_true.mp h.2 c (Array.mem_toList_iff.mpr hc)
  exact decide_eq_true (let_small c (by simpa using this))
theorem word_len {x : Str} (h : isWordS x = true) : 1 ≤ x.length ∧ x.length ≤ 8 := by
  unfold isWordS at h
  simp only [Bool.and_eq_true, decide_eq_true_eq] at h
  exact h.1
theorem row_plains : ∀ {r : List Str}, Wds r → plains (r.map D.str) = true ∧ deps (r.map D.str) = 0
  | [], _ => ⟨rfl, rfl⟩
  | x :: r, h => by
    obtain ⟨h1, h2⟩ := row_plains (r := r) fun w hw => h w (List.mem_cons_of_mem _ hw)
    refine ⟨?_, ?_⟩
    · show (plain (.str x) && plains (r.map D.str)) = true
      rw [word_plain (h x List.mem_cons_self), h1]; rfl
    · show max 0 (deps (r.map D.str)) = 0
      rw [h2]; rfl
theorem in_row {r : List Str} {x : Str} (hr : Wds r) (hx : isWordS x = true) : inD (.str x) (rowD r) = some (.bl (r.any fun y => y == x)) := by
  obtain ⟨h1, h2⟩ := row_plains hr
  show (if (plain (.str x) && plains (r.map D.str) && decide (min (dep (.str x)) (deps (r.map D.str)) ≤ 60)) = true then some (D.bl (inB (.str x) (r.map D.str))) else none) = _
  rw [word_plain hx, h1, h2, if_pos (show (true && true && decide (min (dep (D.str x)) 0 ≤ 60)) = true from rfl)]
  congr 2
  unfold inB
  rw [List.any_map]
  rfl
theorem without_ev (Γ : Fns) {ws r : List Str} {s : SS} (hw : Wds ws) (hr : Wds r) (hl : ws.length ≤ 100) (hc : s.cs = []) :
    fnM 3 (evSs Γ S_without) [rowD ws, rowD r] s = .ok (rowD (ws.filter fun p => !r.any fun y => eqS y p)) s := by
  refine fn_rt (s_ret (e_bi (n_cons (e_lc (t := .nm 2) (ds := ws.map D.str) (p := fun d => !r.any fun y => y == unS d) (f := id) (i_walk (e_v rfl) rfl rfl) (by rw [List.length_map]; exact Nat.le_trans hl (by decide)) fun d hd => ?_) n_nil) ?_) rfl) rfl hc hc
  · obtain ⟨x, hx, rfl⟩ := List.mem_map.mp hd
    refine ⟨_, rfl, e_cmp (e_v rfl) (e_v rfl) ?_, fun _ => ⟨e_v rfl, rfl⟩⟩
    show (inD (.str x) (rowD r)).bind notD = _
    rw [in_row hr (hw x hx)]
    rfl
  · show tupleD [.lst _] = _
    show some (D.tup _) = _
    rw [filter_map_congr D.str (q := fun p => !r.any fun y => eqS y p) (fun x _ => rfl), List.map_id]
    rfl
theorem flat_len {α β : Type} {f : α → List β} {n : Nat} : ∀ {xs : List α}, (∀ x ∈ xs, (f x).length ≤ n) → (xs.flatMap f).length ≤ xs.length * n
  | [], _ => by simp
  | x :: xs, h => by
    rw [List.flatMap_cons, List.length_append, List.length_cons, Nat.succ_mul]
    have := flat_len (xs := xs) fun z hz => h z (List.mem_cons_of_mem _ hz)
    have := h x List.mem_cons_self
    omega
theorem RW_len {ws : List Str} : ∀ m, (RW eqS ws m).length ≤ ws.length ^ m
  | 0 => Nat.le_refl _
  | m + 1 => by
    unfold RW
    refine Nat.le_trans (flat_len (n := ws.length) fun r _ => by rw [List.length_map]; exact List.length_filter_le _ _) ?_
    rw [Nat.pow_succ]
    exact Nat.mul_le_mul_right _ (RW_len m)
theorem LW_len {ws : List Str} : ∀ m, (LW ltS ws m).length ≤ ws.length ^ m
  | 0 => Nat.le_refl _
  | m + 1 => by
    unfold LW
    refine Nat.le_trans (flat_len (n := ws.length) fun r _ => by rw [List.length_map]; exact List.length_filter_le _ _) ?_
    rw [Nat.pow_succ]
    exact Nat.mul_le_mul_right _ (LW_len m)
theorem pow_lim {n m : Nat} (hn : n ≤ 6) (hm : m ≤ 6) : n ^ m ≤ LIM :=
  Nat.le_trans (Nat.pow_le_pow_left hn m) (Nat.le_trans (Nat.pow_le_pow_right (by decide) hm) (by decide))
theorem rows_wds {ws : List Str} (hw : Wds ws) {m : Nat} {r : List Str} (hr : r ∈ RW eqS ws m) : Wds r := fun w h => hw w ((RW_mem m r hr).1 w h)
theorem lots_wds {ws : List Str} (hw : Wds ws) {m : Nat} {r : List Str} (hr : r ∈ LW ltS ws m) : Wds r := fun w h => hw w ((LW_mem m r hr).1 w h)
theorem row_all (r : List Str) : (r.map D.str).all pureB = true := List.all_eq_true.mpr fun d hd => by
  obtain ⟨x, _, rfl⟩ := List.mem_map.mp hd
  rfl
theorem snoc_ev {Γ : Fns} {E : Env'} {s : SS} {i j : Nat} {r : List Str} {x : Str} (hi : E[i]? = some (some (rowD r))) (hj : E[j]? = some (some (.str x))) (hl : r.length ≤ 100) :
    evC Γ (.tup [.star (.v i), .v j]) E s = .ok (rowD (r ++ [x])) s := by
  have e : rowD (r ++ [x]) = .tup (r.map D.str ++ [.str x]) := by unfold rowD; rw [List.map_append]; rfl
  rw [e]
  refine e_tup (l_star (e_v hi) rfl (l_cons (e_v hj) rfl l_nil)) ?_ ?_
  · rw [List.all_append, row_all]; rfl
  · have : LIM = 1000000 := rfl
    simp; omega
theorem rows_of_ev (Γ : Fns) {ws : List Str} {m : Nat} {s : SS} (h297 : ∀ {r : List Str}, Wds r → Γ 297 [rowD ws, rowD r] s = .ok (rowD (ws.filter fun p => !r.any fun y => eqS y p)) s) (hw : Wds ws) (hl : ws.length ≤ 6) (hm : m ≤ 6) (hc : s.cs = []) :
    fnM 6 (evSs Γ S_rows_of) [rowD ws, .int m] s = .ok (.lst ((RW eqS ws m).map rowD)) s := by
  obtain ⟨E, s1, hf, rfl, x, rfl, _⟩ := for_inv (t := .nm 3) (bd := evSs Γ [.asg (.nm 2) (.lc2 [4, 5] (.nm 4) (.v 2) [5] (.nm 5) (.call 297 [.v 0, .v 4]) (.k (.bl true)) (.tup [.star (.v 4), .v 5]))])
    (fun ds E s' => s' = s ∧ ∃ x, E = [some (rowD ws), some (.int m), some (.lst ((RW eqS ws (m - ds.length)).map rowD)), x, none, none] ∧ ds.length ≤ m)
    (ds := rangeL 0 m) (env := [some (rowD ws), some (.int m), some (.lst [.tup []]), none, none, none]) (s := s)
    ⟨rfl, none, by have e : (rangeL 0 (m : Int)).length = m := by simp [rangeL]
                   rw [e, Nat.sub_self]; rfl, by simp [rangeL]⟩
    (fun d ds env s' ⟨e1, x, e2, e3⟩ => by
      subst e1 e2
      rw [List.length_cons] at e3
      refine ⟨_, [some (rowD ws), some (.int m), some (.lst ((RW eqS ws (m - ds.length)).map rowD)), some d, none, none], s', rfl, s_asg (d := .lst ((RW eqS ws (m - ds.length)).map rowD)) ?_ rfl rfl, rfl, some d, rfl, by omega⟩
      have em : m - ds.length = (m - (ds.length + 1)) + 1 := by omega
      rw [List.length_cons]
      generalize m - (ds.length + 1) = i at em ⊢
      have hi : i + 1 ≤ 6 := by omega
      rw [em]
      have key := e_lc2 (Γ := Γ) (a := .v 2) (b := .k (.bl true)) (e := .tup [.star (.v 4), .v 5]) (it2 := .call 297 [.v 0, .v 4]) (own := [4, 5]) (own2 := [5]) (t1 := .nm 4) (t2 := .nm 5) (env := [some (rowD ws), some (.int m), some (.lst ((RW eqS ws i).map rowD)), some d, none, none]) (s := s')
        (ds := (RW eqS ws i).map rowD) (ys := fun d => (ws.filter fun p => !(unrow d).any fun y => eqS y p).map D.str) (p := fun _ _ => true) (f := fun d y => rowD (unrow d ++ [unS y])) (i_walk (e_v rfl) rfl rfl)
        (fun d' hd => by
          obtain ⟨r, hr, rfl⟩ := List.mem_map.mp hd
          have hrl := (RW_mem i r hr).2
          rw [unrow_row]
          refine ⟨_, rfl, i_walk (e_call (n_cons (e_v rfl) (n_cons (e_v rfl) n_nil)) (h297 (rows_wds hw hr))) rfl rfl, fun y hy => ?_⟩
          obtain ⟨q, hq, rfl⟩ := List.mem_map.mp hy
          exact ⟨_, rfl, rfl, fun _ => ⟨snoc_ev rfl rfl (by omega), rfl⟩⟩)
      have el : (((RW eqS ws i).map rowD).flatMap fun d => (((ws.filter fun p => !(unrow d).any fun y => eqS y p).map D.str).filter fun _ => true).map fun y => rowD (unrow d ++ [unS y])) = (RW eqS ws (i + 1)).map rowD := by
        rw [List.flatMap_map]
        show _ = List.map rowD (List.flatMap _ (RW eqS ws i))
        rw [List.map_flatMap]
        refine flatMap_congr' fun r _ => ?_
        rw [unrow_row, List.filter_eq_self.mpr (fun _ _ => rfl), List.map_map, List.map_map]
        rfl
      rw [el] at key
      exact key (by rw [List.length_map]; exact Nat.le_trans (RW_len _) (pow_lim hl hi)))
  have hr : inR (m : Int) = true := by
    unfold inR
    rw [decide_eq_true (by omega), decide_eq_true (by omega)]; rfl
  refine fn_rt (s_asg (d := .lst [.tup []]) (e_lst (l_cons (e_tup l_nil rfl (by decide)) rfl l_nil) rfl (by decide)) rfl (s_for (i_rng1 (e_v rfl) hr) hf (s_ret (e_v rfl) rfl))) rfl hc hc
theorem ltD_str (x y : Str) : ltD (.str x) (.str y) = some (.bl (ltS x y)) := rfl
theorem atLast {α : Type} {xs : List α} {q : α} (h : xs.getLast? = some q) : atI xs (-1) = some q := by
  have hne : xs ≠ [] := fun e => by rw [e] at h; cases h
  have hl : 0 < xs.length := List.length_pos_iff.mpr hne
  unfold atI ixN
  rw [if_neg (by decide)]
  rw [List.getLast?_eq_getElem?] at h
  rw [if_pos (by omega)]
  show xs[_]? = _
  rw [← h]
  congr 1
  omega
theorem lots_with_ev (Γ : Fns) {ws : List Str} {m : Nat} {s : SS} (hw : Wds ws) (hl : ws.length ≤ 6) (hm : m ≤ 6) (hc : s.cs = []) :
    fnM 6 (evSs Γ S_lots_with) [rowD ws, .int m] s = .ok (.tup ((LW ltS ws m).map rowD)) s := by
  obtain ⟨E, s1, hf, rfl, x, rfl, _⟩ := for_inv (t := .nm 3) (bd := evSs Γ [.asg (.nm 2) (.lc2 [4, 5] (.nm 4) (.v 2) [5] (.nm 5) (.v 0) (.or (.cmp .eq (.v 4) (.tup [])) (.cmp .gt (.v 5) (.ix (.v 4) (.neg (.k (.int 1)))))) (.tup [.star (.v 4), .v 5]))])
    (fun ds E s' => s' = s ∧ ∃ x, E = [some (rowD ws), some (.int m), some (.lst ((LW ltS ws (m - ds.length)).map rowD)), x, none, none] ∧ ds.length ≤ m)
    (ds := rangeL 0 m) (env := [some (rowD ws), some (.int m), some (.lst [.tup []]), none, none, none]) (s := s)
    ⟨rfl, none, by have e : (rangeL 0 (m : Int)).length = m := by simp [rangeL]
                   rw [e, Nat.sub_self]; rfl, by simp [rangeL]⟩
    (fun d ds env s' ⟨e1, x, e2, e3⟩ => by
      subst e1 e2
      rw [List.length_cons] at e3
      refine ⟨_, [some (rowD ws), some (.int m), some (.lst ((LW ltS ws (m - ds.length)).map rowD)), some d, none, none], s', rfl, s_asg (d := .lst ((LW ltS ws (m - ds.length)).map rowD)) ?_ rfl rfl, rfl, some d, rfl, by omega⟩
      have em : m - ds.length = (m - (ds.length + 1)) + 1 := by omega
      rw [List.length_cons]
      generalize m - (ds.length + 1) = i at em ⊢
      have hi : i + 1 ≤ 6 := by omega
      rw [em]
      have key := e_lc2 (Γ := Γ) (a := .v 2) (b := .or (.cmp .eq (.v 4) (.tup [])) (.cmp .gt (.v 5) (.ix (.v 4) (.neg (.k (.int 1)))))) (e := .tup [.star (.v 4), .v 5]) (it2 := .v 0) (own := [4, 5]) (own2 := [5]) (t1 := .nm 4) (t2 := .nm 5) (env := [some (rowD ws), some (.int m), some (.lst ((LW ltS ws i).map rowD)), some d, none, none]) (s := s')
        (ds := (LW ltS ws i).map rowD) (ys := fun _ => ws.map D.str) (p := fun d y => goesOn ltS (unrow d) (unS y)) (f := fun d y => rowD (unrow d ++ [unS y])) (i_walk (e_v rfl) rfl rfl)
        (fun d' hd => by
          obtain ⟨r, hr, rfl⟩ := List.mem_map.mp hd
          have hrl := (LW_mem i r hr).2
          rw [unrow_row]
          refine ⟨_, rfl, i_walk (e_v rfl) rfl rfl, fun y hy => ?_⟩
          obtain ⟨q, hq, rfl⟩ := List.mem_map.mp hy
          refine ⟨_, rfl, ?_, fun _ => ⟨snoc_ev rfl rfl (by omega), rfl⟩⟩
          cases r with
          | nil => exact e_or_t (e_cmp (e_v rfl) (e_tup l_nil rfl (by decide)) rfl)
          | cons y0 r0 =>
            refine e_or_f (e_cmp (e_v rfl) (e_tup l_nil rfl (by decide)) rfl) ?_
            obtain ⟨z, hz⟩ : ∃ z, (y0 :: r0).getLast? = some z := ⟨_, List.getLast?_eq_some_getLast (by simp)⟩
            unfold goesOn
            rw [hz]
            refine e_cmp (e_v rfl) (e_ix (d := .str z) (e_v rfl) (e_neg e_k) ?_) rfl
            show atI ((y0 :: r0).map D.str) (-1) = _
            refine atLast ?_
            rw [List.getLast?_map, hz]
            rfl)
      have el : (((LW ltS ws i).map rowD).flatMap fun d => ((ws.map D.str).filter fun y => goesOn ltS (unrow d) (unS y)).map fun y => rowD (unrow d ++ [unS y])) = (LW ltS ws (i + 1)).map rowD := by
        rw [List.flatMap_map]
        show _ = List.map rowD (List.flatMap _ (LW ltS ws i))
        rw [List.map_flatMap]
        refine flatMap_congr' fun r _ => ?_
        rw [unrow_row, filter_map_congr D.str (q := fun p => goesOn ltS r p) (fun _ _ => rfl), List.map_map, List.map_map]
        rfl
      rw [el] at key
      exact key (by rw [List.length_map]; exact Nat.le_trans (LW_len _) (pow_lim hl hi)))
  have hr : inR (m : Int) = true := by
    unfold inR
    rw [decide_eq_true (by omega), decide_eq_true (by omega)]; rfl
  refine fn_rt (s_asg (d := .lst [.tup []]) (e_lst (l_cons (e_tup l_nil rfl (by decide)) rfl l_nil) rfl (by decide)) rfl (s_for (i_rng1 (e_v rfl) hr) hf (s_ret (e_bi (n_cons (e_v rfl) n_nil) rfl) rfl))) rfl hc hc
/-- the law's rows -/
theorem law_rows_ev (Γ : Fns) {ws : List Str} {m : Nat} {s : SS} (hw : Wds ws) (hl : ws.length ≤ 6) (hm : m ≤ 6) (hc : s.cs = []) :
    fnM 7 (evSs Γ S_law_rows) [rowD ws, .int m] s = .ok (.lst ((RW eqS ws m).map rowD)) s := by
  obtain ⟨E, s1, hf, rfl, x4, x5, x3, rfl, _⟩ := for_inv (t := .nm 3) (bd := evSs Γ [.asg (.nm 4) (.lst []), .for_ (.nm 5) (.v 2) [.asg (.nm 4) (.bin .add (.v 4) (.lc [6] (.nm 6) (.v 0) (.cmp .notin (.v 6) (.v 5)) (.bin .add (.v 5) (.tup [.v 6]))))], .asg (.nm 2) (.v 4)])
    (fun ds E s' => s' = s ∧ ∃ x4 x5 x3, E = [some (rowD ws), some (.int m), some (.lst ((RW eqS ws (m - ds.length)).map rowD)), x3, x4, x5, none] ∧ ds.length ≤ m)
    (ds := rangeL 0 m) (env := [some (rowD ws), some (.int m), some (.lst [.tup []]), none, none, none, none]) (s := s)
    ⟨rfl, none, none, none, by have e : (rangeL 0 (m : Int)).length = m := by simp [rangeL]
                               rw [e, Nat.sub_self]; rfl, by simp [rangeL]⟩
    (fun d ds env s' ⟨e1, x4, x5, x3, e2, e3⟩ => by
      subst e1 e2
      rw [List.length_cons] at e3
      have em : m - ds.length = (m - (ds.length + 1)) + 1 := by omega
      rw [List.length_cons]
      generalize m - (ds.length + 1) = i at em ⊢
      have hi : i + 1 ≤ 6 := by omega
      rw [em]
      -- the inner loop
      obtain ⟨E, s1, hf, rfl, pre, y5, rfl, hpre⟩ := for_inv (t := .nm 5) (bd := evSs Γ [.asg (.nm 4) (.bin .add (.v 4) (.lc [6] (.nm 6) (.v 0) (.cmp .notin (.v 6) (.v 5)) (.bin .add (.v 5) (.tup [.v 6]))))])
        (fun rs E s1 => s1 = s' ∧ ∃ (pre : List (List Str)) (y5 : Option D), E = [some (rowD ws), some (.int m), some (.lst ((RW eqS ws i).map rowD)), some d, some (.lst ((pre.flatMap fun r => (ws.filter fun p => !r.any fun y => eqS y p).map fun p => r ++ [p]).map rowD)), y5, none] ∧ pre.map rowD ++ rs = (RW eqS ws i).map rowD)
        (ds := (RW eqS ws i).map rowD) (env := [some (rowD ws), some (.int m), some (.lst ((RW eqS ws i).map rowD)), some d, some (.lst []), x5, none]) (s := s')
        ⟨rfl, [], x5, rfl, rfl⟩
        (fun r rs env s1 ⟨e1, pre, y5, e2, e3⟩ => by
          subst e1 e2
          have hr0 : r ∈ (RW eqS ws i).map rowD := by rw [← e3]; simp
          obtain ⟨r, hr, rfl⟩ := List.mem_map.mp hr0
          clear hr0
          have hrl := (RW_mem i r hr).2
          have hrw := rows_wds hw hr
          refine ⟨_, _, s1, rfl, s_asg (d := .lst (((pre ++ [r]).flatMap fun r => (ws.filter fun p => !r.any fun y => eqS y p).map fun p => r ++ [p]).map rowD)) (E := [some (rowD ws), some (.int m), some (.lst ((RW eqS ws i).map rowD)), some d, some (.lst (((pre ++ [r]).flatMap fun r => (ws.filter fun p => !r.any fun y => eqS y p).map fun p => r ++ [p]).map rowD)), some (rowD r), none]) ?_ rfl rfl, rfl, pre ++ [r], some (rowD r), rfl, by rw [List.map_append, List.append_assoc]; exact e3⟩
          have l1 : ((pre.flatMap fun r => (ws.filter fun p => !r.any fun y => eqS y p).map fun p => r ++ [p])).length ≤ (RW eqS ws (i + 1)).length ∧ (((pre ++ [r]).flatMap fun r => (ws.filter fun p => !r.any fun y => eqS y p).map fun p => r ++ [p])).length ≤ (RW eqS ws (i + 1)).length := by
            have hp : (pre ++ [r]) <+: RW eqS ws i := by
              refine ⟨rs.map unrow, rows_inj ?_⟩
              rw [← e3]
              have : ∀ d ∈ rs, ∃ r, d = rowD r := fun d hd => by
                have : d ∈ (RW eqS ws i).map rowD := by rw [← e3]; simp [hd]
                obtain ⟨r, _, rfl⟩ := List.mem_map.mp this
                exact ⟨r, rfl⟩
              have e4 : (rs.map unrow).map rowD = rs := by
                rw [List.map_map]
                refine (List.map_congr_left (g := id) fun d hd => ?_).trans (List.map_id _)
                obtain ⟨r, rfl⟩ := this d hd
                show rowD (unrow (rowD r)) = _
                rw [unrow_row]; rfl
              rw [List.map_append, List.map_append, e4]
              simp
            obtain ⟨post, hpost⟩ := hp
            unfold RW
            rw [← hpost]
            simp only [List.flatMap_append, List.length_append]
            exact ⟨by omega, by omega⟩
          have lim := Nat.le_trans (RW_len (ws := ws) (i + 1)) (pow_lim hl hi)
          have key := e_lc (Γ := Γ) (own := [6]) (t := .nm 6) (a := .v 0) (b := .cmp .notin (.v 6) (.v 5)) (e := .bin .add (.v 5) (.tup [.v 6])) (env := [some (rowD ws), some (.int m), some (.lst ((RW eqS ws i).map rowD)), some d, some (.lst ((pre.flatMap fun r => (ws.filter fun p => !r.any fun y => eqS y p).map fun p => r ++ [p]).map rowD)), some (rowD r), none]) (s := s1)
            (ds := ws.map D.str) (p := fun d => !r.any fun y => y == unS d) (f := fun d => rowD (r ++ [unS d])) (i_walk (e_v rfl) rfl rfl) (by rw [List.length_map]; exact Nat.le_trans hl (by decide)) (fun d hd => by
              obtain ⟨x, hx, rfl⟩ := List.mem_map.mp hd
              refine ⟨_, rfl, e_cmp (e_v rfl) (e_v rfl) ?_, fun _ => ⟨e_bin (e_v rfl) (e_tup (l_cons (e_v rfl) rfl l_nil) rfl (show 1 ≤ LIM by decide)) ?_, rfl⟩⟩
              · show (inD (.str x) (rowD r)).bind notD = _
                rw [in_row hrw (hw x hx)]
                rfl
              · show (if (r.map D.str).length + 1 ≤ LIM then some (D.tup (r.map D.str ++ [.str x])) else none) = _
                rw [if_pos (by rw [List.length_map]; exact Nat.le_trans (show r.length + 1 ≤ 10 by omega) (show 10 ≤ LIM by decide))]
                show _ = some (D.tup ((r ++ [x]).map D.str))
                rw [List.map_append]
                rfl)
          have el : (((ws.map D.str).filter fun d => !r.any fun y => y == unS d).map fun d => rowD (r ++ [unS d])) = ((ws.filter fun p => !r.any fun y => eqS y p).map fun p => r ++ [p]).map rowD := by
            rw [filter_map_congr D.str (q := fun p => !r.any fun y => eqS y p) (fun _ _ => rfl), List.map_map, List.map_map]
            rfl
          rw [el] at key
          refine e_bin (e_v rfl) key ?_
          show (if _ + _ ≤ LIM then some (D.lst _) else none) = _
          rw [← List.map_append]
          rw [List.flatMap_append] at l1 ⊢
          rw [if_pos]
          · simp
          · simp only [List.length_map, List.length_append, List.flatMap_cons, List.flatMap_nil, List.append_nil] at l1 ⊢
            omega)
      refine ⟨_, [some (rowD ws), some (.int m), some (.lst ((RW eqS ws (i + 1)).map rowD)), some d, some (.lst ((RW eqS ws (i + 1)).map rowD)), y5, none], s1, rfl, ?_, rfl, _, _, _, rfl, by omega⟩
      have epre : pre = RW eqS ws i := by
        rw [List.append_nil] at hpre
        exact rows_inj hpre
      subst epre
      exact s_asg (d := .lst []) (e_lst l_nil rfl (by decide)) rfl (s_for (i_walk (e_v rfl) rfl rfl) hf (s_asg (e_v rfl) rfl rfl)))
  have hr : inR (m : Int) = true := by
    unfold inR
    rw [decide_eq_true (by omega), decide_eq_true (by omega)]; rfl
  refine fn_rt (s_asg (d := .lst [.tup []]) (e_lst (l_cons (e_tup l_nil rfl (by decide)) rfl l_nil) rfl (by decide)) rfl (s_for (i_rng1 (e_v rfl) hr) hf (s_ret (e_v rfl) rfl))) rfl hc hc
end K01

namespace K01
open PySem L2 PI PL
/-! need_places, is_lot -/
def needOk : D → Bool
  | .tup xs => asc (.tup xs) && (decide (3 ≤ xs.length) && decide (xs.length ≤ 5))
  | _ => false
theorem asc_tup {d : D} (h : asc d = true) : ∃ xs, d = .tup xs := by
  cases d with
  | tup xs => exact ⟨xs, rfl⟩
  | _ => cases h
theorem need_ev (Γ : Fns) {d : D} {s : SS} (h157 : Γ 157 [d] s = .ok (.bl (asc d)) s) (hd : Fine0 d) (hc : s.cs = []) :
    fnM 1 (evSs Γ S_need_places) [d] s = if needOk d = true then .ok d s else .exc 0 d s := by
  have hp := fit_pure hd.f
  have t : evC Γ (.or (.not (.call 157 [.v 0])) (.not (.chain .le .le (.k (.int 3)) (.bi .len [.v 0]) (.k (.int 5))))) [some d] s = .ok (.bl (!needOk d)) s := by
    have c := e_call (f := 157) (n_cons (e_v (Γ := Γ) (env := [some d]) (i := 0) (s := s) rfl) n_nil) h157
    cases ha : asc d with
    | false =>
      rw [ha] at c
      have : needOk d = false := by cases d <;> first | rfl | (show (asc _ && _) = false; rw [ha]; rfl)
      rw [this]
      exact e_or_t (e_notT c)
    | true =>
      rw [ha] at c
      obtain ⟨xs, rfl⟩ := asc_tup ha
      have : needOk (.tup xs) = (decide (3 ≤ xs.length) && decide (xs.length ≤ 5)) := by show (asc _ && _) = _; rw [ha]; rfl
      rw [this, ← len_fix xs.length 3 5]
      exact e_or_f (e_notF c) (e_not (len_chainT rfl))
  cases hb : needOk d with
  | true =>
    rw [hb] at t
    rw [if_pos rfl]
    exact fn_rt (s_if_f t (s_ret (e_v rfl) hp)) hp hc hc
  | false =>
    rw [hb] at t
    rw [if_neg (by decide)]
    have r : evSs Γ S_need_places [some d] s = .exc 0 d [some d] s := by
      refine s_if_t t ?_ fun _ _ z => nomatch z
      show seqS (raiseS 0 (evC Γ (.v 0))) passS [some d] s = _
      unfold seqS raiseS
      rw [show evC Γ (.v 0) [some d] s = .ok d s from rfl]
      dsimp only
      rw [frz_ok hp]
      dsimp only
      rw [if_pos hp]
    unfold fnM
    rw [show startE 1 [d] = [some d] from rfl, r]
    dsimp only
    unfold PI.cutS
    rw [hc]
    obtain ⟨m, cs⟩ := s
    cases hc
    rfl
def lotB (ws : List Str) : D → Bool
  | .tup xs => asc (.tup xs) && xs.all fun d => ws.any fun y => y == unS d
  | _ => false
theorem words_of {xs : List D} (h : asc (.tup xs) = true) : ∃ r : List Str, xs = r.map D.str ∧ Wds r := by
  have h1 : xs.all isWord = true := by
    have : (xs.all isWord && _) = true := h
    exact (Bool.and_eq_true_iff.mp this).1
  refine ⟨xs.map unS, ?_, fun w hw => ?_⟩
  · rw [List.map_map]
    refine (List.map_id _).symm.trans (List.map_congr_left fun d hd => ?_)
    obtain ⟨x, rfl, _⟩ := word_str (List.all_eq_true.mp h1 d hd)
    rfl
  · obtain ⟨d, hd, rfl⟩ := List.mem_map.mp hw
    obtain ⟨x, rfl, hx⟩ := word_str (List.all_eq_true.mp h1 d hd)
    exact hx
theorem in_words {ws : List Str} (hw : Wds ws) {x : Str} (hx : isWordS x = true) : inD (.str x) (rowD ws) = some (.bl (ws.any fun y => y == x)) := in_row hw hx
theorem is_lot_ev (Γ : Fns) {ws : List Str} {d : D} {s : SS} (h157 : Γ 157 [d] s = .ok (.bl (asc d)) s) (hw : Wds ws) (hd : Fine0 d) (hc : s.cs = []) :
    fnM 3 (evSs Γ S_is_lot) [rowD ws, d] s = .ok (.bl (lotB ws d)) s := by
  have c := e_call (f := 157) (n_cons (e_v (Γ := Γ) (env := [some (rowD ws), some d, none]) (i := 1) (s := s) rfl) n_nil) h157
  refine fn_rt (s_ret (d := .bl _) ?_ rfl) rfl hc hc
  cases ha : asc d with
  | false =>
    rw [ha] at c
    have : lotB ws d = false := by cases d <;> first | rfl | (show (asc _ && _) = false; rw [ha]; rfl)
    rw [this]
    exact e_and_f c
  | true =>
    rw [ha] at c
    obtain ⟨xs, rfl⟩ := asc_tup ha
    have hl := tup_len hd w0
    have e : lotB ws (.tup xs) = xs.all fun d => ws.any fun y => y == unS d := by show (asc _ && _) = _; rw [ha]; rfl
    rw [e]
    obtain ⟨r, rfl, hr⟩ := words_of ha
    refine e_and_t c (e_bi (n_cons (e_lcA (t := .nm 2) (ds := r.map D.str) (f := fun d => .bl (ws.any fun y => y == unS d)) (i_walk (e_v rfl) rfl rfl) hl fun d hd => ?_) n_nil) ?_)
    · obtain ⟨x, hx, rfl⟩ := List.mem_map.mp hd
      exact ⟨_, rfl, e_cmp (e_v rfl) (e_v rfl) (in_words hw (hr x hx)), rfl⟩
    · show (boolsD (List.map _ _)).map (fun bs => D.bl (bs.all id)) = _
      rw [bools_map (fun d => ws.any fun y => y == unS d)]
      show some (D.bl ((List.map _ _).all id)) = _
      rw [List.all_map]
      rfl
/-! rules -/
def tagD (t : Str) (r : List Str) : D := .tup (.str t :: r.map .str)
def cond (r : List Str) : Bool := ltS (at0 r 1) (at0 r 2) && ltS (at0 r 1) (at0 r 3)
def rulesL (ws : List Str) : List D := (RW eqS ws 5).map (tagD "round") ++ ((RW eqS ws 4).filter cond).map (tagD "within")
theorem at_row {r : List Str} {k : Nat} (h : k < r.length) : ixD (rowD r) (.int (k : Int)) = some (.str (at0 r k)) := by
  show atI (r.map D.str) (k : Int) = _
  refine atI_nat ?_
  rw [List.getElem?_map]
  simp [at0, h]
theorem tag_ev {Γ : Fns} {E : Env'} {s : SS} {t : Str} {r : List Str} {i : Nat} (hi : E[i]? = some (some (rowD r))) (hl : r.length ≤ 100) : evC Γ (.tup [.k (.str t), .star (.v i)]) E s = .ok (tagD t r) s := by
  have e : tagD t r = .tup (.str t :: (r.map D.str ++ [])) := by rw [List.append_nil]; rfl
  rw [e]
  refine e_tup (l_cons e_k rfl (l_star (e_v hi) rfl l_nil)) ?_ ?_
  · rw [List.append_nil, List.all_cons, row_all]; rfl
  · have : LIM = 1000000 := rfl
    simp; omega
theorem tag_ev' {Γ : Fns} {E : Env'} {s : SS} {t : Str} {r : List Str} {i : Nat} (hi : E[i]? = some (some (rowD r))) (hl : r.length ≤ 100) : evC Γ (.bin .add (.tup [.k (.str t)]) (.v i)) E s = .ok (tagD t r) s := by
  refine e_bin (e_tup (l_cons e_k rfl l_nil) rfl (show 1 ≤ LIM by decide)) (e_v hi) ?_
  show (if 1 + (r.map D.str).length ≤ LIM then some (D.tup ([.str t] ++ r.map D.str)) else none) = _
  rw [if_pos]
  · rfl
  · have : LIM = 1000000 := rfl
    simp; omega
theorem cond_ev {Γ : Fns} {E : Env'} {s : SS} {r : List Str} (hi : E[2]? = some (some (rowD r))) (hl : r.length = 4) :
    evC Γ (.and (.cmp .lt (.ix (.v 2) (.k (.int 1))) (.ix (.v 2) (.k (.int 2)))) (.cmp .lt (.ix (.v 2) (.k (.int 1))) (.ix (.v 2) (.k (.int 3))))) E s = .ok (.bl (cond r)) s :=
  e_and (e_cmp (e_ix (e_v hi) e_k (at_row (k := 1) (by omega))) (e_ix (e_v hi) e_k (at_row (k := 2) (by omega))) (ltD_str _ _)) fun _ => e_cmp (e_ix (e_v hi) e_k (at_row (k := 1) (by omega))) (e_ix (e_v hi) e_k (at_row (k := 3) (by omega))) (ltD_str _ _)
theorem lt_min (a b c : Str) : ltS a (if ltS c b = true then c else b) = (ltS a b && ltS a c) := by
  cases h : ltS c b with
  | true =>
    rw [if_pos rfl]
    cases h1 : ltS a c with
    | false => rw [Bool.and_false]
    | true => rw [ltS_trans h1 h]; rfl
  | false =>
    rw [if_neg (by decide)]
    cases h1 : ltS a b with
    | false => rfl
    | true =>
      cases h2 : ltS a c with
      | true => rfl
      | false =>
        exfalso
        unfold ltS at h h1 h2
        have h := of_decide_eq_false h
        have h1 := of_decide_eq_true h1
        have h2 := of_decide_eq_false h2
        exact h (List.lt_of_le_of_lt (List.not_lt.mp h2) h1)
theorem cond_ev' {Γ : Fns} {E : Env'} {s : SS} {r : List Str} (hi : E[2]? = some (some (rowD r))) (hl : r.length = 4) :
    evC Γ (.cmp .lt (.ix (.v 2) (.k (.int 1))) (.bi .min [.ix (.v 2) (.k (.int 2)), .ix (.v 2) (.k (.int 3))])) E s = .ok (.bl (cond r)) s := by
  refine e_cmp (e_ix (e_v hi) e_k (at_row (k := 1) (by omega))) (e_bi (n_cons (e_ix (e_v hi) e_k (at_row (k := 2) (by omega))) (n_cons (e_ix (e_v hi) e_k (at_row (k := 3) (by omega))) n_nil)) rfl) ?_
  show some (D.bl (ltS _ _)) = _
  rw [lt_min]
  rfl
theorem rows4 {ws : List Str} {r : List Str} (h : r ∈ RW eqS ws 4) : r.length = 4 := (RW_mem 4 r h).2
theorem rows5 {ws : List Str} {r : List Str} (h : r ∈ RW eqS ws 5) : r.length = 5 := (RW_mem 5 r h).2
theorem two_lists {A B : List D} (ha : A.length ≤ 10000) (hb : B.length ≤ 10000) : addD (.lst A) (.lst B) = some (.lst (A ++ B)) := by
  show (if A.length + B.length ≤ LIM then _ else _) = _
  rw [if_pos (Nat.le_trans (Nat.add_le_add ha hb) (by decide))]
theorem len5 {ws : List Str} {m : Nat} (hl : ws.length ≤ 6) (hm : m ≤ 5) : (RW eqS ws m).length ≤ 10000 :=
  Nat.le_trans (RW_len m) (Nat.le_trans (Nat.pow_le_pow_left hl m) (Nat.le_trans (Nat.pow_le_pow_right (by decide) hm) (by decide)))
theorem rules_ev (Γ : Fns) {ws : List Str} {s : SS} (h264 : ∀ {m : Nat}, m ≤ 6 → Γ 264 [rowD ws, .int m] s = .ok (.lst ((RW eqS ws m).map rowD)) s) (hl : ws.length ≤ 6) (hc : s.cs = []) :
    fnM 3 (evSs Γ S_rules) [rowD ws] s = .ok (.tup (rulesL ws)) s := by
  have l5 := len5 (m := 5) hl (by omega)
  have l4 := len5 (m := 4) hl (by omega)
  have a1 := e_lcA (Γ := Γ) (own := [2]) (t := .nm 2) (a := .call 264 [.v 0, .k (.int 5)]) (e := .tup [.k (.str "round"), .star (.v 2)]) (env := [some (rowD ws), none, none]) (s := s) (ds := (RW eqS ws 5).map rowD) (f := fun d => tagD "round" (unrow d))
    (i_walk (e_call (n_cons (e_v rfl) (n_cons e_k n_nil)) (h264 (m := 5) (by omega))) rfl rfl) (by rw [List.length_map]; exact Nat.le_trans l5 (by decide)) (fun d hd => by
      obtain ⟨r, hr, rfl⟩ := List.mem_map.mp hd
      rw [unrow_row]
      exact ⟨_, rfl, tag_ev rfl (by have := rows5 hr; omega), rfl⟩)
  have a2 := e_lc (Γ := Γ) (own := [2]) (t := .nm 2) (a := .call 264 [.v 0, .k (.int 4)]) (b := .and (.cmp .lt (.ix (.v 2) (.k (.int 1))) (.ix (.v 2) (.k (.int 2)))) (.cmp .lt (.ix (.v 2) (.k (.int 1))) (.ix (.v 2) (.k (.int 3))))) (e := .tup [.k (.str "within"), .star (.v 2)]) (env := [some (rowD ws), some (.lst (((RW eqS ws 5).map rowD).map fun d => tagD "round" (unrow d))), none]) (s := s) (ds := (RW eqS ws 4).map rowD) (p := fun d => cond (unrow d)) (f := fun d => tagD "within" (unrow d))
    (i_walk (e_call (n_cons (e_v rfl) (n_cons e_k n_nil)) (h264 (m := 4) (by omega))) rfl rfl) (by rw [List.length_map]; exact Nat.le_trans l4 (by decide)) (fun d hd => by
      obtain ⟨r, hr, rfl⟩ := List.mem_map.mp hd
      rw [unrow_row]
      exact ⟨_, rfl, cond_ev rfl (rows4 hr), fun _ => ⟨tag_ev rfl (by have := rows4 hr; omega), rfl⟩⟩)
  have e1 : (((RW eqS ws 5).map rowD).map fun d => tagD "round" (unrow d)) = (RW eqS ws 5).map (tagD "round") := by
    rw [List.map_map]
    exact List.map_congr_left fun r _ => by show tagD _ (unrow (rowD r)) = _; rw [unrow_row]
  have e2 : ((((RW eqS ws 4).map rowD).filter fun d => cond (unrow d)).map fun d => tagD "within" (unrow d)) = ((RW eqS ws 4).filter cond).map (tagD "within") := by
    rw [filter_map_congr rowD (q := cond) (fun r _ => by rw [unrow_row]), List.map_map]
    exact List.map_congr_left fun r _ => by show tagD _ (unrow (rowD r)) = _; rw [unrow_row]
  rw [e2] at a2
  rw [e1] at a1 a2
  refine fn_rt (s_asg a1 rfl (s_ret (e_bi (n_cons (e_bin (e_v rfl) a2 (two_lists (by rw [List.length_map]; exact l5) (by rw [List.length_map]; exact Nat.le_trans (List.length_filter_le _ _) l4))) n_nil) rfl) rfl)) rfl hc hc
theorem law_rules_ev (Γ : Fns) {ws : List Str} {s : SS} (h117 : ∀ {m : Nat}, m ≤ 6 → Γ 117 [rowD ws, .int m] s = .ok (.lst ((RW eqS ws m).map rowD)) s) (hl : ws.length ≤ 6) (hc : s.cs = []) :
    fnM 3 (evSs Γ S_law_rules) [rowD ws] s = .ok (.lst (rulesL ws)) s := by
  have l5 := len5 (m := 5) hl (by omega)
  have l4 := len5 (m := 4) hl (by omega)
  have a1 := e_lcA (Γ := Γ) (own := [2]) (t := .nm 2) (a := .call 117 [.v 0, .k (.int 5)]) (e := .bin .add (.tup [.k (.str "round")]) (.v 2)) (env := [some (rowD ws), none, none]) (s := s) (ds := (RW eqS ws 5).map rowD) (f := fun d => tagD "round" (unrow d))
    (i_walk (e_call (n_cons (e_v rfl) (n_cons e_k n_nil)) (h117 (m := 5) (by omega))) rfl rfl) (by rw [List.length_map]; exact Nat.le_trans l5 (by decide)) (fun d hd => by
      obtain ⟨r, hr, rfl⟩ := List.mem_map.mp hd
      rw [unrow_row]
      exact ⟨_, rfl, tag_ev' rfl (by have := rows5 hr; omega), rfl⟩)
  have a2 := e_lc (Γ := Γ) (own := [2]) (t := .nm 2) (a := .call 117 [.v 0, .k (.int 4)]) (b := .cmp .lt (.ix (.v 2) (.k (.int 1))) (.bi .min [.ix (.v 2) (.k (.int 2)), .ix (.v 2) (.k (.int 3))])) (e := .bin .add (.tup [.k (.str "within")]) (.v 2)) (env := [some (rowD ws), some (.lst (((RW eqS ws 5).map rowD).map fun d => tagD "round" (unrow d))), none]) (s := s) (ds := (RW eqS ws 4).map rowD) (p := fun d => cond (unrow d)) (f := fun d => tagD "within" (unrow d))
    (i_walk (e_call (n_cons (e_v rfl) (n_cons e_k n_nil)) (h117 (m := 4) (by omega))) rfl rfl) (by rw [List.length_map]; exact Nat.le_trans l4 (by decide)) (fun d hd => by
      obtain ⟨r, hr, rfl⟩ := List.mem_map.mp hd
      rw [unrow_row]
      exact ⟨_, rfl, cond_ev' rfl (rows4 hr), fun _ => ⟨tag_ev' rfl (by have := rows4 hr; omega), rfl⟩⟩)
  have e1 : (((RW eqS ws 5).map rowD).map fun d => tagD "round" (unrow d)) = (RW eqS ws 5).map (tagD "round") := by
    rw [List.map_map]
    exact List.map_congr_left fun r _ => by show tagD _ (unrow (rowD r)) = _; rw [unrow_row]
  have e2 : ((((RW eqS ws 4).map rowD).filter fun d => cond (unrow d)).map fun d => tagD "within" (unrow d)) = ((RW eqS ws 4).filter cond).map (tagD "within") := by
    rw [filter_map_congr rowD (q := cond) (fun r _ => by rw [unrow_row]), List.map_map]
    exact List.map_congr_left fun r _ => by show tagD _ (unrow (rowD r)) = _; rw [unrow_row]
  rw [e2] at a2
  rw [e1] at a1 a2
  refine fn_rt (s_asg a1 rfl (s_ret (e_bin (e_v rfl) a2 (two_lists (by rw [List.length_map]; exact l5) (by rw [List.length_map]; exact Nat.le_trans (List.length_filter_le _ _) l4))) rfl)) rfl hc hc
end K01

namespace K01
open PySem L2 PI PL
/-! the law's lots -/
abbrev sbF : List (List Str) → Str → List (List Str) := fun acc w => acc ++ acc.map fun r => r ++ [w]
theorem ltBs_lex : ∀ a b : List Str, ltBs (a.map D.str) (b.map D.str) = lexB eqS ltS a b
  | [], [] => rfl
  | [], _ :: _ => rfl
  | _ :: _, [] => rfl
  | x :: xs, y :: ys => by
    show (if (x == y) = true then ltBs (xs.map D.str) (ys.map D.str) else ltS x y) = (if (x == y) = true then lexB eqS ltS xs ys else ltS x y)
    rw [ltBs_lex xs ys]
theorem alike_rows : ∀ a b : List Str, alikeBs (a.map D.str) (b.map D.str) = true
  | [], [] => rfl
  | [], _ :: _ => rfl
  | _ :: _, [] => rfl
  | x :: xs, y :: ys => by
    show (true && alikeBs (xs.map D.str) (ys.map D.str)) = true
    rw [alike_rows xs ys]; rfl
theorem plains_of : ∀ {ds : List D}, (∀ d ∈ ds, plain d = true) → plains ds = true
  | [], _ => rfl
  | d :: ds, h => by
    show (plain d && plains ds) = true
    rw [h d List.mem_cons_self, plains_of fun z hz => h z (List.mem_cons_of_mem _ hz)]; rfl
theorem deps_of {n : Nat} : ∀ {ds : List D}, (∀ d ∈ ds, dep d ≤ n) → deps ds ≤ n
  | [], _ => Nat.zero_le _
  | d :: ds, h => by
    show max (dep d) (deps ds) ≤ n
    have := h d List.mem_cons_self
    have := deps_of (ds := ds) fun z hz => h z (List.mem_cons_of_mem _ hz)
    omega
theorem sort_rows {L : List (List Str)} (h0 : L.head? = some []) (hw : ∀ r ∈ L, Wds r) (hl : L.length ≤ 1000) : sortedD [.lst (L.map rowD)] = some (.lst ((sortBy (lexB eqS ltS) L).map rowD)) := by
  have ok : sortOk (L.map rowD) = true := by
    unfold sortOk
    have p1 : plains (L.map rowD) = true := plains_of fun d hd => by
      obtain ⟨r, hr, rfl⟩ := List.mem_map.mp hd
      exact (row_plains (hw r hr)).1
    have p2 : deps (L.map rowD) ≤ 40 := deps_of fun d hd => by
      obtain ⟨r, hr, rfl⟩ := List.mem_map.mp hd
      show deps (r.map D.str) + 1 ≤ 40
      rw [(row_plains (hw r hr)).2]; decide
    have p3 : allAlikeB (L.map rowD) = true := by
      unfold allAlikeB
      refine List.all_eq_true.mpr fun x hx => List.all_eq_true.mpr fun y hy => ?_
      obtain ⟨a, _, rfl⟩ := List.mem_map.mp hx
      obtain ⟨b, _, rfl⟩ := List.mem_map.mp hy
      exact alike_rows a b
    have p4 : kindB (L.map rowD) = true := by
      cases L with
      | nil => cases h0
      | cons r L =>
        cases h0
        show List.all (rowD [] :: L.map rowD) isTupB = true
        refine List.all_eq_true.mpr fun x hx => ?_
        rcases List.mem_cons.mp hx with rfl | hx
        · rfl
        · obtain ⟨a, _, rfl⟩ := List.mem_map.mp hx
          rfl
    rw [p1, p3, p4, decide_eq_true p2, decide_eq_true (show (L.map rowD).length ≤ LIM by rw [List.length_map]; exact Nat.le_trans hl (by decide))]
    rfl
  show (if sortOk (L.map rowD) = true then some (D.lst (sortBy ltB (L.map rowD))) else none) = _
  rw [if_pos ok, sortBy_map (lt := lexB eqS ltS) rowD L fun a _ b _ => ltBs_lex a b]
theorem SB_head (ws : List Str) : (SB ws).head? = some [] := by
  have : ∀ (ws : List Str) (acc : List (List Str)), acc.head? = some [] → (ws.foldl sbF acc).head? = some [] := by
    intro ws
    induction ws with
    | nil => intro acc h; exact h
    | cons w ws ih =>
      intro acc h
      rw [List.foldl_cons]
      refine ih _ ?_
      cases acc with
      | nil => cases h
      | cons a acc => exact h
  exact this ws [[]] rfl
theorem SB_len (ws : List Str) : (SB ws).length = 2 ^ ws.length := by
  have : ∀ (ws : List Str) (acc : List (List Str)), (ws.foldl sbF acc).length = acc.length * 2 ^ ws.length := by
    intro ws
    induction ws with
    | nil => intro acc; simp
    | cons w ws ih =>
      intro acc
      rw [List.foldl_cons, ih]
      simp only [List.length_append, List.length_map, List.length_cons, Nat.pow_succ]
      rw [Nat.add_mul, Nat.mul_comm (2 ^ ws.length) 2, ← Nat.mul_assoc, Nat.mul_two, Nat.add_mul]
  have := this ws [[]]
  rw [show (List.length [([] : List Str)]) = 1 from rfl, Nat.one_mul] at this
  exact this
def lotsL (ws : List Str) : List (List Str) := sortBy (lexB eqS ltS) (SB ws)
theorem law_lots_ev (Γ : Fns) {ws : List Str} {s : SS} (hw : Wds ws) (hl : ws.length ≤ 6) (hc : s.cs = []) :
    fnM 4 (evSs Γ S_law_lots) [rowD ws] s = .ok (.lst ((lotsL ws).map rowD)) s := by
  obtain ⟨E, s1, hf, rfl, x2, acc, rest, rfl, hrest, hfold, _⟩ := for_inv (t := .nm 2) (bd := evSs Γ [.asg (.nm 1) (.bin .add (.v 1) (.lc [3] (.nm 3) (.v 1) (.k (.bl true)) (.bin .add (.v 3) (.tup [.v 2]))))])
    (fun ds E s' => s' = s ∧ ∃ (x2 : Option D) (acc : List (List Str)) (rest : List Str), E = [some (rowD ws), some (.lst (acc.map rowD)), x2, none] ∧ ds = rest.map D.str ∧ rest.foldl sbF acc = SB ws ∧ (∀ r ∈ acc, r.length + rest.length ≤ 6) ∧ acc.length * 2 ^ rest.length ≤ 64)
    (ds := ws.map D.str) (env := [some (rowD ws), some (.lst [.tup []]), none, none]) (s := s)
    ⟨rfl, none, [[]], ws, rfl, rfl, rfl, (fun r hr => by rw [List.mem_singleton.mp hr]; simpa using hl), by
      rw [show (List.length [([] : List Str)]) = 1 from rfl, Nat.one_mul]
      exact Nat.pow_le_pow_right (n := 2) (by decide) hl⟩
    (fun d ds env s' ⟨e1, x2, acc, rest, e2, e3, e4, e5, e6⟩ => by
      subst e1 e2
      cases rest with
      | nil => cases e3
      | cons w rest =>
        rw [List.map_cons] at e3
        cases e3
        have la : acc.length ≤ 64 := by
          have := Nat.one_le_two_pow (n := (w :: rest).length)
          exact Nat.le_trans (Nat.le_mul_of_pos_right _ this) e6
        have key := e_lcA (Γ := Γ) (own := [3]) (t := .nm 3) (a := .v 1) (e := .bin .add (.v 3) (.tup [.v 2])) (env := [some (rowD ws), some (.lst (acc.map rowD)), some (.str w), none]) (s := s') (ds := acc.map rowD) (f := fun d => rowD (unrow d ++ [w])) (i_walk (e_v rfl) rfl rfl)
          (by rw [List.length_map]; exact Nat.le_trans la (by decide)) (fun d hd => by
            obtain ⟨r, hr, rfl⟩ := List.mem_map.mp hd
            rw [unrow_row]
            refine ⟨_, rfl, e_bin (e_v rfl) (e_tup (l_cons (e_v rfl) rfl l_nil) rfl (show 1 ≤ LIM by decide)) ?_, rfl⟩
            show (if (r.map D.str).length + 1 ≤ LIM then some (D.tup (r.map D.str ++ [.str w])) else none) = _
            rw [if_pos (by rw [List.length_map]; have := e5 r hr; exact Nat.le_trans (show r.length + 1 ≤ 10 by omega) (show 10 ≤ LIM by decide))]
            show _ = some (D.tup ((r ++ [w]).map D.str))
            rw [List.map_append]
            rfl)
        have el : ((acc.map rowD).map fun d => rowD (unrow d ++ [w])) = (acc.map fun r => r ++ [w]).map rowD := by
          rw [List.map_map, List.map_map]
          exact List.map_congr_left fun r _ => by show rowD (unrow (rowD r) ++ [w]) = _; rw [unrow_row]; rfl
        rw [el] at key
        refine ⟨_, _, s', rfl, s_asg (d := .lst ((sbF acc w).map rowD)) (e_bin (e_v rfl) key ?_) rfl rfl, rfl, some (.str w), sbF acc w, rest, rfl, rfl, e4, fun r hr => ?_, ?_⟩
        · refine (two_lists (by rw [List.length_map]; omega) (by rw [List.length_map, List.length_map]; omega)).trans ?_
          show some (D.lst _) = some (D.lst ((acc ++ _).map rowD))
          rw [List.map_append]
        · rcases List.mem_append.mp hr with z | z
          · have := e5 r z
            rw [List.length_cons] at this
            omega
          · obtain ⟨q, hq, rfl⟩ := List.mem_map.mp z
            have := e5 q hq
            rw [List.length_cons] at this
            simp
            omega
        · rw [List.length_append, List.length_map, Nat.add_mul]
          rw [List.length_cons, Nat.pow_succ, Nat.mul_comm (2 ^ rest.length) 2, ← Nat.mul_assoc, Nat.mul_two, Nat.add_mul] at e6
          exact e6)
  have er : rest = [] := by cases rest with | nil => rfl | cons _ _ => cases hrest
  subst er
  have ea : acc = SB ws := hfold
  subst ea
  refine fn_rt (s_asg (d := .lst [.tup []]) (e_lst (l_cons (e_tup l_nil rfl (by decide)) rfl l_nil) rfl (by decide)) rfl (s_for (i_walk (e_v rfl) rfl rfl) hf (s_ret (e_bi (n_cons (e_v rfl) n_nil) (sort_rows (SB_head ws) (fun r hr w hw' => hw w ((SB_mem r hr).1 w hw')) ?_)) rfl))) rfl hc hc
  rw [SB_len]
  exact Nat.le_trans (Nat.pow_le_pow_right (n := 2) (by decide) hl) (by decide)
theorem len_eq_ev {Γ : Fns} {E : Env'} {s : SS} {i m : Nat} {r : List Str} (hi : E[i]? = some (some (rowD r))) : evC Γ (.cmp .eq (.bi .len [.v i]) (.k (.int m))) E s = .ok (.bl (r.length == m)) s := by
  refine e_cmp (e_bi (n_cons (e_v hi) n_nil) rfl) e_k ?_
  show some (D.bl (((r.map D.str).length : Int) == (m : Int))) = _
  rw [List.length_map]
  congr 2
  rw [Bool.eq_iff_iff]
  simp
  omega
theorem lots_mem {ws : List Str} (hw : Wds ws) {r : List Str} (h : r ∈ lotsL ws) : Wds r := fun w hw' => hw w ((SB_mem r (mem_sortBy.mp h)).1 w hw')
theorem lotsL_len {ws : List Str} (hl : ws.length ≤ 6) : (lotsL ws).length ≤ 64 := by
  have e : (lotsL ws).length = (SB ws).length := by
    unfold lotsL
    have ins : ∀ (x : List Str) (ys : List (List Str)), (insBy (lexB eqS ltS) x ys).length = ys.length + 1 := by
      intro x ys
      induction ys with
      | nil => rfl
      | cons y ys ih =>
        unfold insBy
        split
        · rw [List.length_cons, ih, List.length_cons]
        · rfl
    generalize SB ws = L
    induction L with
    | nil => rfl
    | cons x L ih => unfold sortBy; rw [ins, ih]; rfl
  rw [e, SB_len]
  exact Nat.pow_le_pow_right (n := 2) (by decide) hl
theorem some_lots_ev {Γ : Fns} {ws : List Str} {E : Env'} {s : SS} {c : C} {i m : Nat} (hE : E.length > i) (hi : evI Γ c E s = .ok ((lotsL ws).map rowD) s) (hl : ws.length ≤ 6) :
    evC Γ (.lc [i] (.nm i) c (.cmp .eq (.bi .len [.v i]) (.k (.int m))) (.v i)) E s = .ok (.lst (((lotsL ws).filter fun r => r.length == m).map rowD)) s := by
  have key := e_lc (Γ := Γ) (own := [i]) (t := .nm i) (a := c) (b := .cmp .eq (.bi .len [.v i]) (.k (.int m))) (e := .v i) (env := E) (s := s) (ds := (lotsL ws).map rowD) (p := fun d => (unrow d).length == m) (f := id) hi
    (by rw [List.length_map]; exact Nat.le_trans (lotsL_len hl) (by decide)) (fun d hd => by
      obtain ⟨r, hr, rfl⟩ := List.mem_map.mp hd
      rw [unrow_row]
      have he : ((E.set i none).set i (some (rowD r)))[i]? = some (some (rowD r)) := by
        rw [List.getElem?_set_self (by rw [List.length_set]; exact hE)]
      refine ⟨(E.set i none).set i (some (rowD r)), ?_, len_eq_ev he, fun _ => ⟨e_v he, rfl⟩⟩
      show (if i < (E.set i none).length then some _ else none) = _
      rw [if_pos (by rw [List.length_set]; exact hE)]
      rfl)
  rw [List.map_id, filter_map_congr rowD (q := fun r => r.length == m) (fun r _ => by rw [unrow_row])] at key
  exact key
theorem law_threes_ev (Γ : Fns) {ws : List Str} {s : SS} (h78 : Γ 78 [rowD ws] s = .ok (.lst ((lotsL ws).map rowD)) s) (hl : ws.length ≤ 6) (hc : s.cs = []) :
    fnM 2 (evSs Γ S_law_threes) [rowD ws] s = .ok (.lst (((lotsL ws).filter fun r => r.length == 3).map rowD)) s :=
  fn_rt (s_ret (some_lots_ev (m := 3) (show 2 > 1 by decide) (i_walk (e_call (n_cons (e_v rfl) n_nil) h78) rfl rfl) hl) rfl) rfl hc hc
theorem threes_ev (Γ : Fns) {ws : List Str} {s : SS} (h : Γ 234 [rowD ws, .int 3] s = .ok (.tup ((LW ltS ws 3).map rowD)) s) (hc : s.cs = []) : fnM 1 (evSs Γ S_threes) [rowD ws] s = .ok (.tup ((LW ltS ws 3).map rowD)) s :=
  fn_rt (s_ret (e_call (n_cons (e_v rfl) (n_cons e_k n_nil)) h) rfl) rfl hc hc
theorem ways_ev (Γ : Fns) {ws : List Str} {s : SS} (h : Γ 234 [rowD ws, .int 2] s = .ok (.tup ((LW ltS ws 2).map rowD)) s) (hc : s.cs = []) : fnM 1 (evSs Γ S_ways) [rowD ws] s = .ok (.tup ((LW ltS ws 2).map rowD)) s :=
  fn_rt (s_ret (e_call (n_cons (e_v rfl) (n_cons e_k n_nil)) h) rfl) rfl hc hc
end K01

namespace K01
open PySem L2 PI PL
/-! sizes -/
theorem str_fine {x : Str} (h : isWordS x = true) {B : Nat} : Fine B 0 82 (.str x) := by
  refine ⟨word_plain h, Nat.le_refl _, ?_⟩
  show 10 * x.length + 2 ≤ 82
  have := (word_len h).2
  omega
theorem fits_of {B : Nat} {ds : List D} (h : ∀ d ∈ ds, fit B d = true) : fits B ds = true := fits_iff.mpr h
theorem wts_of {w : Nat} : ∀ {ds : List D}, (∀ d ∈ ds, wt d ≤ w) → wts ds ≤ ds.length * (w + 2)
  | [], _ => Nat.zero_le _
  | d :: ds, h => by
    show wt d + 2 + wts ds ≤ (ds.length + 1) * (w + 2)
    have := h d List.mem_cons_self
    have := wts_of (ds := ds) fun z hz => h z (List.mem_cons_of_mem _ hz)
    rw [Nat.succ_mul]
    omega
theorem tup_fine {B n w : Nat} {ds : List D} (h : ∀ d ∈ ds, Fine B n w d) : Fine B (n + 1) (ds.length * (w + 2) + 4) (.tup ds) :=
  ⟨fits_of fun d hd => (h d hd).f, Nat.succ_le_succ (dps_le.mpr fun d hd => (h d hd).n), Nat.add_le_add_right (wts_of fun d hd => (h d hd).w) 4⟩
theorem lst_fine {B n w : Nat} {ds : List D} (h : ∀ d ∈ ds, Fine B n w d) : Fine B (n + 1) (ds.length * (w + 2) + 4) (.lst ds) :=
  ⟨fits_of fun d hd => (h d hd).f, Nat.succ_le_succ (dps_le.mpr fun d hd => (h d hd).n), Nat.add_le_add_right (wts_of fun d hd => (h d hd).w) 4⟩
theorem row_fine {r : List Str} (h : Wds r) {B : Nat} : Fine B 1 (r.length * 84 + 4) (rowD r) := by
  have := tup_fine (B := B) (n := 0) (w := 82) (ds := r.map D.str) fun d hd => by
    obtain ⟨x, hx, rfl⟩ := List.mem_map.mp hd
    exact str_fine (h x hx)
  rw [List.length_map] at this
  exact this
theorem tag_fine {r : List Str} {t : Str} (ht : isWordS t = true) (h : Wds r) {B : Nat} : Fine B 1 ((r.length + 1) * 84 + 4) (tagD t r) := by
  have := tup_fine (B := B) (n := 0) (w := 82) (ds := .str t :: r.map D.str) fun d hd => by
    rcases List.mem_cons.mp hd with rfl | hd
    · exact str_fine ht
    · obtain ⟨x, hx, rfl⟩ := List.mem_map.mp hd
      exact str_fine (h x hx)
  rw [List.length_cons, List.length_map] at this
  exact this
theorem rules_fine {ws : List Str} (hw : Wds ws) (ha : Asc ws) (hn : ws.length ∈ [3, 4, 5]) : Fine (10 ^ 40) 50 200000 (.tup (rulesL ws)) := by
  have := tup_fine (B := 10 ^ 40) (n := 1) (w := 508) (ds := rulesL ws) fun d hd => by
    rcases List.mem_append.mp hd with z | z
    · obtain ⟨r, hr, rfl⟩ := List.mem_map.mp z
      exact (tag_fine (by decide) (rows_wds hw hr)).mono (Nat.le_refl _) (Nat.le_refl _) (by rw [rows5 hr]; decide)
    · obtain ⟨r, hr, rfl⟩ := List.mem_map.mp z
      have hr := (List.mem_filter.mp hr).1
      exact (tag_fine (by decide) (rows_wds hw hr)).mono (Nat.le_refl _) (Nat.le_refl _) (by rw [rows4 hr]; decide)
  refine this.mono (Nat.le_refl _) (by decide) ?_
  have l : (rulesL ws).length ≤ 240 := by
    unfold rulesL
    rw [List.length_append, List.length_map, List.length_map]
    have h1 := rows_few ha hn (m := 5) (by decide)
    have h2 := rows_few ha hn (m := 4) (by decide)
    have h3 := List.length_filter_le cond (RW eqS ws 4)
    omega
  have := Nat.mul_le_mul_right 510 l
  omega
theorem lots_fine {ws : List Str} (hw : Wds ws) (ha : Asc ws) (hn : ws.length ∈ [3, 4, 5]) {m : Nat} (hm : m ∈ [2, 3]) : Fine (10 ^ 40) 50 200000 (.tup ((LW ltS ws m).map rowD)) := by
  have m3 : m ≤ 3 := by rcases List.mem_cons.mp hm with rfl | hm; · decide
                        · rw [List.mem_singleton.mp hm]; decide
  have := tup_fine (B := 10 ^ 40) (n := 1) (w := 256) (ds := (LW ltS ws m).map rowD) fun d hd => by
    obtain ⟨r, hr, rfl⟩ := List.mem_map.mp hd
    refine (row_fine (lots_wds hw hr)).mono (Nat.le_refl _) (Nat.le_refl _) ?_
    rw [(LW_mem m r hr).2]
    omega
  refine this.mono (Nat.le_refl _) (by decide) ?_
  rw [List.length_map]
  have l := lots_few ha hn hm
  have := Nat.mul_le_mul_right 258 l
  omega
/-! odd things -/
def oddL : List D := [.non, .int 0, .int 1, .int 2, .int 9, .int (-1), .int 10, .int (-10), .bl true, .bl false, .str "", .str "a", .str "abcdefghi", .str "A", .str "all", .str "not", .tup [], .tup [.tup []], .tup [.str "a", .int 0],
  .lst [], .dct [] [], .int (10 ^ 30), .tup [.str "all", .tup []], .tup [.str "left", .str "a"], .str "a1", .tup [.non], .tup [.int 0], .tup [.str "a"], .tup [.str "a", .str "b", .str "c"]]
theorem odd_all : oddL.all (fun d => fit (10 ^ 31) d && decide (dp d ≤ 2) && decide (wt d ≤ 200)) = true := by decide +kernel
theorem odd_fine {d : D} (h : d ∈ oddL) : Fine (10 ^ 31) 2 200 d := by
  have := List.all_eq_true.mp odd_all d h
  simp only [Bool.and_eq_true, decide_eq_true_eq] at this
  exact ⟨this.1.1, this.1.2, this.2⟩
theorem at_in {α : Type} {xs : List α} {k : Int} (h0 : 0 ≤ k) (h1 : k < xs.length) : ∃ d, atI xs k = some d ∧ d ∈ xs := by
  have hk : k.toNat < xs.length := by omega
  refine ⟨xs[k.toNat], ?_, List.getElem_mem _⟩
  have e := atI_nat (xs := xs) (j := k.toNat) (v := xs[k.toNat]) (by simp)
  rw [show ((k.toNat : Nat) : Int) = k by omega] at e
  exact e
theorem e_next {Γ : Fns} {i : Nat} {c : C} {E : Env'} {n : Int} {d : D} {s s' : SS} (h90 : Γ 90 = nextM) (hv : E[i]? = some (some .drw)) (hb : evC Γ c E s = .ok (.int n) s) (h : nextM [.drw, .int n] s = .ok d s') : evC Γ (.call 90 [.v i, c]) E s = .ok d s' :=
  e_call (n_cons (e_v hv) (n_cons hb n_nil)) (by rw [h90]; exact h)
theorem odd_ev (Γ : Fns) {b : Nat} {s : SS} (h90 : Γ 90 = nextM) (hg : Go1 (b + 1) s) : ∃ d s', fnM 2 (evSs Γ S_law_odd) [.drw] s = .ok d s' ∧ Fine (10 ^ 31) 2 200 d ∧ Go1 b s' := by
  obtain ⟨k, s', hn, h0, h1, hg'⟩ := next_ok (n := 29) hg (by decide) (by decide)
  obtain ⟨d, hd, hm⟩ := at_in (xs := oddL) h0 h1
  refine ⟨d, s', ?_, odd_fine hm, hg'⟩
  have a1 : evSs Γ S_law_odd [some .drw, none] s = .rt d s' := by
    refine s_asg (E := [some .drw, some (.lst (oddL.take 19))]) (d := .lst (oddL.take 19)) rfl rfl ?_
    refine s_asg (E := [some .drw, some (.lst oddL)]) (d := .lst oddL) rfl rfl ?_
    exact s_ret (e_ix (e_v rfl) (e_next h90 rfl e_k hn) hd) (fit_pure (odd_fine hm).f)
  exact fn_rt a1 (fit_pure (odd_fine hm).f) hg.cs hg'.cs
end K01

namespace K01
open PySem L2 PI PL
/-! names -/
def tx (l : List Nat) : Str := ⟨l.toArray⟩
theorem tx_len (l : List Nat) : (tx l).length = l.length := by show l.toArray.size = _; simp
theorem tx_app (a b : List Nat) : tx a ++ tx b = tx (a ++ b) := by
  show (⟨a.toArray ++ b.toArray⟩ : Str) = _
  simp [tx]
theorem tx_add {a b : List Nat} (h : a.length + b.length ≤ 1000) : addD (.str (tx a)) (.str (tx b)) = some (.str (tx (a ++ b))) := by
  show (if (tx a).length + (tx b).length ≤ LIM then some (D.str (tx a ++ tx b)) else none) = _
  rw [tx_len, tx_len, if_pos (Nat.le_trans h (by decide)), tx_app]
theorem cutTo {α : Type} (xs : List α) (k : Nat) : cutL xs none (some (k : Int)) = xs.take k := by
  unfold cutL
  rw [HT.sIx_nat, HT.sIx_none, List.drop_zero, Nat.sub_zero]
  by_cases h : k ≤ xs.length
  · rw [Nat.min_eq_left h]
  · rw [Nat.min_eq_right (by omega), List.take_of_length_le (Nat.le_refl _), List.take_of_length_le (by omega)]
theorem cutFrom {α : Type} (xs : List α) (k : Nat) : cutL xs (some (k : Int)) none = xs.drop k := by
  unfold cutL
  rw [HT.sIx_nat, HT.sIx_none]
  rw [List.take_of_length_le (by rw [List.length_drop]; exact Nat.le_refl _)]
  by_cases h : k ≤ xs.length
  · rw [Nat.min_eq_left h]
  · rw [Nat.min_eq_right (by omega), List.drop_of_length_le (Nat.le_refl _), List.drop_of_length_le (by omega)]
theorem tx_cut {l : List Nat} (h : l.length ≤ 1000) (lo hi : Option Int) : cutD (.str (tx l)) lo hi = some (.str (tx (cutL l lo hi))) := by
  show (if (tx l).length ≤ LIM then some (D.str ⟨(cutL (tx l).cps.toList lo hi).toArray⟩) else none) = _
  rw [tx_len, if_pos (Nat.le_trans h (by decide))]
  show some (D.str ⟨(cutL (l.toArray).toList lo hi).toArray⟩) = _
  rw [List.toList_toArray]
  rfl
theorem tx_word {l : List Nat} (h1 : 1 ≤ l.length) (h2 : l.length ≤ 8) (h : ∀ c ∈ l, c ∈ LET) : isWordS (tx l) = true := by
  unfold isWordS
  rw [tx_len, decide_eq_true h1, decide_eq_true h2]
  show (true && true && (l.toArray.toList.all fun c => LET.contains c)) = true
  rw [List.toList_toArray, Bool.true_and, Bool.true_and]
  exact List.all_eq_true.mpr fun c hc => by simpa using h c hc
theorem tx_inj {a b : List Nat} (h : tx a = tx b) : a = b := by
  have : (tx a).cps.toList = (tx b).cps.toList := by rw [h]
  simpa [tx] using this
/-- a letter by its number -/
theorem let_at {k : Int} (h0 : 0 ≤ k) (h1 : k < 26) : ∃ c, ixD (.str "abcdefghijklmnopqrstuvwxyz") (.int k) = some (.str (tx [c])) ∧ LET[k.toNat]? = some c ∧ c ∈ LET := by
  have hk : k.toNat < LET.length := by have : LET.length = 26 := by decide
                                       omega
  refine ⟨LET[k.toNat], ?_, by simp, List.getElem_mem _⟩
  show (if Str.length "abcdefghijklmnopqrstuvwxyz" ≤ LIM then (atI LET k).map (fun c => D.str ⟨#[c]⟩) else none) = _
  rw [if_pos (by decide)]
  have e := atI_nat (xs := LET) (j := k.toNat) (v := LET[k.toNat]) (by simp)
  rw [show ((k.toNat : Nat) : Int) = k by omega] at e
  rw [e]
  rfl
abbrev LETD : D := .str "abcdefghijklmnopqrstuvwxyz"
theorem stem_ev (Γ : Fns) {b : Nat} {s : SS} {n : Int} (h90 : Γ 90 = nextM) (hg : Go1 (b + 8) s) :
    ∃ (l : List Nat) (x4 : Option D) (s' : SS) (ds : List D) (s1 : SS), evI Γ (.rng [.call 90 [.v 0, .k (.int 8)]]) [some .drw, some (.int n), some LETD, some (.str ""), none, none, none, none, none] s = .ok ds s1 ∧
      forL (.nm 4) (evSs Γ [.asg (.nm 3) (.bin .add (.v 3) (.ix (.v 2) (.call 90 [.v 0, .k (.int 26)])))]) ds [some .drw, some (.int n), some LETD, some (.str ""), none, none, none, none, none] s1 = .nx [some .drw, some (.int n), some LETD, some (.str (tx l)), x4, none, none, none, none] s' ∧
      l.length ≤ 7 ∧ (∀ c ∈ l, c ∈ LET) ∧ Go1 b s' := by
  obtain ⟨k, s1, hn, h0, h1, hg1⟩ := next_ok (n := 8) hg (by decide) (by decide)
  have hr : inR k = true := by
    unfold inR
    rw [decide_eq_true (by omega), decide_eq_true (by omega)]; rfl
  have hlen : (rangeL 0 k).length = k.toNat := by simp [rangeL]
  obtain ⟨E, s2, hf, l, x4, rfl, hl, hc, hg2⟩ := for_inv (t := .nm 4) (bd := evSs Γ [.asg (.nm 3) (.bin .add (.v 3) (.ix (.v 2) (.call 90 [.v 0, .k (.int 26)])))])
    (fun ds E s' => ∃ (l : List Nat) (x4 : Option D), E = [some .drw, some (.int n), some LETD, some (.str (tx l)), x4, none, none, none, none] ∧ l.length + ds.length ≤ 7 ∧ (∀ c ∈ l, c ∈ LET) ∧ Go1 (b + ds.length) s')
    (ds := rangeL 0 k) (env := [some .drw, some (.int n), some LETD, some (.str ""), none, none, none, none, none]) (s := s1)
    ⟨[], none, rfl, by rw [hlen]; show 0 + _ ≤ 7; omega, (fun _ h => nomatch h), hg1.less (by rw [hlen]; omega)⟩
    (fun d ds env s' ⟨l, x4, e1, e2, e3, e4⟩ => by
      subst e1
      rw [List.length_cons] at e2 e4
      obtain ⟨j, s2, hn2, j0, j1, hg2⟩ := next_ok (n := 26) (b := b + ds.length) e4 (by decide) (by decide)
      obtain ⟨c, ec, _, hc⟩ := let_at j0 j1
      refine ⟨_, _, s2, rfl, s_asg (d := .str (tx (l ++ [c]))) (E := [some .drw, some (.int n), some LETD, some (.str (tx (l ++ [c]))), some d, none, none, none, none]) (e_bin (e_v rfl) (e_ix (e_v rfl) (e_next h90 rfl e_k hn2) ec) (tx_add (by simp; omega))) rfl rfl, l ++ [c], some d, rfl, by simp; omega, fun z hz => ?_, hg2⟩
      rcases List.mem_append.mp hz with y | y
      · exact e3 z y
      · rw [List.mem_singleton.mp y]; exact hc)
  exact ⟨l, x4, s2, rangeL 0 k, s1, i_rng1 (e_next h90 rfl e_k hn) hr, hf, by simpa using hl, hc, by simpa using hg2⟩
theorem rep8 (c : Nat) : mulD (.str (tx [c])) (.int 8) = some (.str (tx [c, c, c, c, c, c, c, c])) := by
  show (if (2 ≤ (8 : Int) && (8 : Int) ≤ 1000 && decide ((tx [c]).length ≤ 1000)) = true then some (D.str (repS (tx [c]) (8 : Int).toNat)) else none) = _
  rw [tx_len, if_pos (show (decide ((2 : Int) ≤ 8) && decide ((8 : Int) ≤ 1000) && decide ([c].length ≤ 1000)) = true from rfl)]
  rfl
theorem bys : ∀ k : Int, 0 ≤ k → k < 6 → ∃ y : Int, ixD (.lst [.int 1, .int 3, .int 5, .int 7, .int 9, .int 11]) (.int k) = some (.int y) ∧ (y = 1 ∨ y = 3 ∨ y = 5 ∨ (5 < y ∧ y ≤ 11)) := by
  intro k h0 h1
  obtain ⟨d, h, hd⟩ := at_in (xs := [D.int 1, .int 3, .int 5, .int 7, .int 9, .int 11]) h0 h1
  simp only [List.mem_cons, List.not_mem_nil, or_false] at hd
  rcases hd with rfl | rfl | rfl | rfl | rfl | rfl
  · exact ⟨1, h, by omega⟩
  · exact ⟨3, h, by omega⟩
  · exact ⟨5, h, by omega⟩
  · exact ⟨7, h, by omega⟩
  · exact ⟨9, h, by omega⟩
  · exact ⟨11, h, by omega⟩
def unI : D → Nat
  | .int k => k.toNat
  | _ => 0
theorem range_mem {n : Nat} {d : D} (h : d ∈ rangeL 0 (n : Int)) : ∃ k : Nat, k < n ∧ d = .int (k : Int) := by
  unfold rangeL at h
  obtain ⟨k, hk, rfl⟩ := List.mem_map.mp h
  rw [List.mem_range] at hk
  exact ⟨k, by omega, by rw [Int.zero_add]⟩
theorem range_map {n : Nat} (g : Nat → Str) : (rangeL 0 (n : Int)).map (fun d => D.str (g (unI d))) = ((List.range n).map g).map D.str := by
  unfold rangeL
  rw [List.map_map, List.map_map]
  rw [show ((n : Int) - 0).toNat = n by omega]
  refine List.map_congr_left fun k _ => ?_
  show D.str (g ((0 : Int) + (k : Int)).toNat) = D.str (g k)
  rw [show ((0 : Int) + (k : Int)).toNat = k by omega]
theorem nodup_range {n : Nat} {g : Nat → Str} (h : ∀ i j, i < j → j < n → g i ≠ g j) : ((List.range n).map g).Nodup := by
  unfold List.Nodup
  rw [List.pairwise_map]
  refine List.Pairwise.imp_of_mem (R := fun a b => a < b) (fun {a b} ha hb hab => h a b hab (List.mem_range.mp hb)) List.pairwise_lt_range
structure Names (n : Nat) (ws : List Str) : Prop where
  len : ws.length = n
  nd : ws.Nodup
  wd : Wds ws
theorem names_of {n : Nat} {g : Nat → Str} (hw : ∀ k, k < n → isWordS (g k) = true) (h : ∀ i j, i < j → j < n → g i ≠ g j) : Names n ((List.range n).map g) :=
  ⟨by simp, nodup_range h, fun w hw' => by
    obtain ⟨k, hk, rfl⟩ := List.mem_map.mp hw'
    exact hw k (List.mem_range.mp hk)⟩
theorem names_ev (Γ : Fns) {b n : Nat} {s : SS} (h90 : Γ 90 = nextM) (hn : 3 ≤ n) (hn6 : n ≤ 6) (hg : Go1 (b + 11) s) :
    ∃ ws s', fnM 9 (evSs Γ S_law_names) [.drw, .int n] s = .ok (.lst (ws.map D.str)) s' ∧ Names n ws ∧ Go1 b s' := by
  obtain ⟨l, x4, s2, ds, s1, hi, hf, hl, hc, hg2⟩ := stem_ev Γ (b := b + 3) (n := n) h90 hg
  obtain ⟨at_, s3, n3, a0, a1, hg3⟩ := next_ok (n := ((tx l).length : Int) + 1) (b := b + 2) hg2 (by omega) (by rw [tx_len]; omega)
  obtain ⟨fi, s4, n4, f0, f1, hg4⟩ := next_ok (n := 26) (b := b + 1) hg3 (by decide) (by decide)
  obtain ⟨bi, s5, n5, b0, b1, hg5⟩ := next_ok (n := 6) (b := b) hg4 (by decide) (by decide)
  obtain ⟨by_, eby, hby⟩ := bys bi b0 b1
  obtain ⟨c1, ec1, _, hc1⟩ := let_at f0 f1
  have hr : inR (n : Int) = true := by
    unfold inR
    rw [decide_eq_true (by omega), decide_eq_true (by omega)]; rfl
  have hrl : (rangeL 0 (n : Int)).length ≤ LIM := by
    have : (rangeL 0 (n : Int)).length = n := by simp [rangeL]
    rw [this]; exact Nat.le_trans hn6 (by decide)
  obtain ⟨wl, ewl⟩ : ∃ wl : List Nat, wl = (l ++ [c1, c1, c1, c1, c1, c1, c1, c1]).take 8 := ⟨_, rfl⟩
  have hwl : wl.length = 8 := by rw [ewl]; simp
  have hwc : ∀ c ∈ wl, c ∈ LET := fun c h => by
    rw [ewl] at h
    have h := List.mem_of_mem_take h
    rcases List.mem_append.mp h with z | z
    · exact hc c z
    · simp only [List.mem_cons, List.not_mem_nil, or_false, or_self] at z
      rw [z]; exact hc1
  let E1 : Env' := [some .drw, some (.int n), some LETD, some (.str (tx l)), x4, some (.int at_), some (.int fi), some (.int by_), some (.str (tx wl))]
  -- what is behind the word
  have tail : ∃ ws, evSs Γ [.ite (.and (.cmp .gt (.v 7) (.k (.int 5))) (.cmp .lt (.v 1) (.k (.int 9)))) [.ret (.lc [4] (.nm 4) (.rng [.v 1]) (.k (.bl true)) (.ite (.cmp .gt (.v 7) (.k (.int 7))) (.sl (.v 8) (.v 4) (.nop)) (.sl (.v 8) (.nop) (.bin .sub (.bin .add (.v 4) (.k (.int 9))) (.v 1)))))] [],
      .ret (.lc [4] (.nm 4) (.rng [.v 1]) (.k (.bl true)) (.bin .add (.bin .add (.sl (.v 3) (.nop) (.v 5)) (.ix (.v 2) (.bin .mod (.bi .int [.bin .add (.v 6) (.bin .mul (.v 7) (.v 4))]) (.k (.int 26))))) (.sl (.v 3) (.v 5) (.nop))))] E1 s5 = .rt (.lst (ws.map D.str)) s5 ∧ Names n ws := by
    have t9 : evC Γ (.cmp .lt (.v 1) (.k (.int 9))) E1 s5 = .ok (.bl true) s5 := by
      refine e_cmp (e_v rfl) e_k ?_
      show some (D.bl (decide ((n : Int) < 9))) = _
      rw [decide_eq_true (by omega)]
    have t5 : evC Γ (.cmp .gt (.v 7) (.k (.int 5))) E1 s5 = .ok (.bl (decide (5 < by_))) s5 := e_cmp (e_v rfl) e_k rfl
    by_cases h5 : 5 < by_
    · rw [decide_eq_true h5] at t5
      by_cases h7 : 7 < by_
      · -- ends of the word
        refine ⟨(List.range n).map fun k => tx (wl.drop k), ?_, names_of (fun k hk => tx_word (by rw [List.length_drop]; omega) (by rw [List.length_drop]; omega) fun c h => hwc c (List.mem_of_mem_drop h)) fun i j hij hj e => ?_⟩
        · refine s_if_ret (e_and_t t5 t9) (s_ret ?_ rfl)
          rw [← range_map]
          refine e_lcA (t := .nm 4) (i_rng1 (e_v rfl) hr) hrl fun d hd => ?_
          obtain ⟨k, hk, rfl⟩ := range_mem hd
          refine ⟨_, rfl, e_ite (p := true) (e_cmp (e_v rfl) e_k (by show some (D.bl (decide (7 < by_))) = _; rw [decide_eq_true h7])) (fun _ => e_sl (e_v rfl) (o_int (e_v rfl)) o_nop ?_) (fun z => nomatch z), rfl⟩
          show cutD (.str (tx wl)) (some (k : Int)) none = _
          rw [tx_cut (by omega), cutFrom]
          rfl
        · have := congrArg List.length (tx_inj e)
          rw [List.length_drop, List.length_drop] at this
          omega
      · -- beginnings of the word
        refine ⟨(List.range n).map fun k => tx (wl.take (k + 9 - n)), ?_, names_of (fun k hk => tx_word (by rw [List.length_take]; omega) (by rw [List.length_take]; omega) fun c h => hwc c (List.mem_of_mem_take h)) fun i j hij hj e => ?_⟩
        · refine s_if_ret (e_and_t t5 t9) (s_ret ?_ rfl)
          rw [← range_map]
          refine e_lcA (t := .nm 4) (i_rng1 (e_v rfl) hr) hrl fun d hd => ?_
          obtain ⟨k, hk, rfl⟩ := range_mem hd
          refine ⟨_, rfl, e_ite (p := false) (e_cmp (e_v rfl) e_k (by show some (D.bl (decide (7 < by_))) = _; rw [decide_eq_false h7])) (fun z => nomatch z) (fun _ => e_sl (e_v rfl) o_nop (o_int (i := (k : Int) + 9 - n) (e_bin (e_bin (e_v rfl) e_k rfl) (e_v rfl) rfl)) ?_), rfl⟩
          show cutD (.str (tx wl)) none (some ((k : Int) + 9 - n)) = _
          rw [tx_cut (by omega), show (k : Int) + 9 - n = ((k + 9 - n : Nat) : Int) by omega, cutTo]
          rfl
        · have := congrArg List.length (tx_inj e)
          rw [List.length_take, List.length_take] at this
          omega
    · rw [decide_eq_false h5] at t5
      let gk : Nat → Nat := fun k => ((fi + by_ * k) % 26).toNat
      let cs : Nat → Nat := fun k => LET[gk k]?.getD 0
      have hgk : ∀ k, gk k < 26 := fun k => by
        have := Int.emod_nonneg (fi + by_ * k) (show (26 : Int) ≠ 0 by decide)
        have := Int.emod_lt_of_pos (fi + by_ * k) (show (0 : Int) < 26 by decide)
        show ((fi + by_ * k) % 26).toNat < 26
        omega
      have hcs : ∀ k, cs k ∈ LET := fun k => by
        have h : gk k < LET.length := by have : LET.length = 26 := by decide
                                         have := hgk k
                                         omega
        show LET[gk k]?.getD 0 ∈ LET
        rw [List.getElem?_eq_getElem h]
        exact List.getElem_mem _
      have a2 : at_.toNat ≤ l.length := by rw [tx_len] at a1; omega
      refine ⟨(List.range n).map fun k => tx (l.take at_.toNat ++ [cs k] ++ l.drop at_.toNat), ?_, names_of (fun k hk => tx_word (by rw [List.length_append, List.length_append]; simp; omega) (by simp; omega) fun c h => ?_) fun i j hij hj e => ?_⟩
      · refine s_if_f (e_and_f t5) (s_ret ?_ rfl)
        rw [← range_map]
        refine e_lcA (t := .nm 4) (i_rng1 (e_v rfl) hr) hrl fun d hd => ?_
        obtain ⟨k, hk, rfl⟩ := range_mem hd
        have sm : mulD (.int by_) (.int (k : Int)) = some (.int (by_ * k)) := mul_small (.inr (small_of (by omega) (by omega)))
        have m0 := Int.emod_nonneg (fi + by_ * k) (show (26 : Int) ≠ 0 by decide)
        have m1 := Int.emod_lt_of_pos (fi + by_ * k) (show (0 : Int) < 26 by decide)
        obtain ⟨c, ec, el, _⟩ := let_at m0 m1
        have ecs : c = cs k := by show c = LET[gk k]?.getD 0; rw [show LET[gk k]? = some c from el]; rfl
        refine ⟨_, rfl, e_bin (x := .str (tx (l.take at_.toNat ++ [c]))) (e_bin (x := .str (tx (l.take at_.toNat))) (e_sl (e_v rfl) o_nop (o_int (e_v rfl)) ?_) (e_ix (e_v rfl) (e_bin (e_bi (n_cons (e_bin (e_v rfl) (e_bin (e_v rfl) (e_v rfl) sm) rfl) n_nil) rfl) e_k (mod_pos (by decide))) ec) (tx_add (a := l.take at_.toNat) (b := [c]) (by simp; omega))) (e_sl (d := .str (tx (l.drop at_.toNat))) (e_v rfl) (o_int (e_v rfl)) o_nop ?_) ((tx_add (a := l.take at_.toNat ++ [c]) (b := l.drop at_.toNat) (by simp; omega)).trans ?_), rfl⟩
        · show cutD (.str (tx l)) none (some at_) = _
          rw [tx_cut (by omega), show at_ = ((at_.toNat : Nat) : Int) by omega, cutTo, Int.toNat_natCast]
        · show cutD (.str (tx l)) (some at_) none = _
          rw [tx_cut (by omega), show at_ = ((at_.toNat : Nat) : Int) by omega, cutFrom, Int.toNat_natCast]
        · rw [ecs]
          rfl
      · rcases List.mem_append.mp h with z | z
        · rcases List.mem_append.mp z with y | y
          · exact hc c (List.mem_of_mem_take y)
          · rw [List.mem_singleton.mp y]; exact hcs k
        · exact hc c (List.mem_of_mem_drop z)
      · have e := tx_inj e
        rw [List.append_assoc, List.append_assoc] at e
        have e := List.append_cancel_left e
        have e3 : cs i = cs j := by
          have := congrArg List.head? e
          simpa using this
        have lnd : ∀ p : Nat, p < 26 → ∀ q : Nat, q < 26 → LET[p]?.getD 0 = LET[q]?.getD 0 → p = q := by decide +kernel
        have e4 := lnd _ (hgk i) _ (hgk j) e3
        have m0 := Int.emod_nonneg (fi + by_ * i) (show (26 : Int) ≠ 0 by decide)
        have m1 := Int.emod_nonneg (fi + by_ * j) (show (26 : Int) ≠ 0 by decide)
        have e5 : (fi + by_ * i) % 26 = (fi + by_ * j) % 26 := by
          have : ((fi + by_ * i) % 26).toNat = ((fi + by_ * j) % 26).toNat := e4
          omega
        rcases hby with rfl | rfl | rfl | h
        · omega
        · omega
        · omega
        · omega
  obtain ⟨ws, ht, hN⟩ := tail
  refine ⟨ws, s5, ?_, hN, hg5⟩
  refine fn_rt (d := .lst (ws.map D.str)) ?_ rfl hg.cs hg5.cs
  refine s_asg (d := .tup [LETD, .str ""]) (E := [some .drw, some (.int n), some LETD, some (.str ""), none, none, none, none, none]) rfl rfl ?_
  refine s_for hi hf ?_
  refine s_asg (d := .tup [.int at_, .int fi, .int by_]) (E := [some .drw, some (.int n), some LETD, some (.str (tx l)), x4, some (.int at_), some (.int fi), some (.int by_), none]) (s1 := s5) ?_ rfl ?_
  · refine e_tup (l_cons (e_next h90 rfl (e_bin (x := .int ((tx l).length : Nat)) (e_bi (n_cons (e_v rfl) n_nil) ?_) e_k rfl) n3) rfl (l_cons (e_next h90 rfl e_k n4) rfl (l_cons (e_ix (x := .lst [.int 1, .int 3, .int 5, .int 7, .int 9, .int 11]) (s1 := s4) rfl (e_next h90 rfl e_k n5) eby) rfl l_nil))) rfl (show 3 ≤ LIM by decide)
    show (if (tx l).length ≤ LIM then some (D.int ((tx l).length : Nat)) else none) = _
    rw [tx_len, if_pos (Nat.le_trans hl (by decide))]
  · refine s_asg (d := .str (tx wl)) (E := E1) (e_sl (e_bin (e_v rfl) (e_bin (e_ix (e_v rfl) (e_v rfl) ec1) e_k (rep8 c1)) (tx_add (by simp; omega))) o_nop (o_int e_k) ?_) rfl ht
    show cutD (.str (tx (l ++ [c1, c1, c1, c1, c1, c1, c1, c1]))) none (some 8) = _
    rw [tx_cut (by simp; omega), show (8 : Int) = ((8 : Nat) : Int) from rfl, cutTo, ewl]
end K01

namespace K01
open PySem L2 PI PL
/-! words, sorted -/
theorem le_total : PySem.W.TotalLe fun a b : Str => !ltS b a := by
  refine ⟨fun a b c h1 h2 => ?_, fun a b => ?_⟩
  · simp only [Bool.not_eq_true'] at h1 h2 ⊢
    unfold ltS at h1 h2 ⊢
    have h1 := of_decide_eq_false h1
    have h2 := of_decide_eq_false h2
    refine decide_eq_false ?_
    exact List.not_lt.mpr (List.le_trans (List.not_lt.mp h1) (List.not_lt.mp h2))
  · simp only [Bool.not_eq_true']
    cases h : ltS b a with
    | false => exact .inl rfl
    | true => exact .inr (ltS_asymm h)
theorem sorted_perm (ws : List Str) : (sortBy ltS ws).Perm ws := by
  rw [sortBy_merge le_total]
  exact List.mergeSort_perm _ _
theorem sorted_asc {ws : List Str} (h : ws.Nodup) : Asc (sortBy ltS ws) := by
  have h1 := sortBy_pw le_total ws
  have h2 : (sortBy ltS ws).Nodup := (sorted_perm ws).nodup_iff.mpr h
  refine List.Pairwise.imp (R := fun a b => (!ltS b a) = true ∧ a ≠ b) (fun {a b} hab => ?_) (List.pairwise_and_iff.mpr ⟨h1, h2⟩)
  obtain ⟨p, q⟩ := hab
  simp only [Bool.not_eq_true'] at p
  unfold ltS at p ⊢
  have p := of_decide_eq_false p
  refine decide_eq_true ?_
  rcases List.le_iff_lt_or_eq.mp (List.not_lt.mp p) with z | z
  · exact z
  · refine absurd ?_ q
    obtain ⟨⟨x⟩⟩ := a
    obtain ⟨⟨y⟩⟩ := b
    have z : x = y := z
    rw [z]
theorem sort_words {ws : List Str} (hw : Wds ws) (h0 : 0 < ws.length) (hl : ws.length ≤ 1000) : sortedD [.lst (ws.map D.str)] = some (.lst ((sortBy ltS ws).map D.str)) := by
  have ok : sortOk (ws.map D.str) = true := by
    unfold sortOk
    obtain ⟨p1, p2⟩ := row_plains hw
    have p3 : allAlikeB (ws.map D.str) = true := by
      unfold allAlikeB
      refine List.all_eq_true.mpr fun x hx => List.all_eq_true.mpr fun y hy => ?_
      obtain ⟨a, _, rfl⟩ := List.mem_map.mp hx
      obtain ⟨b, _, rfl⟩ := List.mem_map.mp hy
      rfl
    have p4 : kindB (ws.map D.str) = true := by
      cases ws with
      | nil => cases h0
      | cons r L =>
        show List.all (.str r :: L.map D.str) (fun d => !isTupB d) = true
        refine List.all_eq_true.mpr fun x hx => ?_
        rcases List.mem_cons.mp hx with rfl | hx
        · rfl
        · obtain ⟨a, _, rfl⟩ := List.mem_map.mp hx
          rfl
    rw [p1, p3, p4, p2, decide_eq_true (show (ws.map D.str).length ≤ LIM by rw [List.length_map]; exact Nat.le_trans hl (by decide))]
    rfl
  show (if sortOk (ws.map D.str) = true then some (D.lst (sortBy ltB (ws.map D.str))) else none) = _
  rw [if_pos ok, sortBy_map (lt := ltS) D.str ws fun a _ b _ => rfl]
theorem names_sorted {n : Nat} {ws : List Str} (h : Names n ws) : Wds (sortBy ltS ws) ∧ Asc (sortBy ltS ws) ∧ (sortBy ltS ws).length = n :=
  ⟨fun w hw => h.wd w (mem_sortBy.mp hw), sorted_asc h.nd, by rw [(sorted_perm ws).length_eq, h.len]⟩
theorem words_ev (Γ : Fns) {b : Nat} {s : SS} (h90 : Γ 90 = nextM) (h86 : ∀ {b n : Nat} {s : SS}, 3 ≤ n → n ≤ 6 → Go1 (b + 11) s → ∃ ws s', Γ 86 [.drw, .int (n : Int)] s = .ok (.lst (ws.map D.str)) s' ∧ Names n ws ∧ Go1 b s') (hg : Go1 (b + 12) s) :
    ∃ ws s', fnM 2 (evSs Γ S_law_words) [.drw, .int 5] s = .ok (rowD ws) s' ∧ Wds ws ∧ Asc ws ∧ ws.length ∈ [3, 4, 5] ∧ Go1 b s' := by
  obtain ⟨k, s1, n1, k0, k1, hg1⟩ := next_ok (n := 3) (b := b + 11) hg (by decide) (by decide)
  obtain ⟨ws, s2, n2, hN, hg2⟩ := h86 (n := 3 + k.toNat) (by omega) (by omega) hg1
  rw [show ((3 + k.toNat : Nat) : Int) = 3 + k by omega] at n2
  obtain ⟨h1, h2, h3⟩ := names_sorted hN
  refine ⟨sortBy ltS ws, s2, ?_, h1, h2, ?_, hg2⟩
  · refine fn_rt (s_ret (e_bi (n_cons (e_bi (n_cons (e_call (n_cons (e_v rfl) (n_cons (e_bin e_k (e_next h90 rfl (e_bin (e_v rfl) e_k rfl) n1) rfl) n_nil)) n2) n_nil) (sort_words hN.wd (by rw [hN.len]; omega) (by rw [hN.len]; omega))) n_nil) rfl) rfl) rfl hg.cs hg2.cs
  · rw [h3]
    have : k.toNat = 0 ∨ k.toNat = 1 ∨ k.toNat = 2 := by omega
    rcases this with e | e | e <;> rw [e] <;> decide
/-! bent things -/
structure FineL (B n w : Nat) (L : List D) : Prop where
  f : fits B L = true
  n : dps L ≤ n
  w : wts L ≤ w
theorem Fine.list {B n w : Nat} {L : List D} (h : Fine B (n + 1) w (.tup L)) : FineL B n (w - 4) L ∧ 4 ≤ w := by
  have h1 : dps L + 1 ≤ n + 1 := h.n
  have h2 : wts L + 4 ≤ w := h.w
  exact ⟨⟨h.f, by omega, by omega⟩, by omega⟩
theorem FineL.tup {B n w : Nat} {L : List D} (h : FineL B n w L) : Fine B (n + 1) (w + 4) (.tup L) := ⟨h.f, Nat.succ_le_succ h.n, Nat.add_le_add_right h.w 4⟩
theorem FineL.lst {B n w : Nat} {L : List D} (h : FineL B n w L) : Fine B (n + 1) (w + 4) (.lst L) := ⟨h.f, Nat.succ_le_succ h.n, Nat.add_le_add_right h.w 4⟩
theorem FineL.mono {B n w B' n' w' : Nat} {L : List D} (h : FineL B n w L) (hb : B ≤ B') (hn : n ≤ n') (hw : w ≤ w') : FineL B' n' w' L := ⟨fits_mono hb L h.f, Nat.le_trans h.n hn, Nat.le_trans h.w hw⟩
theorem FineL.sub {B n w : Nat} {L M : List D} (h : FineL B n w L) (s : M.Sublist L) : FineL B n w M :=
  ⟨fits_iff.mpr fun d hd => fits_iff.mp h.f d (s.subset hd), dps_le.mpr fun d hd => dps_le.mp h.n d (s.subset hd), Nat.le_trans (wts_sub s) h.w⟩
theorem FineL.app {B n w v : Nat} {L M : List D} (h : FineL B n w L) (h' : FineL B n v M) : FineL B n (w + v) (L ++ M) :=
  ⟨fits_append.mpr ⟨h.f, h'.f⟩, by rw [dps_append]; exact Nat.max_le.mpr ⟨h.n, h'.n⟩, by rw [wts_append]; exact Nat.add_le_add h.w h'.w⟩
theorem FineL.one {B n w : Nat} {d : D} (h : Fine B n w d) : FineL B n (w + 2) [d] := by
  refine ⟨fits_iff.mpr fun z hz => ?_, dps_le.mpr fun z hz => ?_, ?_⟩
  · rw [List.mem_singleton.mp hz]; exact h.f
  · rw [List.mem_singleton.mp hz]; exact h.n
  · show wt d + 2 + 0 ≤ w + 2
    have := h.w
    omega
theorem FineL.perm {B n w : Nat} {L M : List D} (h : FineL B n w L) (p : M.Perm L) : FineL B n w M :=
  ⟨fits_iff.mpr fun d hd => fits_iff.mp h.f d (p.subset hd), dps_le.mpr fun d hd => dps_le.mp h.n d (p.subset hd), by rw [wts_perm p]; exact h.w⟩
theorem FineL.len {B n w : Nat} {L : List D} (h : FineL B n w L) : L.length ≤ w := Nat.le_trans wts_len h.w
theorem add_tup {A B : List D} (h : A.length + B.length ≤ 100000) : addD (.tup A) (.tup B) = some (.tup (A ++ B)) := by
  show (if A.length + B.length ≤ LIM then _ else _) = _
  rw [if_pos (Nat.le_trans h (by decide))]
theorem range_get {α : Type} : ∀ l : List α, (List.range l.length).filterMap (fun k => l[k]?) = l
  | [] => rfl
  | x :: l => by
    rw [List.length_cons, List.range_succ_eq_map, List.filterMap_cons]
    simp only [List.getElem?_cons_zero, List.filterMap_map]
    show x :: List.filterMap (fun k => l[k]?) (List.range l.length) = _
    rw [range_get l]
theorem filterMap_congr' {α β : Type} {f g : α → Option β} : ∀ {xs : List α}, (∀ x ∈ xs, f x = g x) → xs.filterMap f = xs.filterMap g
  | [], _ => rfl
  | x :: xs, h => by rw [List.filterMap_cons, List.filterMap_cons, h x List.mem_cons_self, filterMap_congr' fun z hz => h z (List.mem_cons_of_mem _ hz)]
theorem back_rev {α : Type} (xs : List α) : backL xs none none = xs.reverse := by
  have h := range_get xs.reverse
  rw [List.length_reverse] at h
  rw [← h]
  unfold backL
  have e1 : (Builtin.Slice.sliceAdjust none none (-1) (xs.length : Int)) = ((xs.length : Int) - 1, -1) := rfl
  have e2 : Builtin.Slice.slicePlaces ((xs.length : Int) - 1) (-1) (-1) = xs.length := by
    unfold Builtin.Slice.slicePlaces
    rw [if_neg (by decide)]
    by_cases hx : (xs.length : Int) - 1 > -1
    · rw [if_pos hx]
      show (((xs.length : Int) - 1 - -1 - 1) / 1 + 1).toNat = _
      rw [Int.ediv_one]
      omega
    · rw [if_neg hx]
      omega
  rw [e1]
  dsimp only
  rw [e2]
  refine filterMap_congr' fun k hk => ?_
  rw [List.mem_range] at hk
  rw [List.getElem?_reverse hk]
  congr 1
  omega
theorem str_cps {x : Str} {B : Nat} (h : fit B (.str x) = true) {y : List Nat} (hy : ∀ c ∈ y, c ∈ x.cps.toList ∨ c < 128) : fit B (.str (tx y)) = true := by
  have h' : x.cps.all (· < 0x110000) = true := h
  show (tx y).cps.all (· < 0x110000) = true
  rw [Array.all_eq_true_iff_forall_mem] at h' ⊢
  intro c hc
  rcases hy c (by simpa [tx] using hc) with z | z
  · exact h' c (Array.mem_toList_iff.mp z)
  · exact decide_eq_true (by omega)
theorem as_tx (x : Str) : x = tx x.cps.toList := by
  obtain ⟨⟨l⟩⟩ := x
  rfl
theorem str_fit {B n w v : Nat} {l y : List Nat} (h : Fine B n w (.str (tx l))) (hy : ∀ c ∈ y, c ∈ l ∨ c < 128) (hl : 10 * y.length + 2 ≤ v) : Fine B 0 v (.str (tx y)) := by
  refine ⟨str_cps h.f fun c hc => ?_, Nat.le_refl _, ?_⟩
  · rcases hy c hc with z | z
    · exact .inl (by simpa [tx] using z)
    · exact .inr z
  · show 10 * (tx y).length + 2 ≤ v
    rw [tx_len]; exact hl
theorem eq0 {k : Int} : eqD (.int k) (.int 0) = some (.bl (k == 0)) := rfl
theorem eqn (k j : Int) : eqD (.int k) (.int j) = some (.bl (k == j)) := rfl
def bB (B : Nat) : Nat := max B (10 ^ 31) + 10
theorem bB1 (B : Nat) : B ≤ bB B := by unfold bB; omega
theorem bB2 (B : Nat) : 10 ^ 31 ≤ bB B := by unfold bB; omega
/-- the last of the looks: an odd thing -/
theorem bent_odd {Γ Γ' : Fns} {b : Nat} {s : SS} {d : D} {E : Env'} (h93 : Γ 93 = fnM 2 (evSs Γ' S_law_odd)) (h90 : Γ' 90 = nextM) (hE : E[0]? = some (some .drw)) (hg : Go1 (b + 1) s) {c : C} {st : List S} (hc : evC Γ c E s = .ok (.bl true) s) :
    ∃ d' s', evSs Γ (.ite c [.ret (.call 93 [.v 0])] [] :: st) E s = .rt d' s' ∧ Fine (10 ^ 31) 2 200 d' ∧ Go1 b s' := by
  obtain ⟨d', s', ho, hf, hg'⟩ := odd_ev Γ' h90 hg
  exact ⟨d', s', s_if_ret hc (s_ret (e_call (n_cons (e_v hE) n_nil) (by rw [h93]; exact ho)) (fit_pure hf.f)), hf, hg'⟩
end K01

namespace K01
open PySem L2 PI PL
theorem split_at {xs : List D} {k : Int} (h0 : 0 ≤ k) (h1 : k < xs.length) : ∃ (A B : List D) (e : D), xs = A ++ e :: B ∧ A.length = k.toNat ∧ atI xs k = some e := by
  have hk : k.toNat < xs.length := by omega
  refine ⟨xs.take k.toNat, xs.drop (k.toNat + 1), xs[k.toNat], ?_, by rw [List.length_take]; omega, ?_⟩
  · rw [List.getElem_cons_drop, List.take_append_drop]
  · have e := atI_nat (xs := xs) (j := k.toNat) (v := xs[k.toNat]) (by simp)
    rw [show ((k.toNat : Nat) : Int) = k by omega] at e
    exact e
theorem cut_tup (xs : List D) (lo hi : Option Int) : cutD (.tup xs) lo hi = some (.tup (cutL xs lo hi)) := rfl
section
variable {A B : List D} {e : D} {k : Int}
theorem cutA (h0 : 0 ≤ k) (h : A.length = k.toNat) : cutL (A ++ e :: B) none (some k) = A := by
  rw [show k = ((k.toNat : Nat) : Int) by omega, cutTo, ← h, List.take_left']
  rfl
theorem cutB (h0 : 0 ≤ k) (h : A.length = k.toNat) : cutL (A ++ e :: B) (some (k + 1)) none = B := by
  rw [show k + 1 = ((k.toNat + 1 : Nat) : Int) by omega, cutFrom, ← h]
  rw [show A ++ e :: B = (A ++ [e]) ++ B by simp, List.drop_left']
  simp
theorem cutEB (h0 : 0 ≤ k) (h : A.length = k.toNat) : cutL (A ++ e :: B) (some k) none = e :: B := by
  rw [show k = ((k.toNat : Nat) : Int) by omega, cutFrom, ← h, List.drop_left']
  rfl
theorem cutE (h0 : 0 ≤ k) (h : A.length = k.toNat) : cutL (A ++ e :: B) (some k) (some (k + 1)) = [e] := by
  unfold cutL
  have h1 : HT.sIx (A ++ e :: B).length 0 (some k) = A.length := by
    rw [show k = ((k.toNat : Nat) : Int) by omega, HT.sIx_nat, ← h]
    simp
  have h2 : HT.sIx (A ++ e :: B).length (A ++ e :: B).length (some (k + 1)) = A.length + 1 := by
    rw [show k + 1 = ((k.toNat + 1 : Nat) : Int) by omega, HT.sIx_nat, ← h]
    simp
  rw [h1, h2, List.drop_left' rfl, show A.length + 1 - A.length = 1 by omega]
  rfl
end
abbrev bTail : List S := S_law_bent.drop 3
theorem bent_tail {Γ Γ' : Fns} {n B w b : Nat} {L : List D} {s : SS} (h90 : Γ 90 = nextM) (h93 : Γ 93 = fnM 2 (evSs Γ' S_law_odd)) (h90' : Γ' 90 = nextM)
    (h7 : ∀ {w b : Nat} {d : D} {s : SS}, Fine B n w d → w ≤ 10000 → Go1 (b + 6 * (n + 1)) s → ∃ d' s', Γ 7 [.drw, d] s = .ok d' s' ∧ Fine (bB B) (n + 2) (2 * w + 300) d' ∧ Go1 b s')
    (hd : Fine B (n + 1) w (.tup L)) (hne : 0 < L.length) (hw : w ≤ 10000) (hg : Go1 (b + 6 * (n + 1) + 3) s) :
    ∃ d' s', evSs Γ bTail [some .drw, some (.tup L), none, none] s = .rt d' s' ∧ Fine (bB B) (n + 3) (2 * w + 300) d' ∧ Go1 b s' := by
  obtain ⟨hL, h4⟩ := Fine.list hd
  have hlen := hL.len
  obtain ⟨k, s1, n1, k0, k1, hg1⟩ := next_ok (n := (L.length : Int)) (b := b + 6 * (n + 1) + 2) hg (by omega) (by omega)
  obtain ⟨p, s2, n2, p0, p1, hg2⟩ := next_ok (n := 11) (b := b + 6 * (n + 1) + 1) hg1 (by decide) (by decide)
  obtain ⟨A, C, e, rfl, hA, he⟩ := split_at k0 k1
  have lA : A.length + C.length + 1 ≤ 10000 := by
    rw [List.length_append, List.length_cons] at hlen
    omega
  have sA : A.Sublist (A ++ e :: C) := List.sublist_append_left _ _
  have sC : C.Sublist (A ++ e :: C) := (List.sublist_cons_self e C).trans (List.sublist_append_right _ _)
  let E : Env' := [some .drw, some (.tup (A ++ e :: C)), some (.int k), some (.int p)]
  have pk : ∀ j : Int, evC Γ (.cmp .eq (.v 3) (.k (.int j))) E s2 = .ok (.bl (p == j)) s2 := fun j => e_cmp (e_v rfl) e_k rfl
  have ea : evC Γ (.sl (.v 1) (.nop) (.v 2)) E s2 = .ok (.tup A) s2 := e_sl (e_v rfl) o_nop (o_int (e_v rfl)) (by rw [show vw s2 (.tup (A ++ e :: C)) = .tup (A ++ e :: C) from rfl, cut_tup, cutA k0 hA])
  have start : ∀ {r : SR}, evSs Γ (bTail.drop 1) E s2 = r → evSs Γ bTail [some .drw, some (.tup (A ++ e :: C)), none, none] s = r := fun {r} h => by
    refine s_par (xs := [.int k, .int p]) (s1 := s2) (E := E) (n_cons (e_next h90 rfl (e_bi (n_cons (e_v rfl) n_nil) rfl) n1) (n_cons (e_next h90 rfl e_k n2) n_nil)) rfl h
  have w2 : w - 4 + (w - 4) ≤ 2 * w + 300 - 4 := by omega
  -- the picks, one by one
  have neq : ∀ {j : Int}, p ≠ j → (p == j) = false := fun h => beq_eq_false_iff_ne.mpr h
  have eqj : ∀ {j : Int}, p = j → (p == j) = true := fun h => beq_iff_eq.mpr h
  by_cases c0 : p = 0
  · have t := pk 0
    rw [eqj c0] at t
    refine ⟨.tup (A ++ C), s2, start (s_if_ret t (s_ret (e_bin ea (e_sl (d := .tup C) (e_v rfl) (o_int (e_bin (e_v rfl) e_k rfl)) o_nop ?_) (add_tup (by omega))) rfl)), ?_, hg2.less (by omega)⟩
    · rw [show vw s2 (.tup (A ++ e :: C)) = .tup (A ++ e :: C) from rfl, cut_tup, cutB k0 hA]
    · exact (hL.sub (M := A ++ C) (List.Sublist.append_left (List.sublist_cons_self e C) A)).tup.mono (bB1 B) (by omega) (by omega)
  have t0 := pk 0
  rw [neq c0] at t0
  by_cases c1 : p = 1
  · have t := pk 1
    rw [eqj c1] at t
    refine ⟨.tup ((A ++ e :: C) ++ [e]), s2, start (s_if_f t0 (s_if_ret t (s_ret (e_bin (e_v rfl) (e_sl (d := .tup [e]) (e_v rfl) (o_int (e_v rfl)) (o_int (e_bin (e_v rfl) e_k rfl)) ?_) (add_tup (by simp; omega))) rfl))), ?_, hg2.less (by omega)⟩
    · rw [show vw s2 (.tup (A ++ e :: C)) = .tup (A ++ e :: C) from rfl, cut_tup, cutE k0 hA]
    · have : FineL B n (w - 4) [e] := hL.sub (List.singleton_sublist.mpr (by simp))
      exact (hL.app this).tup.mono (bB1 B) (by omega) (by omega)
  have t1 := pk 1
  rw [neq c1] at t1
  by_cases c2 : p = 2
  · have t := pk 2
    rw [eqj c2] at t
    exact ⟨.lst (A ++ e :: C), s2, start (s_if_f t0 (s_if_f t1 (s_if_ret t (s_ret (e_bi (n_cons (e_v rfl) n_nil) rfl) rfl)))), hL.lst.mono (bB1 B) (by omega) (by omega), hg2.less (by omega)⟩
  have t2 := pk 2
  rw [neq c2] at t2
  by_cases c3 : p = 3
  · have t := pk 3
    rw [eqj c3] at t
    obtain ⟨d', s3, ho, hf, hg3⟩ := odd_ev Γ' h90' (b := b + 6 * (n + 1)) hg2
    have hp := fit_pure hf.f
    refine ⟨.tup ((A ++ [d']) ++ (e :: C)), s3, start (s_if_f t0 (s_if_f t1 (s_if_f t2 (s_if_ret t (s_ret (e_bin (x := .tup (A ++ [d'])) (e_bin ea (e_tup (l_cons (e_call (n_cons (e_v rfl) n_nil) (by rw [h93]; exact ho)) hp l_nil) ?_ (show 1 ≤ LIM by decide)) (add_tup (by simp; omega))) (e_sl (d := .tup (e :: C)) (e_v rfl) (o_int (e_v rfl)) o_nop ?_) (add_tup (by simp; omega))) rfl))))), ?_, hg3.less (by omega)⟩
    · show (pureB d' && true) = true
      rw [hp]; rfl
    · rw [show vw s3 (.tup (A ++ e :: C)) = .tup (A ++ e :: C) from rfl, cut_tup, cutEB k0 hA]
    · have f1 : FineL (bB B) (n + 2) 202 [d'] := (FineL.one hf).mono (bB2 B) (by omega) (by omega)
      have f2 : FineL (bB B) (n + 2) (w - 4 + 202) ((A ++ e :: C) ++ [d']) := (hL.mono (bB1 B) (by omega) (Nat.le_refl _)).app f1
      have pm : ((A ++ [d']) ++ (e :: C)).Perm ((A ++ e :: C) ++ [d']) := by
        rw [List.append_assoc, List.append_assoc]
        exact List.Perm.append_left _ List.perm_append_comm
      exact (f2.perm pm).tup.mono (Nat.le_refl _) (Nat.le_refl _) (by omega)
  have t3 := pk 3
  rw [neq c3] at t3
  by_cases c4 : p = 4
  · have t := pk 4
    rw [eqj c4] at t
    refine ⟨.tup (A ++ e :: C).reverse, s2, start (s_if_f t0 (s_if_f t1 (s_if_f t2 (s_if_f t3 (s_if_ret t (s_ret (e_slr (e_v rfl) o_nop o_nop ?_) rfl)))))), (hL.perm (List.reverse_perm _)).tup.mono (bB1 B) (by omega) (by omega), hg2.less (by omega)⟩
    show some (D.tup (backL (A ++ e :: C) none none)) = _
    rw [back_rev]
  have t4 := pk 4
  rw [neq c4] at t4
  have fe : Fine B n (wt e) e := ⟨fits_iff.mp hL.f e (by simp), dps_le.mp hL.n e (by simp), Nat.le_refl _⟩
  have hwe : wts (A ++ e :: C) = wts A + (wt e + 2 + wts C) := wts_append
  have hlw := hL.w
  obtain ⟨d', s3, ho, hf, hg3⟩ := h7 (b := b + 1) fe (by omega) (hg2.less (by omega))
  have hp := fit_pure hf.f
  refine ⟨.tup ((A ++ [d']) ++ C), s3, start (s_if_f t0 (s_if_f t1 (s_if_f t2 (s_if_f t3 (s_if_f t4 (s_ret (e_bin (x := .tup (A ++ [d'])) (e_bin ea (e_tup (l_cons (e_call (n_cons (e_v rfl) (n_cons (e_ix (e_v rfl) (e_v rfl) he) n_nil)) ho) hp l_nil) ?_ (show 1 ≤ LIM by decide)) (add_tup (by simp; omega))) (e_sl (d := .tup C) (e_v rfl) (o_int (e_bin (e_v rfl) e_k rfl)) o_nop ?_) (add_tup (by simp; omega))) rfl)))))), ?_, hg3.less (by omega)⟩
  · show (pureB d' && true) = true
    rw [hp]; rfl
  · rw [show vw s3 (.tup (A ++ e :: C)) = .tup (A ++ e :: C) from rfl, cut_tup, cutB k0 hA]
  · have fA : FineL (bB B) (n + 2) (wts A) A := by
      have := hL.sub sA
      exact ⟨fits_mono (bB1 B) _ this.f, Nat.le_trans this.n (by omega), Nat.le_refl _⟩
    have fC : FineL (bB B) (n + 2) (wts C) C := by
      have := hL.sub sC
      exact ⟨fits_mono (bB1 B) _ this.f, Nat.le_trans this.n (by omega), Nat.le_refl _⟩
    exact ((fA.app (FineL.one hf)).app fC).tup.mono (Nat.le_refl _) (Nat.le_refl _) (by omega)
end K01

namespace K01
open PySem L2 PI PL
theorem bent_split : S_law_bent = S_law_bent.take 3 ++ bTail := rfl
theorem bent_str {Γ : Fns} {B n w b : Nat} {l : List Nat} {s : SS} (h90 : Γ 90 = nextM) (hd : Fine B n w (.str (tx l))) (hw : w ≤ 10000) (hg : Go1 (b + 1) s) :
    ∃ d' s', evC Γ (.ix (.lst [.bin .add (.v 1) (.k (.str "b")), .sl (.v 1) (.k (.int 1)) (.nop), .bin .add (.v 1) (.k (.str "A")), .bin .add (.v 1) (.k (.str " ")), .bin .mul (.v 1) (.k (.int 2)), .bin .add (.v 1) (.k (.str "1"))]) (.call 90 [.v 0, .k (.int 6)])) [some .drw, some (.str (tx l)), none, none] s = .ok d' s' ∧ Fine B 0 (2 * w + 300) d' ∧ Go1 b s' := by
  have hl : 10 * l.length + 2 ≤ w := by
    have : 10 * (tx l).length + 2 ≤ w := hd.w
    rwa [tx_len] at this
  obtain ⟨k, s1, n1, k0, k1, hg1⟩ := next_ok (n := 6) hg (by decide) (by decide)
  have m2 : mulD (.str (tx l)) (.int 2) = some (.str (tx (l ++ l))) := by
    show (if (2 ≤ (2 : Int) && (2 : Int) ≤ 1000 && decide ((tx l).length ≤ 1000)) = true then some (D.str (repS (tx l) (2 : Int).toNat)) else none) = _
    rw [tx_len, decide_eq_true (show l.length ≤ 1000 by omega), if_pos (by decide)]
    show some (D.str ⟨(List.replicate 2 (l.toArray.toList)).flatten.toArray⟩) = _
    rw [List.toList_toArray]
    simp [tx, List.replicate]
  let L : List D := [.str (tx (l ++ [98])), .str (tx (l.drop 1)), .str (tx (l ++ [65])), .str (tx (l ++ [32])), .str (tx (l ++ l)), .str (tx (l ++ [49]))]
  obtain ⟨d', hd', hm⟩ := at_in (xs := L) k0 k1
  have ad : ∀ c : Nat, addD (.str (tx l)) (.str (tx [c])) = some (.str (tx (l ++ [c]))) := fun c => tx_add (by simp; omega)
  have hL : evC Γ (.lst [.bin .add (.v 1) (.k (.str "b")), .sl (.v 1) (.k (.int 1)) (.nop), .bin .add (.v 1) (.k (.str "A")), .bin .add (.v 1) (.k (.str " ")), .bin .mul (.v 1) (.k (.int 2)), .bin .add (.v 1) (.k (.str "1"))]) [some .drw, some (.str (tx l)), none, none] s = .ok (.lst L) s := by
    refine e_lst (l_cons (e_bin (e_v rfl) e_k (ad 98)) rfl (l_cons (e_sl (e_v rfl) (o_int e_k) o_nop ?_) rfl (l_cons (e_bin (e_v rfl) e_k (ad 65)) rfl (l_cons (e_bin (e_v rfl) e_k (ad 32)) rfl (l_cons (e_bin (e_v rfl) e_k m2) rfl (l_cons (e_bin (e_v rfl) e_k (ad 49)) rfl l_nil)))))) rfl (show 6 ≤ LIM by decide)
    show cutD (.str (tx l)) (some 1) none = _
    rw [tx_cut (by omega), cut1]
  refine ⟨d', s1, e_ix hL (e_next h90 rfl e_k n1) hd', ?_, hg1⟩
  simp only [L, List.mem_cons, List.not_mem_nil, or_false] at hm
  have one : ∀ c : Nat, c < 128 → Fine B 0 (2 * w + 300) (.str (tx (l ++ [c]))) := fun c hc => str_fit hd (fun z hz => by
    rcases List.mem_append.mp hz with y | y
    · exact .inl y
    · rw [List.mem_singleton.mp y]; exact .inr hc) (by simp; omega)
  rcases hm with rfl | rfl | rfl | rfl | rfl | rfl
  · exact one 98 (by decide)
  · exact str_fit hd (fun z hz => .inl (List.mem_of_mem_drop hz)) (by simp; omega)
  · exact one 65 (by decide)
  · exact one 32 (by decide)
  · exact str_fit hd (fun z hz => by
      rcases List.mem_append.mp hz with y | y
      · exact .inl y
      · exact .inl y) (by simp; omega)
  · exact one 49 (by decide)
theorem bent_int {Γ : Fns} {B n w b : Nat} {i : Int} {s : SS} (h90 : Γ 90 = nextM) (hd : Fine B n w (.int i)) (hg : Go1 (b + 1) s) :
    ∃ d' s', evC Γ (.bin .add (.v 1) (.ix (.lst [.k (.int 1), .neg (.k (.int 1)), .k (.int 2), .neg (.k (.int 2)), .k (.int 10), .neg (.k (.int 10))]) (.call 90 [.v 0, .k (.int 6)]))) [some .drw, some (.int i), none, none] s = .ok d' s' ∧ Fine (bB B) 0 (2 * w + 300) d' ∧ Go1 b s' := by
  obtain ⟨k, s1, n1, k0, k1, hg1⟩ := next_ok (n := 6) hg (by decide) (by decide)
  obtain ⟨d', hd', hm⟩ := at_in (xs := [D.int 1, .int (-1), .int 2, .int (-2), .int 10, .int (-10)]) k0 k1
  have hi : i.natAbs < B := of_decide_eq_true hd.f
  have fin : ∀ j : Int, j.natAbs ≤ 10 → Fine (bB B) 0 (2 * w + 300) (.int (i + j)) := fun j hj => ⟨decide_eq_true (show (i + j).natAbs < bB B by unfold bB; omega), Nat.le_refl _, show 50 ≤ 2 * w + 300 by omega⟩
  have ev : ∀ j : Int, d' = .int j → evC Γ (.bin .add (.v 1) (.ix (.lst [.k (.int 1), .neg (.k (.int 1)), .k (.int 2), .neg (.k (.int 2)), .k (.int 10), .neg (.k (.int 10))]) (.call 90 [.v 0, .k (.int 6)]))) [some .drw, some (.int i), none, none] s = .ok (.int (i + j)) s1 := fun j e => by
    subst e
    exact e_bin (e_v rfl) (e_ix (x := .lst [.int 1, .int (-1), .int 2, .int (-2), .int 10, .int (-10)]) (s1 := s) rfl (e_next h90 rfl e_k n1) hd') rfl
  simp only [List.mem_cons, List.not_mem_nil, or_false] at hm
  rcases hm with e | e | e | e | e | e
  · exact ⟨_, s1, ev _ e, fin _ (by decide), hg1⟩
  · exact ⟨_, s1, ev _ e, fin _ (by decide), hg1⟩
  · exact ⟨_, s1, ev _ e, fin _ (by decide), hg1⟩
  · exact ⟨_, s1, ev _ e, fin _ (by decide), hg1⟩
  · exact ⟨_, s1, ev _ e, fin _ (by decide), hg1⟩
  · exact ⟨_, s1, ev _ e, fin _ (by decide), hg1⟩
theorem bent_body {Γ Γ' : Fns} {n B w b : Nat} {d : D} {s : SS} (h90 : Γ 90 = nextM) (h93 : Γ 93 = fnM 2 (evSs Γ' S_law_odd)) (h90' : Γ' 90 = nextM) (hd : Fine B n w d) (hw : w ≤ 10000) (hg : Go1 (b + 6 * (n + 1)) s)
    (htup : ∀ (L : List D) (s : SS), d = .tup L → 0 < L.length → Go1 (b + 6 * n + 3) s → ∃ d' s', evSs Γ bTail [some .drw, some (.tup L), none, none] s = .rt d' s' ∧ Fine (bB B) (n + 2) (2 * w + 300) d' ∧ Go1 b s') :
    ∃ d' s', fnM 4 (evSs Γ S_law_bent) [.drw, d] s = .ok d' s' ∧ Fine (bB B) (n + 2) (2 * w + 300) d' ∧ Go1 b s' := by
  have main : ∃ d' s', evSs Γ S_law_bent [some .drw, some d, none, none] s = .rt d' s' ∧ Fine (bB B) (n + 2) (2 * w + 300) d' ∧ Go1 b s' := by
    have odd : ∀ {d' : D}, Fine (10 ^ 31) 2 200 d' → Fine (bB B) (n + 2) (2 * w + 300) d' := fun h => h.mono (bB2 B) (by omega) (by omega)
    cases d with
    | non =>
      obtain ⟨d', s', e, hf, hg'⟩ := bent_odd (b := b) (d := .non) (E := [some .drw, some .non, none, none]) (st := bTail) (c := .or (.not (.isi (.v 1) [.tuple])) (.or (.cmp .eq (.v 1) (.tup [])) (.cmp .eq (.call 90 [.v 0, .k (.int 6)]) (.k (.int 0))))) h93 h90' rfl (hg.less (by omega)) (e_or_t (e_notT (e_isi (e_v rfl) rfl)))
      exact ⟨d', s', s_if_f (e_and_f (e_isi (e_v rfl) rfl)) (s_if_f (e_and_f (e_isi (e_v rfl) rfl)) e), odd hf, hg'⟩
    | bl v =>
      obtain ⟨d', s', e, hf, hg'⟩ := bent_odd (b := b) (d := .non) (E := [some .drw, some (.bl v), none, none]) (st := bTail) (c := .or (.not (.isi (.v 1) [.tuple])) (.or (.cmp .eq (.v 1) (.tup [])) (.cmp .eq (.call 90 [.v 0, .k (.int 6)]) (.k (.int 0))))) h93 h90' rfl (hg.less (by omega)) (e_or_t (e_notT (e_isi (e_v rfl) rfl)))
      exact ⟨d', s', s_if_f (e_and_f (e_isi (e_v rfl) rfl)) (s_if_f (e_and_t (e_isi (e_v rfl) rfl) (e_and_f (e_notF (e_isi (e_v rfl) rfl)))) e), odd hf, hg'⟩
    | lst xs =>
      obtain ⟨d', s', e, hf, hg'⟩ := bent_odd (b := b) (d := .non) (E := [some .drw, some (.lst xs), none, none]) (st := bTail) (c := .or (.not (.isi (.v 1) [.tuple])) (.or (.cmp .eq (.v 1) (.tup [])) (.cmp .eq (.call 90 [.v 0, .k (.int 6)]) (.k (.int 0))))) h93 h90' rfl (hg.less (by omega)) (e_or_t (e_notT (e_isi (e_v rfl) rfl)))
      exact ⟨d', s', s_if_f (e_and_f (e_isi (e_v rfl) rfl)) (s_if_f (e_and_f (e_isi (e_v rfl) rfl)) e), odd hf, hg'⟩
    | dct ks vs =>
      obtain ⟨d', s', e, hf, hg'⟩ := bent_odd (b := b) (d := .non) (E := [some .drw, some (.dct ks vs), none, none]) (st := bTail) (c := .or (.not (.isi (.v 1) [.tuple])) (.or (.cmp .eq (.v 1) (.tup [])) (.cmp .eq (.call 90 [.v 0, .k (.int 6)]) (.k (.int 0))))) h93 h90' rfl (hg.less (by omega)) (e_or_t (e_notT (e_isi (e_v rfl) rfl)))
      exact ⟨d', s', s_if_f (e_and_f (e_isi (e_v rfl) rfl)) (s_if_f (e_and_f (e_isi (e_v rfl) rfl)) e), odd hf, hg'⟩
    | obj c f v => exact absurd rfl ((fine_not hd).1 c f v)
    | own i => exact absurd rfl ((fine_not hd).2.1 i)
    | drw => exact absurd rfl (fine_not hd).2.2
    | str x =>
      rw [as_tx x] at hd ⊢
      generalize x.cps.toList = l at hd ⊢
      obtain ⟨r, s1, n1, r0, r1, hg1⟩ := next_ok (n := 2) (b := b + 6 * n + 5) hg (by decide) (by decide)
      have t : evC Γ (.and (.isi (.v 1) [.str]) (.cmp .eq (.call 90 [.v 0, .k (.int 2)]) (.k (.int 0)))) [some .drw, some (.str (tx l)), none, none] s = .ok (.bl (r == 0)) s1 := e_and_t (e_isi (e_v rfl) rfl) (e_cmp (e_next h90 rfl e_k n1) e_k rfl)
      by_cases h : r = 0
      · rw [beq_iff_eq.mpr h] at t
        obtain ⟨d', s', e, hf, hg'⟩ := bent_str (b := b) h90 hd hw (hg1.less (by omega))
        exact ⟨d', s', s_if_ret t (s_ret e (fit_pure hf.f)), hf.mono (bB1 B) (by omega) (Nat.le_refl _), hg'⟩
      · rw [beq_eq_false_iff_ne.mpr h] at t
        obtain ⟨d', s', e, hf, hg'⟩ := bent_odd (b := b) (d := .non) (s := s1) (E := [some .drw, some (.str (tx l)), none, none]) (st := bTail) (c := .or (.not (.isi (.v 1) [.tuple])) (.or (.cmp .eq (.v 1) (.tup [])) (.cmp .eq (.call 90 [.v 0, .k (.int 6)]) (.k (.int 0))))) h93 h90' rfl (hg1.less (by omega)) (e_or_t (e_notT (e_isi (e_v rfl) rfl)))
        exact ⟨d', s', s_if_f t (s_if_f (e_and_f (e_isi (e_v rfl) rfl)) e), odd hf, hg'⟩
    | int i =>
      obtain ⟨r, s1, n1, r0, r1, hg1⟩ := next_ok (n := 2) (b := b + 6 * n + 5) hg (by decide) (by decide)
      have t : evC Γ (.and (.isi (.v 1) [.int]) (.and (.not (.isi (.v 1) [.bool])) (.cmp .eq (.call 90 [.v 0, .k (.int 2)]) (.k (.int 0))))) [some .drw, some (.int i), none, none] s = .ok (.bl (r == 0)) s1 :=
        e_and_t (e_isi (e_v rfl) rfl) (e_and_t (e_notT (e_isi (e_v rfl) rfl)) (e_cmp (e_next h90 rfl e_k n1) e_k rfl))
      have t0 : evC Γ (.and (.isi (.v 1) [.str]) (.cmp .eq (.call 90 [.v 0, .k (.int 2)]) (.k (.int 0)))) [some .drw, some (.int i), none, none] s = .ok (.bl false) s := e_and_f (e_isi (e_v rfl) rfl)
      by_cases h : r = 0
      · rw [beq_iff_eq.mpr h] at t
        obtain ⟨d', s', e, hf, hg'⟩ := bent_int (b := b) h90 hd (hg1.less (by omega))
        exact ⟨d', s', s_if_f t0 (s_if_ret t (s_ret e (fit_pure hf.f))), hf.mono (Nat.le_refl _) (by omega) (Nat.le_refl _), hg'⟩
      · rw [beq_eq_false_iff_ne.mpr h] at t
        obtain ⟨d', s', e, hf, hg'⟩ := bent_odd (b := b) (d := .non) (s := s1) (E := [some .drw, some (.int i), none, none]) (st := bTail) (c := .or (.not (.isi (.v 1) [.tuple])) (.or (.cmp .eq (.v 1) (.tup [])) (.cmp .eq (.call 90 [.v 0, .k (.int 6)]) (.k (.int 0))))) h93 h90' rfl (hg1.less (by omega)) (e_or_t (e_notT (e_isi (e_v rfl) rfl)))
        exact ⟨d', s', s_if_f t0 (s_if_f t e), odd hf, hg'⟩
    | tup L =>
      have t0 : evC Γ (.and (.isi (.v 1) [.str]) (.cmp .eq (.call 90 [.v 0, .k (.int 2)]) (.k (.int 0)))) [some .drw, some (.tup L), none, none] s = .ok (.bl false) s := e_and_f (e_isi (e_v rfl) rfl)
      have t1 : evC Γ (.and (.isi (.v 1) [.int]) (.and (.not (.isi (.v 1) [.bool])) (.cmp .eq (.call 90 [.v 0, .k (.int 2)]) (.k (.int 0))))) [some .drw, some (.tup L), none, none] s = .ok (.bl false) s := e_and_f (e_isi (e_v rfl) rfl)
      cases L with
      | nil =>
        obtain ⟨d', s', e, hf, hg'⟩ := bent_odd (b := b) (d := .non) (s := s) (E := [some .drw, some (.tup []), none, none]) (st := bTail) (c := .or (.not (.isi (.v 1) [.tuple])) (.or (.cmp .eq (.v 1) (.tup [])) (.cmp .eq (.call 90 [.v 0, .k (.int 6)]) (.k (.int 0))))) h93 h90' rfl (hg.less (by omega)) (e_or_f (e_notF (e_isi (e_v rfl) rfl)) (e_or_t (e_cmp (e_v rfl) (e_tup l_nil rfl (by decide)) rfl)))
        exact ⟨d', s', s_if_f t0 (s_if_f t1 e), odd hf, hg'⟩
      | cons x xs =>
        obtain ⟨r, s1, n1, r0, r1, hg1⟩ := next_ok (n := 6) (b := b + 6 * n + 5) hg (by decide) (by decide)
        have t : evC Γ (.or (.not (.isi (.v 1) [.tuple])) (.or (.cmp .eq (.v 1) (.tup [])) (.cmp .eq (.call 90 [.v 0, .k (.int 6)]) (.k (.int 0))))) [some .drw, some (.tup (x :: xs)), none, none] s = .ok (.bl (r == 0)) s1 :=
          e_or_f (e_notF (e_isi (e_v rfl) rfl)) (e_or_f (e_cmp (e_v rfl) (e_tup l_nil rfl (by decide)) rfl) (e_cmp (e_next h90 rfl e_k n1) e_k rfl))
        by_cases h : r = 0
        · rw [beq_iff_eq.mpr h] at t
          obtain ⟨d', s', ho, hf, hg'⟩ := odd_ev Γ' h90' (b := b) (hg1.less (by omega))
          exact ⟨d', s', s_if_f t0 (s_if_f t1 (s_if_ret t (s_ret (e_call (n_cons (e_v rfl) n_nil) (by rw [h93]; exact ho)) (fit_pure hf.f)))), odd hf, hg'⟩
        · rw [beq_eq_false_iff_ne.mpr h] at t
          obtain ⟨d', s', e, hf, hg'⟩ := htup (x :: xs) s1 rfl (by simp) (hg1.less (by omega))
          exact ⟨d', s', s_if_f t0 (s_if_f t1 (s_if_f t e)), hf, hg'⟩
  obtain ⟨d', s', e, hf, hg'⟩ := main
  exact ⟨d', s', fn_rt e (fit_pure hf.f) hg.cs hg'.cs, hf, hg'⟩
theorem bent_ev : ∀ (n k : Nat) {B w b : Nat} {d : D} {s : SS}, Fine B n w d → w ≤ 10000 → Go1 (b + 6 * (n + 1)) s → ∃ d' s', callT (k + n + 3) 7 [.drw, d] s = .ok d' s' ∧ Fine (bB B) (n + 2) (2 * w + 300) d' ∧ Go1 b s'
  | 0, k, B, w, b, d, s, hd, hw, hg => bent_body (Γ := callT (k + 2)) (Γ' := callT (k + 1)) rfl rfl rfl hd hw hg fun L _ e _ _ => by
      subst e
      have : dps L + 1 ≤ 0 := hd.n
      omega
  | n + 1, k, B, w, b, d, s, hd, hw, hg => bent_body (Γ := callT (k + n + 3)) (Γ' := callT (k + n + 2)) rfl rfl rfl hd hw hg fun L s e h0 hg' => by
      subst e
      exact bent_tail (Γ' := callT (k + n + 2)) rfl rfl rfl (fun hf hw hg => bent_ev n k hf hw hg) hd h0 hw hg'
end K01

namespace K01
open PySem L2 PI PL
theorem eq_refl_str (x : Str) : eqB (.str x) (.str x) = true := by show (x == x) = true; simp
theorem ne_self {x : Str} (h : plain (.str x) = true) : neD (.str x) (.str x) = some (.bl false) := by
  show (if eqOk (.str x) (.str x) = true then some (D.bl (!eqB (.str x) (.str x))) else none) = _
  have e : eqOk (.str x) (.str x) = true := by
    unfold eqOk
    rw [h]
    rfl
  rw [if_pos e, eq_refl_str]
  rfl
theorem repr_ev {Γ : Fns} {a : C} {E : Env'} {s s1 : SS} {d : D} (hf : Fine0 d) (h : evC Γ a E s = .ok d s1) : evC Γ (.bi .repr [a]) E s = .ok (.str (reprS d)) s1 := by
  refine e_bi (n_cons h n_nil) ?_
  show reprD [vw s1 d] = _
  rw [vw_ok (fit_pure hf.f)]
  exact repr_ok' hf (Nat.le_refl _) (by decide) w0
theorem ne_repr {Γ : Fns} {a b : C} {E : Env'} {s : SS} {d : D} (hf : Fine0 d) (ha : evC Γ a E s = .ok d s) (hb : evC Γ b E s = .ok d s) : evC Γ (.cmp .ne (.bi .repr [a]) (.bi .repr [b])) E s = .ok (.bl false) s :=
  e_cmp (repr_ev hf ha) (repr_ev hf hb) (ne_self (repr_plain hf))
/-! what the table gives -/
section
variable {s : SS} {k : Nat}
theorem c_word {d : D} (hd : Fine0 d) (hc : s.cs = []) : callT (k + 1) 221 [d] s = .ok (.bl (isWord d)) s := is_word_ev (callT k) hd w0 hc
theorem c_name {d : D} (hd : Fine0 d) (hc : s.cs = []) : callT (k + 1) 56 [d] s = .ok (.bl (isWord d)) s := is_name_ev (callT k) hd w0 hc
theorem c_asc {d : D} (hd : Fine0 d) (hc : s.cs = []) : callT (k + 2) 157 [d] s = .ok (.bl (asc d)) s := ascending_ev (callT (k + 1)) (fun h c => c_word h c) hd hc
theorem c_lasc {d : D} (hd : Fine0 d) (hc : s.cs = []) : callT (k + 2) 3 [d] s = .ok (.bl (asc d)) s := law_asc_ev (callT (k + 1)) (fun h c => c_name h c) hd hc
theorem c_need {d : D} (hd : Fine0 d) (hc : s.cs = []) : callT (k + 3) 244 [d] s = if needOk d = true then .ok d s else .exc 0 d s := need_ev (callT (k + 2)) (c_asc hd hc) hd hc
theorem c_lot {ws : List Str} {d : D} (hw : Wds ws) (hd : Fine0 d) (hc : s.cs = []) : callT (k + 3) 212 [rowD ws, d] s = .ok (.bl (lotB ws d)) s := is_lot_ev (callT (k + 2)) (c_asc hd hc) hw hd hc
theorem c_without {ws r : List Str} (hw : Wds ws) (hr : Wds r) (hl : ws.length ≤ 6) (hc : s.cs = []) : callT (k + 1) 297 [rowD ws, rowD r] s = .ok (rowD (ws.filter fun p => !r.any fun y => eqS y p)) s := without_ev (callT k) hw hr (by omega) hc
theorem c_rows {ws : List Str} (hw : Wds ws) (hl : ws.length ≤ 6) (hc : s.cs = []) {m : Nat} (hm : m ≤ 6) : callT (k + 2) 264 [rowD ws, .int m] s = .ok (.lst ((RW eqS ws m).map rowD)) s := by
  have t : callT (k + 2) 264 = fnM 6 (evSs (callT (k + 1)) S_rows_of) := rfl
  rw [t]
  exact rows_of_ev (callT (k + 1)) (fun hr => c_without hw hr hl hc) hw hl hm hc
theorem c_rules {ws : List Str} (hw : Wds ws) (hl : ws.length ≤ 6) (hc : s.cs = []) : callT (k + 3) 266 [rowD ws] s = .ok (.tup (rulesL ws)) s := by
  have t : callT (k + 3) 266 = fnM 3 (evSs (callT (k + 2)) S_rules) := rfl
  rw [t]
  exact rules_ev (callT (k + 2)) (fun hm => c_rows hw hl hc hm) hl hc
theorem c_lrows {ws : List Str} (hw : Wds ws) (hl : ws.length ≤ 6) (hc : s.cs = []) {m : Nat} (hm : m ≤ 6) : callT (k + 1) 117 [rowD ws, .int m] s = .ok (.lst ((RW eqS ws m).map rowD)) s := by
  have t : callT (k + 1) 117 = fnM 7 (evSs (callT k) S_law_rows) := rfl
  rw [t]
  exact law_rows_ev (callT k) hw hl hm hc
theorem c_lrules {ws : List Str} (hw : Wds ws) (hl : ws.length ≤ 6) (hc : s.cs = []) : callT (k + 2) 118 [rowD ws] s = .ok (.lst (rulesL ws)) s := by
  have t : callT (k + 2) 118 = fnM 3 (evSs (callT (k + 1)) S_law_rules) := rfl
  rw [t]
  exact law_rules_ev (callT (k + 1)) (fun hm => c_lrows hw hl hc hm) hl hc
theorem c_lots {ws : List Str} (hw : Wds ws) (hl : ws.length ≤ 6) (hc : s.cs = []) : callT (k + 1) 78 [rowD ws] s = .ok (.lst ((lotsL ws).map rowD)) s := law_lots_ev (callT k) hw hl hc
theorem c_lthrees {ws : List Str} (hw : Wds ws) (hl : ws.length ≤ 6) (hc : s.cs = []) : callT (k + 2) 135 [rowD ws] s = .ok (.lst (((lotsL ws).filter fun r => r.length == 3).map rowD)) s := law_threes_ev (callT (k + 1)) (c_lots hw hl hc) hl hc
theorem c_threes {ws : List Str} (hw : Wds ws) (hl : ws.length ≤ 6) (hc : s.cs = []) : callT (k + 2) 282 [rowD ws] s = .ok (.tup ((LW ltS ws 3).map rowD)) s := threes_ev (callT (k + 1)) (lots_with_ev (callT k) hw hl (m := 3) (by decide) hc) hc
theorem c_ways {ws : List Str} (hw : Wds ws) (hl : ws.length ≤ 6) (hc : s.cs = []) : callT (k + 2) 295 [rowD ws] s = .ok (.tup ((LW ltS ws 2).map rowD)) s := ways_ev (callT (k + 1)) (lots_with_ev (callT k) hw hl (m := 2) (by decide) hc) hc
theorem c_names {b n : Nat} (h3 : 3 ≤ n) (h6 : n ≤ 6) (hg : Go1 (b + 11) s) : ∃ ws s', callT (k + 2) 86 [.drw, .int (n : Int)] s = .ok (.lst (ws.map D.str)) s' ∧ Names n ws ∧ Go1 b s' := names_ev (callT (k + 1)) rfl h3 h6 hg
theorem c_words {b : Nat} (hg : Go1 (b + 12) s) : ∃ ws s', callT (k + 3) 149 [.drw, .int 5] s = .ok (rowD ws) s' ∧ Wds ws ∧ Asc ws ∧ ws.length ∈ [3, 4, 5] ∧ Go1 b s' := words_ev (callT (k + 2)) rfl (fun h3 h6 hg => c_names h3 h6 hg) hg
theorem c_odd {b : Nat} (hg : Go1 (b + 1) s) : ∃ d s', callT (k + 2) 93 [.drw] s = .ok d s' ∧ Fine (10 ^ 31) 2 200 d ∧ Go1 b s' := odd_ev (callT (k + 1)) rfl hg
end
/-! the first inner loop: a thing is asked whether it is places -/
abbrev body1 : List S := [.par [7, 8, 9] [.bi .repr [.v 6], .k .non, .k .non], .tryR 0 [] 10 9 [.asg (.nm 8) (.call 244 [.v 6])], .asg (.nm 11) (.and (.call 3 [.v 6]) (.chain .le .le (.k (.int 3)) (.bi .len [.v 6]) (.k (.int 5)))), .ite (.or (.cmp .ne (.tup [.bi .repr [.v 8], .v 9]) (.ite (.v 11) (.tup [.v 7, .k .non]) (.tup [.k (.str "None"), .v 7]))) (.cmp .ne (.bi .repr [.v 6]) (.v 7))) [.ret (.k (.bl false))] []]
theorem so_ev {Γ : Fns} {E : Env'} {s : SS} {d : D} (h3 : Γ 3 [d] s = .ok (.bl (asc d)) s) (hE : E[6]? = some (some d)) : evC Γ (.and (.call 3 [.v 6]) (.chain .le .le (.k (.int 3)) (.bi .len [.v 6]) (.k (.int 5)))) E s = .ok (.bl (needOk d)) s := by
  have c := e_call (f := 3) (n_cons (e_v (Γ := Γ) (env := E) (i := 6) (s := s) hE) n_nil) h3
  cases ha : asc d with
  | false =>
    rw [ha] at c
    have : needOk d = false := by cases d <;> first | rfl | (show (asc _ && _) = false; rw [ha]; rfl)
    rw [this]
    exact e_and_f c
  | true =>
    rw [ha] at c
    obtain ⟨xs, rfl⟩ := asc_tup ha
    have : needOk (.tup xs) = (decide (3 ≤ xs.length) && decide (xs.length ≤ 5)) := by show (asc _ && _) = _; rw [ha]; rfl
    rw [this, ← len_fix xs.length 3 5]
    exact e_and_t c (len_chainT hE)
theorem none_fine : Fine0 .non := ⟨rfl, by decide, by decide⟩
theorem pair_ne {x y : D} (hx : plain x = true) (hy : plain y = true) (ex : eqB x x = true) (ey : eqB y y = true) (dx : dep x = 0) (dy : dep y = 0) : neD (.tup [x, y]) (.tup [x, y]) = some (.bl false) := by
  show (if eqOk (.tup [x, y]) (.tup [x, y]) = true then some (D.bl (!eqB (.tup [x, y]) (.tup [x, y]))) else none) = _
  have e : eqOk (.tup [x, y]) (.tup [x, y]) = true := by
    have p : plain (.tup [x, y]) = true := by show (plain x && (plain y && true)) = true; rw [hx, hy]; rfl
    have q : dep (.tup [x, y]) = 1 := by show max (dep x) (max (dep y) 0) + 1 = 1; rw [dx, dy]; rfl
    unfold eqOk
    rw [p, q]
    rfl
  have e2 : eqB (.tup [x, y]) (.tup [x, y]) = true := by show (eqB x x && (eqB y y && true)) = true; rw [ex, ey]; rfl
  rw [if_pos e, e2]
  rfl
theorem body1_ev {k : Nat} {s : SS} {d : D} (hd : Fine0 d) (hc : s.cs = []) {a0 a1 a2 a3 a4 a5 a7 a8 a9 a10 a11 a12 a13 a14 : Option D} :
    ∃ b7 b8 b9 b10 b11, evSs (callT (k + 3)) body1 [a0, a1, a2, a3, a4, a5, some d, a7, a8, a9, a10, a11, a12, a13, a14] s = .nx [a0, a1, a2, a3, a4, a5, some d, b7, b8, b9, b10, b11, a12, a13, a14] s := by
  have hp := fit_pure hd.f
  have hrp := repr_plain hd
  have kept : ∀ {E : Env'}, E[6]? = some (some d) → evC (callT (k + 3)) (.bi .repr [.v 6]) E s = .ok (.str (reprS d)) s := fun h => repr_ev hd (e_v h)
  have hneed := c_need (k := k) hd hc
  have hpar : ∀ {st : List S} {r : SR}, evSs (callT (k + 3)) st [a0, a1, a2, a3, a4, a5, some d, some (.str (reprS d)), some .non, some .non, a10, a11, a12, a13, a14] s = r →
      evSs (callT (k + 3)) (.par [7, 8, 9] [.bi .repr [.v 6], .k .non, .k .non] :: st) [a0, a1, a2, a3, a4, a5, some d, a7, a8, a9, a10, a11, a12, a13, a14] s = r :=
    fun h => s_par (n_cons (kept rfl) (n_cons e_k (n_cons e_k n_nil))) rfl h
  cases hn : needOk d with
  | true =>
    rw [hn, if_pos rfl] at hneed
    refine ⟨some (.str (reprS d)), some d, some .non, a10, some (.bl true), hpar ?_⟩
    have tr : evS (callT (k + 3)) (.tryR 0 [] 10 9 [.asg (.nm 8) (.call 244 [.v 6])]) [a0, a1, a2, a3, a4, a5, some d, some (.str (reprS d)), some .non, some .non, a10, a11, a12, a13, a14] s = .nx [a0, a1, a2, a3, a4, a5, some d, some (.str (reprS d)), some d, some .non, a10, a11, a12, a13, a14] s := by
      show tryRS 0 [] 10 9 (evSs (callT (k + 3)) [.asg (.nm 8) (.call 244 [.v 6])]) _ s = _
      unfold tryRS
      rw [show evSs (callT (k + 3)) [.asg (.nm 8) (.call 244 [.v 6])] [a0, a1, a2, a3, a4, a5, some d, some (.str (reprS d)), some .non, some .non, a10, a11, a12, a13, a14] s = .nx [a0, a1, a2, a3, a4, a5, some d, some (.str (reprS d)), some d, some .non, a10, a11, a12, a13, a14] s from s_asg (e_call (n_cons (e_v rfl) n_nil) hneed) rfl rfl]
    refine (seqS_nx tr).trans ?_
    refine s_asg (d := .bl true) (by have := so_ev (Γ := callT (k + 3)) (c_lasc (k := k + 1) hd hc) (E := [a0, a1, a2, a3, a4, a5, some d, some (.str (reprS d)), some d, some .non, a10, a11, a12, a13, a14]) rfl; rw [hn] at this; exact this) rfl ?_
    refine s_if_f (e_or_f (e_cmp (x := .tup [.str (reprS d), .non]) (y := .tup [.str (reprS d), .non]) (e_tup (l_cons (repr_ev hd (e_v rfl)) rfl (l_cons (e_v rfl) rfl l_nil)) rfl (show 2 ≤ LIM by decide)) (e_ite (p := true) (e_v rfl) (fun _ => e_tup (l_cons (e_v rfl) rfl (l_cons e_k rfl l_nil)) rfl (show 2 ≤ LIM by decide)) (fun z => nomatch z)) (pair_ne hrp rfl (eq_refl_str _) rfl rfl rfl)) (e_cmp (kept rfl) (e_v rfl) (ne_self hrp))) rfl
  | false =>
    rw [hn, if_neg (by decide)] at hneed
    refine ⟨some (.str (reprS d)), some .non, some (.str (reprS d)), none, some (.bl false), hpar ?_⟩
    have tr : evS (callT (k + 3)) (.tryR 0 [] 10 9 [.asg (.nm 8) (.call 244 [.v 6])]) [a0, a1, a2, a3, a4, a5, some d, some (.str (reprS d)), some .non, some .non, a10, a11, a12, a13, a14] s = .nx [a0, a1, a2, a3, a4, a5, some d, some (.str (reprS d)), some .non, some (.str (reprS d)), none, a11, a12, a13, a14] s := by
      show tryRS 0 [] 10 9 (evSs (callT (k + 3)) [.asg (.nm 8) (.call 244 [.v 6])]) _ s = _
      have hx : evC (callT (k + 3)) (.call 244 [.v 6]) [a0, a1, a2, a3, a4, a5, some d, some (.str (reprS d)), some .non, some .non, a10, a11, a12, a13, a14] s = .exc 0 d s := by
        show (evN (callT (k + 3)) [.v 6] _ >>= callT (k + 3) 244) s = _
        rw [bnd_ok (n_cons (e_v rfl) n_nil), hneed]
      have hy : evSs (callT (k + 3)) [.asg (.nm 8) (.call 244 [.v 6])] [a0, a1, a2, a3, a4, a5, some d, some (.str (reprS d)), some .non, some .non, a10, a11, a12, a13, a14] s = .exc 0 d [a0, a1, a2, a3, a4, a5, some d, some (.str (reprS d)), some .non, some .non, a10, a11, a12, a13, a14] s := by
        show seqS (asgS (.nm 8) (evC (callT (k + 3)) (.call 244 [.v 6]))) passS _ s = _
        unfold seqS asgS
        rw [hx]
      unfold tryRS
      rw [hy]
      dsimp only
      rw [if_pos rfl, repr_ok' hd (Nat.le_refl _) (by decide) w0]
      rfl
    refine (seqS_nx tr).trans ?_
    refine s_asg (d := .bl false) (by have := so_ev (Γ := callT (k + 3)) (c_lasc (k := k + 1) hd hc) (E := [a0, a1, a2, a3, a4, a5, some d, some (.str (reprS d)), some .non, some (.str (reprS d)), none, a11, a12, a13, a14]) rfl; rw [hn] at this; exact this) rfl ?_
    refine s_if_f (e_or_f (e_cmp (x := .tup [.str "None", .str (reprS d)]) (y := .tup [.str "None", .str (reprS d)]) (e_tup (l_cons (repr_ev none_fine (e_v rfl)) rfl (l_cons (e_v rfl) rfl l_nil)) rfl (show 2 ≤ LIM by decide)) (e_ite (p := false) (e_v rfl) (fun z => nomatch z) (fun _ => e_tup (l_cons e_k rfl (l_cons (e_v rfl) rfl l_nil)) rfl (show 2 ≤ LIM by decide))) (pair_ne (sane_plain (sane_ofString _)) hrp (eq_refl_str _) (eq_refl_str _) rfl rfl)) (e_cmp (kept rfl) (e_v rfl) (ne_self hrp))) rfl
/-! the second inner loop: a thing is asked whether it is a lot -/
abbrev body2 : List S := [.asg (.nm 11) (.and (.call 3 [.v 6]) (.cmp .eq (.lc [14] (.nm 14) (.v 6) (.cmp .notin (.v 14) (.v 3)) (.v 14)) (.lst []))), .ite (.cmp .ne (.bi .repr [.call 212 [.v 3, .v 6]]) (.bi .repr [.v 11])) [.ret (.k (.bl false))] []]
theorem bl_fine (b : Bool) : Fine0 (.bl b) := ⟨rfl, by cases b <;> decide, by cases b <;> decide⟩
theorem body2_ev {k : Nat} {s : SS} {d : D} {ws : List Str} (hw : Wds ws) (hd : Fine0 d) (hc : s.cs = []) {a0 a1 a2 a4 a5 a7 a8 a9 a10 a11 a12 a13 a14 : Option D} :
    ∃ b11, evSs (callT (k + 3)) body2 [a0, a1, a2, some (rowD ws), a4, a5, some d, a7, a8, a9, a10, a11, a12, a13, a14] s = .nx [a0, a1, a2, some (rowD ws), a4, a5, some d, a7, a8, a9, a10, b11, a12, a13, a14] s := by
  refine ⟨some (.bl (lotB ws d)), s_asg (d := .bl (lotB ws d)) ?_ rfl (s_if_f (ne_repr (bl_fine (lotB ws d)) (e_call (n_cons (e_v rfl) (n_cons (e_v rfl) n_nil)) (c_lot hw hd hc)) (e_v rfl)) rfl)⟩
  have c := e_call (f := 3) (n_cons (e_v (Γ := callT (k + 3)) (env := [a0, a1, a2, some (rowD ws), a4, a5, some d, a7, a8, a9, a10, a11, a12, a13, a14]) (i := 6) (s := s) rfl) n_nil) (c_lasc (k := k + 1) hd hc)
  cases ha : asc d with
  | false =>
    rw [ha] at c
    have : lotB ws d = false := by cases d <;> first | rfl | (show (asc _ && _) = false; rw [ha]; rfl)
    rw [this]
    exact e_and_f c
  | true =>
    rw [ha] at c
    obtain ⟨xs, rfl⟩ := asc_tup ha
    have hl := tup_len hd w0
    have e : lotB ws (.tup xs) = xs.all fun d => ws.any fun y => y == unS d := by show (asc _ && _) = _; rw [ha]; rfl
    rw [e]
    obtain ⟨r, rfl, hr⟩ := words_of ha
    refine e_and_t c (e_cmp (e_lc (t := .nm 14) (ds := r.map D.str) (p := fun d => !ws.any fun y => y == unS d) (f := id) (i_walk (e_v rfl) rfl rfl) hl fun d hd => ?_) (e_lst l_nil rfl (by decide)) ?_)
    · obtain ⟨x, hx, rfl⟩ := List.mem_map.mp hd
      refine ⟨_, rfl, e_cmp (e_v rfl) (e_v rfl) ?_, fun _ => ⟨e_v rfl, rfl⟩⟩
      show (inD (.str x) (rowD ws)).bind notD = _
      rw [in_words hw (hr x hx)]
      rfl
    · refine (eqNil _).trans ?_
      rw [none_bad (fun d => ws.any fun y => y == unS d)]
end K01

namespace K01
open PySem L2 PI PL
theorem loop1 {k : Nat} {s : SS} (hc : s.cs = []) {a0 a1 a2 a3 a4 a5 a12 a13 a14 : Option D} : ∀ {ds : List D}, (∀ d ∈ ds, Fine0 d) → ∀ {a6 a7 a8 a9 a10 a11 : Option D},
    ∃ b6 b7 b8 b9 b10 b11, forL (.nm 6) (evSs (callT (k + 3)) body1) ds [a0, a1, a2, a3, a4, a5, a6, a7, a8, a9, a10, a11, a12, a13, a14] s = .nx [a0, a1, a2, a3, a4, a5, b6, b7, b8, b9, b10, b11, a12, a13, a14] s
  | [], _, a6, a7, a8, a9, a10, a11 => ⟨a6, a7, a8, a9, a10, a11, rfl⟩
  | d :: ds, h, a6, a7, a8, a9, a10, a11 => by
    obtain ⟨b7, b8, b9, b10, b11, e⟩ := body1_ev (k := k) (h d List.mem_cons_self) hc (a0 := a0) (a1 := a1) (a2 := a2) (a3 := a3) (a4 := a4) (a5 := a5) (a7 := a7) (a8 := a8) (a9 := a9) (a10 := a10) (a11 := a11) (a12 := a12) (a13 := a13) (a14 := a14)
    obtain ⟨c6, c7, c8, c9, c10, c11, e2⟩ := loop1 (k := k) hc (a0 := a0) (a1 := a1) (a2 := a2) (a3 := a3) (a4 := a4) (a5 := a5) (a12 := a12) (a13 := a13) (a14 := a14) (ds := ds) (fun z hz => h z (List.mem_cons_of_mem _ hz)) (a6 := some d) (a7 := b7) (a8 := b8) (a9 := b9) (a10 := b10) (a11 := b11)
    exact ⟨c6, c7, c8, c9, c10, c11, for_cons rfl e e2⟩
theorem loop2 {k : Nat} {s : SS} {ws : List Str} (hw : Wds ws) (hc : s.cs = []) {a0 a1 a2 a4 a5 a7 a8 a9 a10 a12 a13 a14 : Option D} : ∀ {ds : List D}, (∀ d ∈ ds, Fine0 d) → ∀ {a6 a11 : Option D},
    ∃ b6 b11, forL (.nm 6) (evSs (callT (k + 3)) body2) ds [a0, a1, a2, some (rowD ws), a4, a5, a6, a7, a8, a9, a10, a11, a12, a13, a14] s = .nx [a0, a1, a2, some (rowD ws), a4, a5, b6, a7, a8, a9, a10, b11, a12, a13, a14] s
  | [], _, a6, a11 => ⟨a6, a11, rfl⟩
  | d :: ds, h, a6, a11 => by
    obtain ⟨b11, e⟩ := body2_ev (k := k) hw (h d List.mem_cons_self) hc (a0 := a0) (a1 := a1) (a2 := a2) (a4 := a4) (a5 := a5) (a7 := a7) (a8 := a8) (a9 := a9) (a10 := a10) (a11 := a11) (a12 := a12) (a13 := a13) (a14 := a14)
    obtain ⟨c6, c11, e2⟩ := loop2 (k := k) hw hc (a0 := a0) (a1 := a1) (a2 := a2) (a4 := a4) (a5 := a5) (a7 := a7) (a8 := a8) (a9 := a9) (a10 := a10) (a12 := a12) (a13 := a13) (a14 := a14) (ds := ds) (fun z hz => h z (List.mem_cons_of_mem _ hz)) (a6 := some d) (a11 := b11)
    exact ⟨c6, c11, for_cons rfl e e2⟩
theorem len6 {n : Nat} (h : n ∈ [3, 4, 5]) : 3 ≤ n ∧ n ≤ 5 := by
  simp only [List.mem_cons, List.not_mem_nil, or_false] at h
  omega
theorem row0 {r : List Str} (hw : Wds r) (hl : r.length ≤ 5) : Fine 1 1 424 (rowD r) := (row_fine hw).mono (Nat.le_refl _) (Nat.le_refl _) (by omega)
theorem big0 {B n w : Nat} {d : D} (h : Fine B n w d) (hB : B ≤ 10 ^ 40) (hn : n ≤ 50) (hw : w ≤ 200000) : Fine0 d := h.mono hB hn hw
theorem bB_1 : bB 1 ≤ 10 ^ 40 := by unfold bB; decide
theorem bB_2 : bB (bB 1) ≤ 10 ^ 40 := by unfold bB; decide
theorem rowL {r : List Str} (hw : Wds r) (hl : r.length ≤ 5) : FineL 1 0 420 (r.map D.str) := (Fine.list (row0 hw hl)).1
theorem zz : Fine 1 0 22 (.str "zz") := ⟨by decide +kernel, by decide, by decide +kernel⟩
theorem rowB {r : List Str} (hw : Wds r) (hl : r.length ≤ 5) : ∀ {d : D}, d = rowD r ∨ d = .tup (r.map D.str).reverse ∨ d = .lst (r.map D.str) ∨ d = .tup (r.map D.str ++ [.str "zz"]) ∨ d = .tup (r.map D.str ++ r.map D.str) → Fine0 d := fun {d} h => by
  have f := rowL hw hl
  rcases h with rfl | rfl | rfl | rfl | rfl
  · exact big0 (row0 hw hl) (by decide) (by decide) (by decide)
  · exact big0 (f.perm (List.reverse_perm _)).tup (by decide) (by decide) (by decide)
  · exact big0 f.lst (by decide) (by decide) (by decide)
  · exact big0 (f.app (FineL.one zz)).tup (by decide) (by decide) (by decide)
  · exact big0 (f.app f).tup (by decide) (by decide) (by decide)
theorem row_slr {Γ : Fns} {E : Env'} {s : SS} {i : Nat} {L : List D} (h : E[i]? = some (some (.tup L))) : evC Γ (.slr (.v i) .nop .nop) E s = .ok (.tup L.reverse) s := by
  refine e_slr (e_v h) o_nop o_nop ?_
  show some (D.tup (backL L none none)) = _
  rw [back_rev]
theorem row_zz {Γ : Fns} {E : Env'} {s : SS} {i : Nat} {L : List D} (h : E[i]? = some (some (.tup L))) (hl : L.length ≤ 100) : evC Γ (.bin .add (.v i) (.tup [.k (.str "zz")])) E s = .ok (.tup (L ++ [.str "zz"])) s :=
  e_bin (e_v h) (e_tup (l_cons e_k rfl l_nil) rfl (show 1 ≤ LIM by decide)) (add_tup (by simp; omega))
theorem row_two {Γ : Fns} {E : Env'} {s : SS} {i : Nat} {L : List D} (h : E[i]? = some (some (.tup L))) (hl : L.length ≤ 100) : evC Γ (.bin .mul (.v i) (.k (.int 2))) E s = .ok (.tup (L ++ L)) s := by
  refine e_bin (e_v h) e_k ?_
  show (if (2 ≤ (2 : Int) && (2 : Int) ≤ 1000 && decide (L.length ≤ 1000)) = true then some (D.tup (List.replicate (2 : Int).toNat L).flatten) else none) = _
  rw [decide_eq_true (show L.length ≤ 1000 by omega), if_pos (by decide)]
  show some (D.tup (L ++ (L ++ []))) = _
  rw [List.append_nil]
/-- the loop's body -/
abbrev bodyL : List S := match S_law with | [_, .for_ _ _ b, _] => b | _ => []
theorem turn_ev {k b : Nat} {s : SS} {a0 a2 a3 a4 a5 a6 a7 a8 a9 a10 a11 a12 a13 a14 : Option D} (hg : Go1 (b + 100) s) :
    ∃ b3 b4 b5 b6 b7 b8 b9 b10 b11 b12 b13 b14 s', evSs (callT (k + 20)) bodyL [a0, some .drw, a2, a3, a4, a5, a6, a7, a8, a9, a10, a11, a12, a13, a14] s = .nx [a0, some .drw, a2, b3, b4, b5, b6, b7, b8, b9, b10, b11, b12, b13, b14] s' ∧ Go1 b s' := by
  obtain ⟨ws, s1, n1, hw, ha, hn, hg1⟩ := c_words (k := k + 17) (b := b + 88) hg
  have h5 := len6 hn
  have hl6 : ws.length ≤ 6 := by omega
  have hm : (ws.map D.str).length ≤ 100 := by rw [List.length_map]; omega
  have f0 := row0 hw h5.2
  -- what is drawn for the first list
  obtain ⟨x1, s2, n2, f1, hg2⟩ := bent_ev 1 (k + 16) (b := b + 76) f0 (by decide) hg1
  obtain ⟨x2, s3, n3, f2, hg3⟩ := c_odd (k := k + 18) (b := b + 75) hg2
  obtain ⟨vs, s4, n4, hN, hg4⟩ := c_names (k := k + 18) (b := b + 64) (n := 6) (by decide) (by decide) hg3
  obtain ⟨x3, s5, n5, f3, hg5⟩ := bent_ev 1 (k + 16) (b := b + 52) f0 (by decide) hg4
  obtain ⟨x4, s6, n6, f4, hg6⟩ := bent_ev 3 (k + 14) (b := b + 28) f3 (by decide) hg5
  obtain ⟨v1, v2, v3⟩ := names_sorted hN
  obtain ⟨j, s7, n7, j0, j1, hg7⟩ := next_ok (n := (((lotsL ws).map rowD).length : Int)) (b := b + 27) hg6 (by
    rw [List.length_map]
    have : 0 < (lotsL ws).length := by
      have : ([] : List Str) ∈ lotsL ws := mem_sortBy.mpr (List.mem_of_mem_head? (SB_head ws))
      exact List.length_pos_of_mem this
    omega) (by rw [List.length_map]; have := lotsL_len hl6; omega)
  obtain ⟨dr, hdr, hdm⟩ := at_in (xs := (lotsL ws).map rowD) j0 j1
  obtain ⟨r, hr, rfl⟩ := List.mem_map.mp hdm
  have hrw := lots_mem hw hr
  have hrl : r.length ≤ 5 := Nat.le_trans (SB_mem r (mem_sortBy.mp hr)).2 h5.2
  have hrm : (r.map D.str).length ≤ 100 := by rw [List.length_map]; omega
  have g0 := row0 hrw hrl
  obtain ⟨y1, s8, m8, e1, hg8⟩ := bent_ev 1 (k + 16) (b := b + 15) g0 (by decide) hg7
  obtain ⟨y2, s9, m9, e2, hg9⟩ := c_odd (k := k + 18) (b := b + 14) hg8
  -- the lists
  let L1 : List D := [rowD ws, .tup (ws.map D.str).reverse, .tup (ws.map D.str ++ (ws.map D.str).take 1), .tup (ws.map D.str ++ [.str "zz"]), .tup [], .lst (ws.map D.str), x1, x2]
  let L2 : List D := [rowD (sortBy ltS vs), .tup ((ws.map D.str).take 2), .tup ((ws.map D.str).drop 1), x4]
  have fw := rowL hw h5.2
  have fx1 : Fine0 x1 := big0 f1 bB_1 (by decide) (by decide)
  have fx2 : Fine0 x2 := big0 f2 (by decide) (by decide) (by decide)
  have fx4 : Fine0 x4 := big0 f4 bB_2 (by decide) (by decide)
  have fy1 : Fine0 y1 := big0 e1 bB_1 (by decide) (by decide)
  have fy2 : Fine0 y2 := big0 e2 (by decide) (by decide) (by decide)
  have hL1 : ∀ d ∈ L1, Fine0 d := fun d hd => by
    simp only [L1, List.mem_cons, List.not_mem_nil, or_false] at hd
    rcases hd with rfl | rfl | rfl | rfl | rfl | rfl | rfl | rfl
    · exact rowB hw h5.2 (.inl rfl)
    · exact rowB hw h5.2 (.inr (.inl rfl))
    · exact big0 (fw.app (fw.sub (List.take_sublist 1 _))).tup (by decide) (by decide) (by decide)
    · exact rowB hw h5.2 (.inr (.inr (.inr (.inl rfl))))
    · exact ⟨rfl, by decide, by decide⟩
    · exact rowB hw h5.2 (.inr (.inr (.inl rfl)))
    · exact fx1
    · exact fx2
  have hL2 : ∀ d ∈ L2, Fine0 d := fun d hd => by
    simp only [L2, List.mem_cons, List.not_mem_nil, or_false] at hd
    rcases hd with rfl | rfl | rfl | rfl
    · exact big0 (row_fine (B := 1) v1) (by decide) (by decide) (by rw [v3]; decide)
    · exact big0 (fw.sub (List.take_sublist 2 _)).tup (by decide) (by decide) (by decide)
    · exact big0 (fw.sub (List.drop_sublist 1 _)).tup (by decide) (by decide) (by decide)
    · exact fx4
  let L3 : List D := [rowD r, .tup (r.map D.str).reverse, .lst (r.map D.str), .tup (r.map D.str ++ [.str "zz"]), .tup (r.map D.str ++ r.map D.str), y1, y2, rowD ws]
  have hL3 : ∀ d ∈ L3, Fine0 d := fun d hd => by
    simp only [L3, List.mem_cons, List.not_mem_nil, or_false] at hd
    rcases hd with rfl | rfl | rfl | rfl | rfl | rfl | rfl | rfl
    · exact rowB hrw hrl (.inl rfl)
    · exact rowB hrw hrl (.inr (.inl rfl))
    · exact rowB hrw hrl (.inr (.inr (.inl rfl)))
    · exact rowB hrw hrl (.inr (.inr (.inr (.inl rfl))))
    · exact rowB hrw hrl (.inr (.inr (.inr (.inr rfl))))
    · exact fy1
    · exact fy2
    · exact rowB hw h5.2 (.inl rfl)
  have hL12 : ∀ d ∈ L1 ++ L2, Fine0 d := fun d hd => (List.mem_append.mp hd).elim (hL1 d) (hL2 d)
  obtain ⟨b6, b7, b8, b9, b10, b11, q1⟩ := loop1 (k := k + 17) hg6.cs (ds := L1 ++ L2) hL12 (a0 := a0) (a1 := some .drw) (a2 := a2) (a3 := some (rowD ws)) (a4 := some (.lst ((lotsL ws).map rowD))) (a5 := some (.lst (L1 ++ L2))) (a6 := a6) (a7 := a7) (a8 := a8) (a9 := a9) (a10 := a10) (a11 := a11) (a12 := a12) (a13 := a13) (a14 := a14)
  obtain ⟨c6, c11, q2⟩ := loop2 (k := k + 17) hw hg9.cs (ds := L3) hL3 (a0 := a0) (a1 := some .drw) (a2 := a2) (a4 := some (.lst ((lotsL ws).map rowD))) (a5 := some (.lst (L1 ++ L2))) (a6 := b6) (a7 := b7) (a8 := b8) (a9 := b9) (a10 := b10) (a11 := b11) (a12 := some (rowD r)) (a13 := a13) (a14 := a14)
  refine ⟨some (rowD ws), some (.lst ((lotsL ws).map rowD)), some (.lst (L1 ++ L2)), c6, b7, b8, b9, b10, c11, some (rowD r), a13, a14, s9, ?_, hg9.less (by omega)⟩
  have cs1 := hg1.cs
  refine s_asg (d := rowD ws) (e_call (n_cons (e_v rfl) (n_cons e_k n_nil)) n1) rfl ?_
  refine s_asg (d := .lst ((lotsL ws).map rowD)) (e_call (n_cons (e_v rfl) n_nil) (c_lots (k := k + 19) hw hl6 cs1)) rfl ?_
  have same3 := lots_same ha hn (m := 3) (by decide)
  have same2 := lots_same ha hn (m := 2) (by decide)
  refine s_if_f (e_or_f (ne_repr (d := .tup ((LW ltS ws 3).map rowD)) (lots_fine hw ha hn (by decide)) (e_call (n_cons (e_v rfl) n_nil) (c_threes (k := k + 18) hw hl6 cs1)) (e_bi (n_cons (e_call (n_cons (e_v rfl) n_nil) (c_lthrees (k := k + 18) hw hl6 cs1)) n_nil) (by
      show some (D.tup _) = _
      unfold lotsL
      rw [same3]))) (ne_repr (d := .tup (rulesL ws)) (rules_fine hw ha hn) (e_call (n_cons (e_v rfl) n_nil) (c_rules (k := k + 17) hw hl6 cs1)) (e_bi (n_cons (e_call (n_cons (e_v rfl) n_nil) (c_lrules (k := k + 18) hw hl6 cs1)) n_nil) rfl))) ?_
  refine s_if_f (ne_repr (d := .tup ((LW ltS ws 2).map rowD)) (lots_fine hw ha hn (by decide)) (e_call (n_cons (e_v rfl) n_nil) (c_ways (k := k + 18) hw hl6 cs1)) (e_bi (n_cons (some_lots_ev (m := 2) (show 15 > 13 by decide) (i_walk (e_v rfl) rfl rfl) hl6) n_nil) (by
      show some (D.tup _) = _
      unfold lotsL
      rw [same2]))) ?_
  refine s_asg (d := .lst L1) (s1 := s3) (e_lst (l_cons (e_v rfl) rfl (l_cons (row_slr rfl) rfl (l_cons (e_bin (e_v rfl) (e_sl (d := .tup ((ws.map D.str).take 1)) (e_v rfl) o_nop (o_int e_k) (by
      show cutD (.tup (ws.map D.str)) none (some 1) = _
      rw [cut_tup, show (1 : Int) = ((1 : Nat) : Int) from rfl, cutTo])) (add_tup (by rw [List.length_take]; omega))) rfl (l_cons (row_zz rfl hm) rfl (l_cons (e_tup l_nil rfl (by decide)) rfl (l_cons (e_bi (n_cons (e_v rfl) n_nil) rfl) rfl (l_cons (e_call (n_cons (e_v rfl) (n_cons (e_v rfl) n_nil)) n2) (fit_pure fx1.f) (l_cons (e_call (n_cons (e_v rfl) n_nil) n3) (fit_pure fx2.f) l_nil)))))))) ?_ (show 8 ≤ LIM by decide)) rfl ?_
  · exact List.all_eq_true.mpr fun d hd => fit_pure (hL1 d hd).f
  refine s_asg (d := .lst (L1 ++ L2)) (s1 := s6) (e_bin (e_v rfl) (e_lst (xs := L2) (l_cons (e_bi (n_cons (e_bi (n_cons (e_call (n_cons (e_v rfl) (n_cons e_k n_nil)) n4) n_nil) (sort_words hN.wd (by rw [hN.len]; decide) (by rw [hN.len]; decide))) n_nil) rfl) rfl (l_cons (e_sl (d := .tup ((ws.map D.str).take 2)) (e_v rfl) o_nop (o_int e_k) (by
      show cutD (.tup (ws.map D.str)) none (some 2) = _
      rw [cut_tup, show (2 : Int) = ((2 : Nat) : Int) from rfl, cutTo])) rfl (l_cons (e_sl (d := .tup ((ws.map D.str).drop 1)) (e_v rfl) (o_int e_k) o_nop (by
      show cutD (.tup (ws.map D.str)) (some 1) none = _
      rw [cut_tup, cut1])) rfl (l_cons (e_call (n_cons (e_v rfl) (n_cons (e_call (n_cons (e_v rfl) (n_cons (e_v rfl) n_nil)) n5) n_nil)) n6) (fit_pure fx4.f) l_nil)))) ?_ (show 4 ≤ LIM by decide)) (two_lists (A := L1) (B := L2) (show 8 ≤ 10000 by decide) (show 4 ≤ 10000 by decide))) rfl ?_
  · exact List.all_eq_true.mpr fun d hd => fit_pure (hL2 d hd).f
  refine s_for (i_walk (e_v rfl) rfl rfl) q1 ?_
  refine s_asg (d := rowD r) (s1 := s7) (e_ix (e_v rfl) (e_next rfl rfl (e_bi (n_cons (e_v rfl) n_nil) rfl) n7) hdr) rfl ?_
  refine s_for (i_walk (x := .lst L3) (s1 := s9) (e_lst (l_cons (e_v rfl) rfl (l_cons (row_slr rfl) rfl (l_cons (e_bi (n_cons (e_v rfl) n_nil) rfl) rfl (l_cons (row_zz rfl hrm) rfl (l_cons (row_two rfl hrm) rfl (l_cons (e_call (n_cons (e_v rfl) (n_cons (e_v rfl) n_nil)) m8) (fit_pure fy1.f) (l_cons (e_call (n_cons (e_v rfl) n_nil) m9) (fit_pure fy2.f) (l_cons (e_v rfl) rfl l_nil)))))))) ?_ (show 8 ≤ LIM by decide)) rfl rfl) q2 rfl
  exact List.all_eq_true.mpr fun d hd => fit_pure (hL3 d hd).f
theorem main (ns : List Int) (hn : ns.length ≤ 63) : ∃ s', callT 61 224 [.lst (ns.map D.int)] ⟨none, []⟩ = .ok (.bl true) s' := by
  let M : MS := ⟨ns, ns.filter (fun n => decide (1000000000000000000 ≤ n)), 0⟩
  let s0 : SS := ⟨some M, []⟩
  have hb : callT 60 5 [.lst (ns.map D.int)] ⟨none, []⟩ = .ok .drw s0 := by
    show begunM [.lst (ns.map D.int)] ⟨none, []⟩ = _
    unfold begunM
    dsimp only
    rw [intsOf_map]
    dsimp only
    rw [if_pos hn]
  have hg : Go1 1200 s0 := ⟨rfl, M, rfl, Int.le_refl 0, (show (0 : Int) + 1200 ≤ GRD by decide), Nat.le_trans (List.length_filter_le _ _) hn⟩
  let j : Int := 4 + (if (8 : Int) < (ns.length : Int) then 8 else (ns.length : Int))
  have j0 : 0 ≤ j ∧ j ≤ 12 := by
    show 0 ≤ 4 + _ ∧ 4 + _ ≤ 12
    split <;> omega
  have hr : inR j = true := by
    unfold inR
    rw [decide_eq_true (by omega), decide_eq_true (by omega)]; rfl
  have hlen : (rangeL 0 j).length = j.toNat := by simp [rangeL]
  obtain ⟨E, s1, hf, a2, b3, b4, b5, b6, b7, b8, b9, b10, b11, b12, b13, b14, rfl, hg1⟩ := for_inv (t := .nm 2) (bd := evSs (callT 60) bodyL)
    (fun ds E s => ∃ a2 a3 a4 a5 a6 a7 a8 a9 a10 a11 a12 a13 a14, E = [some (.lst (ns.map D.int)), some .drw, a2, a3, a4, a5, a6, a7, a8, a9, a10, a11, a12, a13, a14] ∧ Go1 (100 * ds.length) s)
    (ds := rangeL 0 j) (env := [some (.lst (ns.map D.int)), some .drw, none, none, none, none, none, none, none, none, none, none, none, none, none]) (s := s0)
    ⟨none, none, none, none, none, none, none, none, none, none, none, none, none, rfl, hg.less (by rw [hlen]; omega)⟩
    (fun d ds env s ⟨a2, a3, a4, a5, a6, a7, a8, a9, a10, a11, a12, a13, a14, e, hg⟩ => by
      subst e
      rw [List.length_cons] at hg
      obtain ⟨b3, b4, b5, b6, b7, b8, b9, b10, b11, b12, b13, b14, s', e, hg'⟩ := turn_ev (k := 40) (b := 100 * ds.length) (s := s) (a0 := some (.lst (ns.map D.int))) (a2 := some d) (a3 := a3) (a4 := a4) (a5 := a5) (a6 := a6) (a7 := a7) (a8 := a8) (a9 := a9) (a10 := a10) (a11 := a11) (a12 := a12) (a13 := a13) (a14 := a14) (hg.less (by omega))
      exact ⟨_, _, s', rfl, e, some d, b3, b4, b5, b6, b7, b8, b9, b10, b11, b12, b13, b14, rfl, hg'⟩)
  have t : callT 61 224 = fnM 15 (evSs (callT 60) S_law) := rfl
  rw [t]
  refine ⟨s1, fn_rt (s_asg (d := .drw) (s1 := s0) (E := [some (.lst (ns.map D.int)), some .drw, none, none, none, none, none, none, none, none, none, none, none, none, none]) (e_call (n_cons (e_v rfl) n_nil) hb) rfl (s_for (i_rng1 (j := j) (e_bin e_k (e_bi (n_cons (e_bi (n_cons (e_v rfl) n_nil) (show some (D.int ((ns.map D.int).length : Nat)) = some (D.int (ns.length : Int)) by rw [List.length_map])) (n_cons e_k n_nil)) rfl) rfl) hr) hf (s_ret e_k rfl))) rfl rfl hg1.cs⟩
end K01

open PySem PySem.W PyProof.Rows
set_option maxRecDepth 100000 in
set_option maxHeartbeats 8000000 in
theorem PySem.Challenge.cw_leftmaps_k01_whole_places_and_lots_holds : PySem.Challenge.rw_leftmaps_k01_whole_places_and_lots.Holds := by
  w_on; o_law; k_head; (case hw => w_witness2); k_fill
  refine PI.walkG (l := PySem.Challenge.rw_leftmaps_k01_whole_places_and_lots) (n := 63) (k := 62) (x := "_law_script") (m := K01.callT 61 224) (xc := ⟨fun _ => 0, PI.fldX⟩) rfl (by decide) rfl ⟨rfl, by decide, by decide⟩ (fun w h Y => PySem.W.kIn_of Y) (fun w => by kernel_rfl) ?F (fun ns hn => K01.main ns hn)
  case F =>
    intro w mg fa h KX G hmg
    refine' K01.txt_mk hmg ⟨PySem.W.mg_none_of KX G ?g_all, PySem.W.mg_none_of KX G ?g_bool_, PySem.W.mg_none_of KX G ?g_int_, PySem.W.mg_none_of KX G ?g_isinstance, PySem.W.mg_none_of KX G ?g_len, PySem.W.mg_none_of KX G ?g_list_, PySem.W.mg_none_of KX G ?g_min, PySem.W.mg_none_of KX G ?g_range, PySem.W.mg_none_of KX G ?g_repr, PySem.W.mg_none_of KX G ?g_sorted, PySem.W.mg_none_of KX G ?g_str_, PySem.W.mg_none_of KX G ?g_super, PySem.W.mg_none_of KX G ?g_tuple_, PySem.W.mg_none_of KX G ?g_zip, PI.gv_mk KX G ?g_LEAST_PLACES ?r_LEAST_PLACES, PI.gv_mk KX G ?g_LETTERS ?r_LETTERS, PI.gv_mk KX G ?g_MOST_LETTERS ?r_MOST_LETTERS, PI.gv_mk KX G ?g_MOST_PLACES ?r_MOST_PLACES, PI.gv_mk KX G ?g_ROUND ?r_ROUND, PI.gv_mk KX G ?g_WITHIN ?r_WITHIN⟩ (PI.def_mk KX G ?a_is_word ?l_is_word ?c_is_word ?k_is_word) (PI.def_mk KX G ?a_are_ascending ?l_are_ascending ?c_are_ascending ?k_are_ascending) (PI.def_mk KX G ?a_need_places ?l_need_places ?c_need_places ?k_need_places) (PI.def_mk KX G ?a_is_lot ?l_is_lot ?c_is_lot ?k_is_lot) (PI.def_mk KX G ?a_without ?l_without ?c_without ?k_without) (PI.def_mk KX G ?a_lots_with ?l_lots_with ?c_lots_with ?k_lots_with) (PI.def_mk KX G ?a_threes ?l_threes ?c_threes ?k_threes) (PI.def_mk KX G ?a_ways ?l_ways ?c_ways ?k_ways) (PI.def_mk KX G ?a_rows_of ?l_rows_of ?c_rows_of ?k_rows_of) (PI.def_mk KX G ?a_rules ?l_rules ?c_rules ?k_rules) (PI.def_mk KX G ?a__law_names ?l__law_names ?c__law_names ?k__law_names) (PI.def_mk KX G ?a__law_is_name ?l__law_is_name ?c__law_is_name ?k__law_is_name) (PI.def_mk KX G ?a__law_odd ?l__law_odd ?c__law_odd ?k__law_odd) (PI.def_mk KX G ?a__law_bent ?l__law_bent ?c__law_bent ?k__law_bent) (PI.def_mk KX G ?a__law_lots ?l__law_lots ?c__law_lots ?k__law_lots) (PI.def_mk KX G ?a__law_threes ?l__law_threes ?c__law_threes ?k__law_threes) (PI.def_mk KX G ?a__law_words ?l__law_words ?c__law_words ?k__law_words) (PI.def_mk KX G ?a__law_rows ?l__law_rows ?c__law_rows ?k__law_rows) (PI.def_mk KX G ?a__law_rules ?l__law_rules ?c__law_rules ?k__law_rules) (PI.def_mk KX G ?a__law_are_ascending ?l__law_are_ascending ?c__law_are_ascending ?k__law_are_ascending) (PI.def_mk KX G ?a_law ?l_law ?c_law ?k_law) (PI.def_mk KX G ?a__law_next ?l__law_next ?c__law_next ?k__law_next) (PI.def_mk KX G ?a__law_begun ?l__law_begun ?c__law_begun ?k__law_begun) ?t_BadPlaces ?s_BadPlaces_BadPlaces
    case g_all => k_is
    case g_bool_ => k_is
    case g_int_ => k_is
    case g_isinstance => k_is
    case g_len => k_is
    case g_list_ => k_is
    case g_min => k_is
    case g_range => k_is
    case g_repr => k_is
    case g_sorted => k_is
    case g_str_ => k_is
    case g_super => k_is
    case g_tuple_ => k_is
    case g_zip => k_is
    (case g_LEAST_PLACES => k_is); (case r_LEAST_PLACES => exact ⟨_, rfl⟩)
    (case g_LETTERS => k_is); (case r_LETTERS => exact ⟨_, rfl⟩)
    (case g_MOST_LETTERS => k_is); (case r_MOST_LETTERS => exact ⟨_, rfl⟩)
    (case g_MOST_PLACES => k_is); (case r_MOST_PLACES => exact ⟨_, rfl⟩)
    (case g_ROUND => k_is); (case r_ROUND => exact ⟨_, rfl⟩)
    (case g_WITHIN => k_is); (case r_WITHIN => exact ⟨_, rfl⟩)
    (case a_is_word => k_is); (case l_is_word => k_is); (case c_is_word => k_is); (case k_is_word => k_is)
    (case a_are_ascending => k_is); (case l_are_ascending => k_is); (case c_are_ascending => k_is); (case k_are_ascending => k_is)
    (case a_need_places => k_is); (case l_need_places => k_is); (case c_need_places => k_is); (case k_need_places => k_is)
    (case a_is_lot => k_is); (case l_is_lot => k_is); (case c_is_lot => k_is); (case k_is_lot => k_is)
    (case a_without => k_is); (case l_without => k_is); (case c_without => k_is); (case k_without => k_is)
    (case a_lots_with => k_is); (case l_lots_with => k_is); (case c_lots_with => k_is); (case k_lots_with => k_is)
    (case a_threes => k_is); (case l_threes => k_is); (case c_threes => k_is); (case k_threes => k_is)
    (case a_ways => k_is); (case l_ways => k_is); (case c_ways => k_is); (case k_ways => k_is)
    (case a_rows_of => k_is); (case l_rows_of => k_is); (case c_rows_of => k_is); (case k_rows_of => k_is)
    (case a_rules => k_is); (case l_rules => k_is); (case c_rules => k_is); (case k_rules => k_is)
    (case a__law_names => k_is); (case l__law_names => k_is); (case c__law_names => k_is); (case k__law_names => k_is)
    (case a__law_is_name => k_is); (case l__law_is_name => k_is); (case c__law_is_name => k_is); (case k__law_is_name => k_is)
    (case a__law_odd => k_is); (case l__law_odd => k_is); (case c__law_odd => k_is); (case k__law_odd => k_is)
    (case a__law_bent => k_is); (case l__law_bent => k_is); (case c__law_bent => k_is); (case k__law_bent => k_is)
    (case a__law_lots => k_is); (case l__law_lots => k_is); (case c__law_lots => k_is); (case k__law_lots => k_is)
    (case a__law_threes => k_is); (case l__law_threes => k_is); (case c__law_threes => k_is); (case k__law_threes => k_is)
    (case a__law_words => k_is); (case l__law_words => k_is); (case c__law_words => k_is); (case k__law_words => k_is)
    (case a__law_rows => k_is); (case l__law_rows => k_is); (case c__law_rows => k_is); (case k__law_rows => k_is)
    (case a__law_rules => k_is); (case l__law_rules => k_is); (case c__law_rules => k_is); (case k__law_rules => k_is)
    (case a__law_are_ascending => k_is); (case l__law_are_ascending => k_is); (case c__law_are_ascending => k_is); (case k__law_are_ascending => k_is)
    (case a_law => k_is); (case l_law => k_is); (case c_law => k_is); (case k_law => k_is)
    (case a__law_next => k_is); (case l__law_next => k_is); (case c__law_next => k_is); (case k__law_next => k_is)
    (case a__law_begun => k_is); (case l__law_begun => k_is); (case c__law_begun => k_is); (case k__law_begun => k_is)
    case t_BadPlaces =>
      refine' PI.exc_mk KX G ?aC ?xL ?a1 ?l1 ?l2 ?l3 ?t1 ?c1 ?sa ?ga ?gg ?nb ?kC ?eC ?tC ?hC ?iC ?ve ?mr ?oq ?su ?rv ?e6 ?e7 ?tp ?e9 ?e10 ?e11 ?e12 ?e13 ?e14 ?e15 ?e16 ?e17 ?e18 ?e19 ?e20 ?e21 ?e22
      (case aC => k_is); (case xL => k_is); (case a1 => k_is); (case l1 => k_is); (case l2 => k_is); (case l3 => k_is); (case t1 => k_is); (case c1 => k_is); (case sa => k_is); (case ga => k_is); (case gg => k_is); (case nb => k_is)
      (case kC => k_is); (case eC => k_is); (case tC => k_is); (case hC => k_is); (case iC => k_is); (case ve => k_is); (case mr => k_is); (case oq => k_is); (case su => kernel_rfl); (case e6 => rfl); (case e9 => rfl)
      all_goals first | rfl | (intro _ _; rfl) | decide | kernel_rfl
    case s_BadPlaces_BadPlaces => k_is
