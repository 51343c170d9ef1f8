import PyProof.Rows.All
import Wide.All
import OpenK.AllK
import Wide.FinOn
import HandS.ForMost
import HandS.Lambda
import HandS.ForExc
import HandS.ExcInit
import HandS.ExcField
import HandS.TupAny
import HandS.TupMul
import HandS.TupLe
import HandS.Style
import HandS.Dict
import PyProof.EqKinds
import HandS.More
import HandS.IsInst
import KE.KDictPairs
import KE.KDictZip
import KE.GoesZip
import KE.GoesMore
import HandS.Zip
import HandS.DictComp
import KE.DataMinMax
import KE.KExcSuper
import HandS.SortOrd
import KE.SortData
import PyProof.Rows.SortWalk
import KE.KDflt
import PyProof.InstNe
import KE.KExcIs
import KE.KExcLine
import PyProof.StrLawsRepr
import PyProof.Rows.ReprOcc
import PySem.Challenge.RW_leftmaps_k70_errors
set_option Elab.async false
set_option linter.all false
set_option maxRecDepth 100000
/-! PI, part a: data, core terms, the evaluator. -/
namespace PI
open PySem

inductive D where
  | non
  | bl (b : Bool)
  | int (i : Int)
  | str (x : Str)
  | tup (xs : List D)
  | lst (xs : List D)
  | dct (ks vs : List D)
  | obj (c : Nat) (fn : List Str) (fv : List D)
  | exn (c C : Nat) (f : Str) (d : D)
  | own (i : Nat)
  | drw
  deriving Inhabited

/-- state of the draws -/
structure MS where
  cells : List Int
  left : List Int
  at_ : Int

/-- a cell of the store: changeable things of the running frames; fz: it was handed on, so it stays -/
inductive OC where
  | lst (xs : List D)
  | dct (t : Bool) (ks vs : List D)
  | ins (c : Nat) (fn : List Str) (fv : List D)
  | tbl (x q : Str)

structure SS where
  m : Option MS
  cs : List (Bool × OC)

inductive R (α : Type) where
  | ok (a : α) (s : SS)
  | exc (c : Nat) (f : D) (s : SS)
  | stuck

abbrev M (α : Type) := SS → R α

namespace M
def ret {α : Type} (a : α) : M α := fun s => .ok a s
def bnd {α β : Type} (x : M α) (f : α → M β) : M β := fun s =>
  match x s with
  | .ok a s' => f a s'
  | .exc c d s' => .exc c d s'
  | .stuck => .stuck
def stk {α : Type} : M α := fun _ => .stuck
def opt {α : Type} : Option α → M α
  | some a => ret a
  | none => stk
/-- an exception from here is not followed -/
def calm {α : Type} (x : M α) : M α := fun s =>
  match x s with
  | .ok a s' => .ok a s'
  | .exc _ _ _ => .stuck
  | .stuck => .stuck
end M
instance : Monad M where
  pure := M.ret
  bind := M.bnd

/-! ### data -/
mutual
def eqB : D → D → Bool
  | .non, .non => true
  | .bl a, .bl b => a == b
  | .bl a, .int j => (if a then 1 else 0) == j
  | .int i, .bl b => i == (if b then 1 else 0)
  | .int i, .int j => i == j
  | .str x, .str y => x == y
  | .lst xs, .lst ys => eqBs xs ys
  | .tup xs, .tup ys => eqBs xs ys
  | _, _ => false
def eqBs : List D → List D → Bool
  | [], [] => true
  | x :: xs, y :: ys => eqB x y && eqBs xs ys
  | _, _ => false
end
mutual
/-- data without dicts, objects, references -/
def plain : D → Bool
  | .non => true
  | .bl _ => true
  | .int _ => true
  | .str x => x.cps.all (· < 0x110000)
  | .tup xs => plains xs
  | .lst xs => plains xs
  | _ => false
def plains : List D → Bool
  | [] => true
  | x :: xs => plain x && plains xs
end
mutual
def dep : D → Nat
  | .tup xs => deps xs + 1
  | .lst xs => deps xs + 1
  | _ => 0
def deps : List D → Nat
  | [] => 0
  | x :: xs => max (dep x) (deps xs)
end
/-- two things may be compared by == -/
def eqOk (x y : D) : Bool := plain x && plain y && decide (min (dep x) (dep y) ≤ 60)

inductive Leaf where
  | i | s | b
  deriving DecidableEq
def isK : Nat → Leaf → D → Bool
  | 0, .i, .int _ => true
  | 0, .s, .str _ => true
  | 0, .b, .bl _ => true
  | n + 1, l, .tup xs => xs.all (isK n l)
  | _, _, _ => false
def ltS (x y : Str) : Bool := decide (x.cps.toList < y.cps.toList)
mutual
def ltB : D → D → Bool
  | .int i, .int j => decide (i < j)
  | .str x, .str y => ltS x y
  | .bl a, .bl b => !a && b
  | .tup xs, .tup ys => ltBs xs ys
  | .lst xs, .lst ys => ltBs xs ys
  | _, _ => false
def ltBs : List D → List D → Bool
  | [], [] => false
  | [], _ :: _ => true
  | _ :: _, [] => false
  | x :: xs, y :: ys => if eqB x y then ltBs xs ys else ltB x y
end
def kinds : List (Nat × Leaf) := [(0, .s), (0, .i), (0, .b), (1, .s), (1, .b), (1, .i), (2, .s), (3, .s), (4, .s)]
def kindOf (xs : List D) : Option (Nat × Leaf) := kinds.find? fun k => xs.all (isK k.1 k.2)

/-! ### core terms -/
inductive BOp where
  | add | sub | mul | fdiv | mod | pow
  deriving DecidableEq
inductive COp where
  | eq | ne | lt | le | gt | ge | is | isnot | inn | notin
  deriving DecidableEq
inductive Ty where
  | str | int | bool | tuple | list | dict | cls (c : Nat)
  deriving DecidableEq
inductive BI where
  | len | all | any | int | tuple | list | sorted | min | max | repr | dict
  deriving DecidableEq
/-- targets of names -/
inductive T where
  | nm (i : Nat)
  | tup (ts : List T)
/-- what a clause returns of the exception's field f: (k, repr(f)), [f], [repr(f)] -/
inductive HK where
  | tagR (k : Str)
  | lstF
  | lstR
inductive C where
  | k (d : D)
  | v (i : Nat)
  | bin (o : BOp) (a b : C)
  | neg (a : C)
  | cmp (o : COp) (a b : C)
  | chain (o o' : COp) (a b c : C)
  | and (a b : C)
  | or (a b : C)
  | not (a : C)
  | ite (t a b : C)
  | star (a : C)
  | tup (es : List C)
  | lst (es : List C)
  | dct0
  | call (f : Nat) (es : List C)
  | bi (b : BI) (es : List C)
  | isi (a : C) (ts : List Ty)
  | ix (a i : C)
  | sl (a lo hi : C)
  | slr (a lo hi : C)
  | nop
  | lc (own : List Nat) (t : T) (it : C) (c : C) (e : C)
  | lc2 (own : List Nat) (t1 : T) (it1 : C) (own2 : List Nat) (t2 : T) (it2 : C) (c : C) (e : C)
  | rng (es : List C)
  | zip (es : List C)
  | enum (es : List C)
  | dzip (es : List C)
  | attr (a : C) (f : Str)
  | meth (f : Nat) (o : C) (es : List C)
  | lstO (es : List C)
  | dctO (t : Bool)
  | dc (own : List Nat) (t : T) (it : C) (c : C) (kk vv : C)
  | oget (o : C) (k : C)
  | omin (o : C)
  | told (n : Nat) (hs : List (Nat × HK)) (e : C)
  | sortl (n : Nat) (it : C) (d : C)
inductive S where
  | pass
  | expr (e : C)
  | asg (t : T) (e : C)
  | par (is : List Nat) (es : List C)
  | ret (e : C)
  | retN
  | ite (c : C) (a b : List S)
  | for_ (t : T) (it : C) (b : List S)
  | while_ (n : Nat) (c : C) (b : List S)
  | raise (c : Nat) (e : C)
  | tryR (c : Nat) (no : List Nat) (i j : Nat) (b : List S)
  | brk
  | cont
  | fld (i : Nat) (f : Str) (e : C)
  | app (o : C) (e : C)
  | dput (o k v : C)
  | dputp (o k : C) (j : Nat) (a b : C)
  | parT (ts : List T) (es : List C)
  | tryH (hs : List (Nat × HK)) (i : Nat) (b : List S)
  | tryQ (c i j : Nat) (b : List S)

/-! ### operations on data -/
def LIM : Nat := 1000000
def small (i : Int) : Bool := decide (-(2 ^ 64) < i) && decide (i < 2 ^ 64)
def toI (b : Bool) : Int := if b = true then 1 else 0
def repS (x : Str) (n : Nat) : Str := ⟨(List.replicate n x.cps.toList).flatten.toArray⟩
def addD : D → D → Option D
  | .int i, .int j => some (.int (i + j))
  | .bl a, .bl b => some (.int (toI a + toI b))
  | .int i, .bl b => some (.int (i + toI b))
  | .str x, .str y => if x.length + y.length ≤ LIM then some (.str (x ++ y)) else none
  | .tup xs, .tup ys => if xs.length + ys.length ≤ LIM then some (.tup (xs ++ ys)) else none
  | .lst xs, .lst ys => if xs.length + ys.length ≤ LIM then some (.lst (xs ++ ys)) else none
  | _, _ => none
def subD : D → D → Option D
  | .int i, .int j => some (.int (i - j))
  | _, _ => none
def mulD : D → D → Option D
  | .int i, .int j => if small i || small j then some (.int (i * j)) else none
  | .str x, .int k => if 2 ≤ k && k ≤ 1000 && decide (x.length ≤ 1000) then some (.str (repS x k.toNat)) else none
  | .tup xs, .int k => if 2 ≤ k && k ≤ 1000 && decide (xs.length ≤ 1000) then some (.tup (List.replicate k.toNat xs).flatten) else none
  | .lst xs, .int k => if 0 ≤ k && k ≤ 1000 && decide (xs.length ≤ 1000) then some (.lst (List.replicate k.toNat xs).flatten) else none
  | _, _ => none
def fdivD : D → D → Option D
  | .int i, .int j => if 0 < j && j < 1073741824 then some (.int (i / j)) else none
  | _, _ => none
def modD : D → D → Option D
  | .int i, .int j => if 0 < j then some (.int (i % j)) else none
  | _, _ => none
def powD : D → D → Option D
  | .int i, .int j => if 0 ≤ j && j ≤ 1000 && small i then some (.int (i ^ j.toNat)) else none
  | _, _ => none
def binD : BOp → D → D → Option D
  | .add => addD
  | .sub => subD
  | .mul => mulD
  | .fdiv => fdivD
  | .mod => modD
  | .pow => powD

/-! ### dicts -/
def keyOf : D → Option (Sum Int Str)
  | .int i => some (.inl i)
  | .str x => some (.inr x)
  | _ => none
def keysOf : List D → Option (List (Sum Int Str))
  | [] => some []
  | d :: ds => match keyOf d, keysOf ds with
    | some k, some ks => some (k :: ks)
    | _, _ => none
/-- what a dict holds at a key -/
def valD : List D → List D → D → Option D
  | k :: ks, v :: vs, x => if eqB k x then some v else valD ks vs x
  | _, _, _ => none
def hasD (ks : List D) (x : D) : Bool := ks.any fun k => eqB k x
/-- keys of one kind: 0 simple, 1 tuples of such -/
def keyB (x : D) : Bool := (keyOf x).isSome
def tkeyB : D → Bool
  | .tup ds => (keysOf ds).isSome
  | _ => false
/-- key and dict are of one kind -/
def sameKind (ks : List D) (x : D) : Bool := match ks with
  | k :: _ => (keyB k && keyB x) || (tkeyB k && tkeyB x)
  | [] => keyB x
def dgetD : D → D → Option D
  | .dct ks vs, x => if sameKind ks x then valD ks vs x else none
  | _, _ => none
/-- x in d -/
def dinD : D → D → Option D
  | x, .dct ks vs => if sameKind ks x && decide (ks.length = vs.length) then some (.bl (hasD ks x)) else if ks.isEmpty && vs.isEmpty && tkeyB x then some (.bl false) else none
  | _, _ => none
def eqD : D → D → Option D
  | .tup (_ :: _), .tup [] => some (.bl false)
  | .tup [], .tup (_ :: _) => some (.bl false)
  | .lst (_ :: _), .lst [] => some (.bl false)
  | x, y => if eqOk x y then some (.bl (eqB x y)) else none
def neD : D → D → Option D
  | .lst (_ :: _), .lst [] => some (.bl true)
  | x, y => if eqOk x y then some (.bl (!eqB x y)) else none
def leS (x y : Str) : Bool := !ltS y x
def ltD : D → D → Option D
  | .int i, .int j => some (.bl (decide (i < j)))
  | .str x, .str y => some (.bl (ltS x y))
  | _, _ => none
def leD : D → D → Option D
  | .int i, .int j => some (.bl (decide (i ≤ j)))
  | .str x, .str y => some (.bl (leS x y))
  | _, _ => none
def gtD (x y : D) : Option D := ltD y x
def geD (x y : D) : Option D := leD y x
def inB (x : D) (xs : List D) : Bool := xs.any fun y => eqB y x
def emptyDct : D → Bool
  | .dct [] [] => true
  | _ => false
def tupStr : D → Bool
  | .tup _ => true
  | .str _ => true
  | _ => false
def inD : D → D → Option D
  | x, .tup xs => if plain x && plains xs && decide (min (dep x) (deps xs) ≤ 60) then some (.bl (inB x xs)) else none
  | x, .lst xs => if plain x && plains xs && decide (min (dep x) (deps xs) ≤ 60) then some (.bl (inB x xs)) else if emptyDct x && xs.all tupStr then some (.bl false) else none
  | .str x, .str y => if x.length = 1 then some (.bl (y.cps.toList.contains (x.cps.getD 0 0))) else none
  | x, .dct ks vs => dinD x (.dct ks vs)
  | _, _ => none
def notD : D → Option D
  | .bl b => some (.bl (!b))
  | _ => none
def isD : D → D → Option D
  | .non, .non => some (.bl true)
  | .bl a, .bl b => some (.bl (a == b))
  | .own _, .non => none
  | .drw, .non => none
  | _, .non => some (.bl false)
  | .non, .bl _ => some (.bl false)
  | _, _ => none
def cmpD : COp → D → D → Option D
  | .eq, x, y => eqD x y
  | .ne, x, y => neD x y
  | .lt, x, y => ltD x y
  | .le, x, y => leD x y
  | .gt, x, y => gtD x y
  | .ge, x, y => geD x y
  | .is, x, y => isD x y
  | .isnot, x, y => (isD x y).bind notD
  | .inn, x, y => inD x y
  | .notin, x, y => (inD x y).bind notD

/-! ### the evaluator's words -/
abbrev Env' := List (Option D)
def rd (env : Env') (i : Nat) : M D := match env[i]? with
  | some (some d) => M.ret d
  | _ => M.stk
def vw (s : SS) : D → D
  | .own i => match s.cs[i]? with
    | some (_, .lst xs) => .lst xs
    | _ => .own i
  | d => d
/-- a two-place operation on what is read -/
def op2 (f : D → D → Option D) (x y : D) : M D := fun s => match f (vw s x) (vw s y) with
  | some d => .ok d s
  | none => .stuck
def op1 (f : D → Option D) (x : D) : M D := fun s => match f (vw s x) with
  | some d => .ok d s
  | none => .stuck
def andM (x : M D) (y : M D) : M D := x >>= fun a => match a with
  | .bl true => y
  | .bl false => M.ret (.bl false)
  | _ => M.stk
def orM (x : M D) (y : M D) : M D := x >>= fun a => match a with
  | .bl false => y
  | .bl true => M.ret (.bl true)
  | _ => M.stk
def iteM {α : Type} (t : M D) (x y : M α) : M α := t >>= fun a => match a with
  | .bl true => x
  | .bl false => y
  | _ => M.stk
def notM (x : M D) : M D := x >>= fun a => match a with
  | .bl b => M.ret (.bl (!b))
  | _ => M.stk
def negD : D → Option D
  | .int i => some (.int (-i))
  | _ => none
def chainM (o o' : COp) (a b c : M D) : M D := a >>= fun x => b >>= fun y => op2 (cmpD o) x y >>= fun z => match z with
  | .bl true => c >>= fun w => op2 (cmpD o') y w
  | .bl false => M.ret (.bl false)
  | _ => M.stk
/-- handed on: what may change no more -/
def frz (d : D) : M D := fun s => match d with
  | .own i => match s.cs[i]? with
    | some (_, .lst xs) => .ok (.lst xs) { s with cs := s.cs.set i (true, .lst xs) }
    | some (_, .dct t ks vs) => if t && ks.isEmpty then .stuck else .ok (.dct ks vs) { s with cs := s.cs.set i (true, .dct t ks vs) }
    | _ => .stuck
  | d => .ok d s
def pureB : D → Bool
  | .own _ => false
  | .drw => false
  | _ => true
def seqD : D → Option (List D)
  | .tup xs => some xs
  | .lst xs => some xs
  | _ => none
def consM (x : M D) (ys : M (List D)) : M (List D) := x >>= fun a => frz a >>= fun a => ys >>= fun r => M.ret (a :: r)
def starM (x : M D) (ys : M (List D)) : M (List D) := x >>= fun a s => match seqD (vw s a) with
  | some l => (ys >>= fun r => M.ret (l ++ r)) s
  | none => .stuck
def tupM (xs : M (List D)) : M D := xs >>= fun ds => if ds.all pureB && decide (ds.length ≤ LIM) then M.ret (.tup ds) else M.stk
def lstM (xs : M (List D)) : M D := xs >>= fun ds => if ds.all pureB && decide (ds.length ≤ LIM) then M.ret (.lst ds) else M.stk

/-! ### items, slices -/
def ixD : D → D → Option D
  | .tup xs, .int i => L2.atI xs i
  | .lst xs, .int i => L2.atI xs i
  | .str x, .int i => if x.length ≤ LIM then (L2.atI x.cps.toList i).map fun c => .str ⟨#[c]⟩ else none
  | .dct ks vs, x => dgetD (.dct ks vs) x
  | _, _ => none
def cutL {α : Type} (xs : List α) (lo hi : Option Int) : List α := (xs.drop (HT.sIx xs.length 0 lo)).take (HT.sIx xs.length xs.length hi - HT.sIx xs.length 0 lo)
def cutD : D → Option Int → Option Int → Option D
  | .tup xs, lo, hi => some (.tup (cutL xs lo hi))
  | .lst xs, lo, hi => some (.lst (cutL xs lo hi))
  | .str x, lo, hi => if x.length ≤ LIM then some (.str ⟨(cutL x.cps.toList lo hi).toArray⟩) else none
  | _, _, _ => none
def backL {α : Type} (xs : List α) (lo hi : Option Int) : List α :=
  let p := Builtin.Slice.sliceAdjust lo hi (-1) (xs.length : Int)
  (List.range (Builtin.Slice.slicePlaces p.1 p.2 (-1))).filterMap fun (k : Nat) => xs[(p.1 + (k : Int) * (-1)).toNat]?
def backD : D → Option Int → Option Int → Option D
  | .tup xs, lo, hi => some (.tup (backL xs lo hi))
  | .lst xs, none, none => some (.lst xs.reverse)
  | _, _, _ => none
/-- a slice's bound that is written -/
def intM (x : M D) : M (Option Int) := x >>= fun d => match d with
  | .int i => M.ret (some i)
  | _ => M.stk
def sliceM (f : D → Option Int → Option Int → Option D) (a : M D) (lo hi : M (Option Int)) : M D := a >>= fun x => lo >>= fun l => hi >>= fun h s => match f (vw s x) l h with
  | some d => .ok d s
  | none => .stuck

/-! ### built-in functions -/
def consN (x : M D) (ys : M (List D)) : M (List D) := x >>= fun a => ys >>= fun r => M.ret (a :: r)
def biM (f : List D → Option D) (xs : M (List D)) : M D := xs >>= fun ds s => match f (ds.map (vw s)) with
  | some d => .ok d s
  | none => .stuck
def lenD : List D → Option D
  | [.tup xs] => some (.int (xs.length : Nat))
  | [.lst xs] => some (.int (xs.length : Nat))
  | [.str x] => if x.length ≤ LIM then some (.int (x.length : Nat)) else none
  | _ => none
def boolsD : List D → Option (List Bool)
  | [] => some []
  | .bl b :: r => (boolsD r).map (b :: ·)
  | _ => none
def intsD : List D → Option (List Int)
  | [] => some []
  | .int i :: r => (intsD r).map (i :: ·)
  | _ => none
def allD : List D → Option D
  | [.lst xs] => (boolsD xs).map fun bs => .bl (bs.all id)
  | _ => none
def anyD : List D → Option D
  | [.lst xs] => (boolsD xs).map fun bs => .bl (bs.any id)
  | _ => none
def intD : List D → Option D
  | [.int i] => some (.int i)
  | [.bl b] => some (.int (if b then 1 else 0))
  | _ => none
def tupleD : List D → Option D
  | [.tup xs] => some (.tup xs)
  | [.lst xs] => some (.tup xs)
  | _ => none
def listD : List D → Option D
  | [.tup xs] => some (.lst xs)
  | [.lst xs] => some (.lst xs)
  | _ => none
def minI : List Int → Int
  | [] => 0
  | [a] => a
  | a :: r => min a (minI r)
def maxI : List Int → Int
  | [] => 0
  | [a] => a
  | a :: r => max a (maxI r)
def minD : List D → Option D
  | [.int i, .int j] => some (.int (if j < i then j else i))
  | [.str x, .str y] => some (.str (if ltS y x = true then y else x))
  | [.lst (x :: xs)] => (intsD (x :: xs)).map fun ns => .int (minI ns)
  | _ => none
def maxD : List D → Option D
  | [.int i, .int j] => some (.int (if j > i then j else i))
  | [.lst (x :: xs)] => (intsD (x :: xs)).map fun ns => .int (maxI ns)
  | _ => none
def tyName : D → Option String
  | .non => some "NoneType"
  | .bl _ => some "bool"
  | .int _ => some "int"
  | .str _ => some "str"
  | .tup _ => some "tuple"
  | .lst _ => some "list"
  | .dct [] [] => some "dict"
  | _ => none
def Ty.name : Ty → Option String
  | .str => some "str"
  | .int => some "int"
  | .bool => some "bool"
  | .tuple => some "tuple"
  | .list => some "list"
  | .dict => some "dict"
  | .cls _ => none
/-- is a thing of a type one of another type -/
def subTy (a b : String) : Bool := a == b || (a == "bool" && b == "int")
def isiD (ts : List Ty) (d : D) : Option D := match tyName d with
  | some a => if ts.all (fun t => t.name.isSome) then some (.bl (ts.any fun t => match t.name with | some b => subTy a b | none => false)) else none
  | none => none

/-! ### what is walked -/
def itemsD : D → Option (List D)
  | .tup xs => some xs
  | .lst xs => some xs
  | .str x => some (x.cps.toList.map fun c => .str ⟨#[c]⟩)
  | _ => none
def walkM (x : M D) : M (List D) := x >>= fun a => frz a >>= fun a => M.opt (itemsD a)
def rangeL (lo hi : Int) : List D := (List.range (hi - lo).toNat).map fun (k : Nat) => .int (lo + (k : Int))
def inR (i : Int) : Bool := decide (-(2 ^ 62) ≤ i) && decide (i < 2 ^ 62)
def rangeM (xs : M (List D)) : M (List D) := xs >>= fun ds => match ds with
  | [.int j] => if inR j then M.ret (rangeL 0 j) else M.stk
  | [.int i, .int j] => if inR i && inR j then M.ret (rangeL i j) else M.stk
  | _ => M.stk
def zipM (xs : M (List D)) : M (List D) := xs >>= fun ds => match ds with
  | [.tup xs, .tup ys] => M.ret ((xs.zip ys).map fun p => .tup [p.1, p.2])
  | [.lst xs, .lst ys] => M.ret ((xs.zip ys).map fun p => .tup [p.1, p.2])
  | _ => M.stk
def enumL (k : Nat) : List D → List D
  | [] => []
  | x :: xs => .tup [.int (k : Int), x] :: enumL (k + 1) xs
def enumM (xs : M (List D)) : M (List D) := xs >>= fun ds => match ds with
  | [.lst xs] => M.ret (enumL 0 xs)
  | _ => M.stk

/-! ### targets -/
mutual
def asgT : T → D → Env' → Option Env'
  | .nm i, d, env => if i < env.length then some (env.set i (some d)) else none
  | .tup ts, .tup ds, env => asgTs ts ds env
  | .tup _, _, _ => none
def asgTs : List T → List D → Env' → Option Env'
  | [], [], env => some env
  | t :: ts, d :: ds, env => (asgT t d env).bind fun env => asgTs ts ds env
  | _, _, _ => none
end
mutual
def slotsT : T → List Nat
  | .nm i => [i]
  | .tup ts => slotsTs ts
def slotsTs : List T → List Nat
  | [] => []
  | t :: ts => slotsT t ++ slotsTs ts
end
def wipeE (env : Env') : List Nat → Env'
  | [] => env
  | v :: vs => (wipeE env vs).set v none
/-! ### comprehensions -/
def compM (f : D → M (Option D)) : List D → M (List D)
  | [] => M.ret []
  | d :: ds => f d >>= fun o => compM f ds >>= fun r => M.ret (match o with | some y => y :: r | none => r)
/-- one turn: the target, the test, the element -/
def turnM (t : T) (tst el : Env' → M D) (env : Env') (d : D) : M (Option D) := match asgT t d env with
  | none => M.stk
  | some env' => iteM (tst env') (el env' >>= fun y => frz y >>= fun y => if pureB y then M.ret (some y) else M.stk) (M.ret none)
def lcM (own : List Nat) (t : T) (it : M (List D)) (tst el : Env' → M D) (env : Env') : M D :=
  it >>= fun ds => M.calm (compM (turnM t tst el (wipeE env own)) ds) >>= fun r => if r.length ≤ LIM then M.ret (.lst r) else M.stk

def catM (f : D → M (List D)) : List D → M (List D)
  | [] => M.ret []
  | d :: ds => f d >>= fun l => catM f ds >>= fun r => M.ret (l ++ r)
def turn2M (t1 : T) (it2 : Env' → M (List D)) (own2 : List Nat) (t2 : T) (tst el : Env' → M D) (env : Env') (d : D) : M (List D) := match asgT t1 d env with
  | none => M.stk
  | some env1 => it2 env1 >>= fun ys => compM (turnM t2 tst el (wipeE env1 own2)) ys
def lc2M (own : List Nat) (t1 : T) (it : M (List D)) (it2 : Env' → M (List D)) (own2 : List Nat) (t2 : T) (tst el : Env' → M D) (env : Env') : M D :=
  it >>= fun ds => M.calm (catM (turn2M t1 it2 own2 t2 tst el (wipeE env own)) ds) >>= fun r => if r.length ≤ LIM then M.ret (.lst r) else M.stk
end PI

/-! PI, part b: what data stands for in the abstract heap; the semantic judgement. -/
namespace PI
open PySem L2

/-! ### data in the abstract heap -/
/-- a list that stays as it is -/
def FzL (H : Hp) (a : Addr) (vs : List V) : Prop := ∃ o, H a = some (.frz o (.lst vs))
theorem FzL.rd {H : Hp} {a : Addr} {vs : List V} (h : FzL H a vs) : Rd H a (.lst vs) := .inr h
theorem FzL.sq {K : PySem.W.Frag} {H : Hp} {a : Addr} {vs : List V} (h : FzL H a vs) : SqL K H a vs := .inl (.inr h)
def FzT (K : PySem.W.Frag) (H : Hp) (a : Addr) (vs : List V) : Prop := H a = some (.tup vs)
theorem FzT.sq {K : PySem.W.Frag} {H : Hp} {a : Addr} {vs : List V} (h : FzT K H a vs) : SqT K H a vs := .inl (.inl h)

/-- a key of a dict -/
def keyD : Key → D
  | .inl i => .int i
  | .inr x => .str x
/-- a dict that stays as it is: its keys, what it holds -/
def DctAt (H : Hp) (a : Addr) (ks : List D) (us : List V) : Prop :=
  (∃ o kvs, H a = some (.frz o (.dK kvs)) ∧ ks = kvs.map (fun p => keyD p.1) ∧ us = kvs.map (·.2)) ∨
  ∃ o kvs, H a = some (.frz o (.dT kvs)) ∧ kvs ≠ [] ∧ ks = kvs.map (fun p => .tup (p.1.map keyD)) ∧ us = kvs.map (·.2)
theorem DctAt.nil {H : Hp} {a : Addr} {us : List V} (h : DctAt H a [] us) : ∃ o, H a = some (.frz o (.dK [])) ∧ us = [] := by
  rcases h with ⟨o, kvs, e, k, u⟩ | ⟨o, kvs, e, n, k, u⟩
  · have z : kvs = [] := List.map_eq_nil_iff.mp k.symm
    subst z
    exact ⟨o, e, u⟩
  · exact absurd (List.map_eq_nil_iff.mp k.symm) n
theorem DctAt.zero {H : Hp} {a : Addr} {o : Obj} (h : H a = some (.frz o (.dK []))) : DctAt H a [] [] := .inl ⟨o, [], h, rfl, rfl⟩
/-- what the written part says of a class whose instances have such fields -/
structure ObjCls (K : PySem.W.Frag) (C : Addr) (fn : List Str) : Prop where
  cls : Cls K C
  noa : ∀ f ∈ fn, NoAttr K C f
/-- what the written part says of an exception's class, its field -/
structure ExnC (K : PySem.W.Frag) (C : Addr) (f : Str) : Prop where
  xf : XfC K C
  fld : PySem.W.findIn K (.ref C) f = some none
  cl : (PySem.W.clsIn K C).isSome = true
  ca : PySem.W.findIn K (.ref C) "__class__" = some (some (.builtin "object.__class__"))
  cn : PySem.W.specialIn K (.builtin "object.__class__") "__get__" = some (some (.builtin "getset_descriptor.__get__"))
  ct : PySem.W.takesIn K (.builtin "object.__class__") = some true
  cm : PySem.W.mroIn K C (.type "object") = some true
mutual
inductive Rep (K : PySem.W.Frag) (H : Hp) : V → D → Prop
  | non : Rep K H .non .non
  | bl (b : Bool) : Rep K H (.bl b) (.bl b)
  | int (i : Int) : Rep K H (.int i) (.int i)
  | str (x : Str) : Rep K H (.str x) (.str x)
  | tup {a : Addr} {vs : List V} {ds : List D} : FzT K H a vs → Reps K H vs ds → Rep K H (.ref a) (.tup ds)
  | lst {a : Addr} {vs : List V} {ds : List D} : FzL H a vs → Reps K H vs ds → Rep K H (.ref a) (.lst ds)
  | dct {a : Addr} {ks vs : List D} {us : List V} : DctAt H a ks us → Reps K H us vs → Rep K H (.ref a) (.dct ks vs)
  | obj {a C dx : Addr} {fs : List (Str × V)} {fn : List Str} {vs : List D} : H a = some (.ins C dx fs) → 2 ≤ fs.length → ObjCls K C fn → fs.map (·.1) = fn → Reps K H (fs.map (·.2)) vs → Rep K H (.ref a) (.obj C fn vs)
  | exn {a C dx : Addr} {f : Str} {v : V} {d : D} (c : Nat) : H a = some (exo a C (some dx)) → H dx = some (exd dx [(f, v)]) → ExnC K C f → Rep K H v d → Rep K H (.ref a) (.exn c C f d)
inductive Reps (K : PySem.W.Frag) (H : Hp) : List V → List D → Prop
  | nil : Reps K H [] []
  | cons {v : V} {vs : List V} {d : D} {ds : List D} : Rep K H v d → Reps K H vs ds → Reps K H (v :: vs) (d :: ds)
end

/-- what stays -/
def Fz : HO → Prop
  | .tup _ => True
  | .frz _ _ => True
  | .ins _ _ fs => 2 ≤ fs.length
  | .own _ => True
  | .ext _ => True
  | _ => False
structure Ext (H H' : Hp) : Prop where
  kp : ∀ a o, H a = some o → Fz o → H' a = some o
theorem Ext.refl (H : Hp) : Ext H H := ⟨fun _ _ e _ => e⟩
theorem Ext.trans {H H1 H2 : Hp} (a : Ext H H1) (b : Ext H1 H2) : Ext H H2 := ⟨fun c o e f => b.kp c o (a.kp c o e f) f⟩
theorem FzL.mono {H H' : Hp} {a : Addr} {vs : List V} (x : Ext H H') (h : FzL H a vs) : FzL H' a vs := by
  obtain ⟨o, h⟩ := h
  exact ⟨o, x.kp _ _ h trivial⟩
theorem FzT.mono {K : PySem.W.Frag} {H H' : Hp} {a : Addr} {vs : List V} (x : Ext H H') (h : FzT K H a vs) : FzT K H' a vs := x.kp _ _ h trivial
theorem DctAt.mono {H H' : Hp} {a : Addr} {ks : List D} {us : List V} (x : Ext H H') (h : DctAt H a ks us) : DctAt H' a ks us := by
  rcases h with ⟨o, kvs, e, r⟩ | ⟨o, kvs, e, r⟩
  · exact .inl ⟨o, kvs, x.kp _ _ e trivial, r⟩
  · exact .inr ⟨o, kvs, x.kp _ _ e trivial, r⟩
mutual
theorem Rep.mono {K : PySem.W.Frag} {H H' : Hp} (x : Ext H H') : ∀ {v : V} {d : D}, Rep K H v d → Rep K H' v d
  | _, _, .non => .non
  | _, _, .bl b => .bl b
  | _, _, .int i => .int i
  | _, _, .str s => .str s
  | _, _, .tup h r => .tup (h.mono x) (Reps.mono x r)
  | _, _, .lst h r => .lst (h.mono x) (Reps.mono x r)
  | _, _, .dct h r => .dct (h.mono x) (Reps.mono x r)
  | _, _, .obj h l c e r => .obj (x.kp _ _ h l) l c e (Reps.mono x r)
  | _, _, .exn c h1 h2 k r => .exn c (x.kp _ _ h1 trivial) (x.kp _ _ h2 trivial) k (Rep.mono x r)
theorem Reps.mono {K : PySem.W.Frag} {H H' : Hp} (x : Ext H H') : ∀ {vs : List V} {ds : List D}, Reps K H vs ds → Reps K H' vs ds
  | _, _, .nil => .nil
  | _, _, .cons h r => .cons (Rep.mono x h) (Reps.mono x r)
end

/-! ### the store in the abstract heap -/
structure Wd where
  m : Option (Addr × Addr)
  ρ : List Addr
/-- what may change -/
def Wd.ws (w : Wd) : List Addr := (match w.m with | some (a, l) => [a, l] | none => []) ++ w.ρ
def DHold (H : Hp) (a : Addr) (o : HO) : Bool → Prop
  | false => H a = some o
  | true => ∃ ob, H a = some (.frz ob o)
theorem DHold.at {H H' : Hp} {a : Addr} {o : HO} {fz : Bool} (e : H' a = H a) (h : DHold H a o fz) : DHold H' a o fz := by
  cases fz with
  | false => exact e.trans h
  | true => obtain ⟨ob, h⟩ := h; exact ⟨ob, e.trans h⟩
theorem DHold.there {H : Hp} {a : Addr} {o : HO} {fz : Bool} (h : DHold H a o fz) : ∃ u, H a = some u := by
  cases fz with
  | false => exact ⟨_, h⟩
  | true => obtain ⟨ob, h⟩ := h; exact ⟨_, h⟩
theorem DHold.rd {H : Hp} {a : Addr} {o : HO} {fz : Bool} (h : DHold H a o fz) : Rd H a o := by
  cases fz with
  | false => exact .inl h
  | true => obtain ⟨ob, h⟩ := h; exact .inr ⟨ob, h⟩
/-- a dict of the running frames: its keys (simple, or tuples), what it holds -/
def DctC (H : Hp) (a : Addr) (fz : Bool) (ks : List D) (us : List V) : Bool → Prop
  | false => ∃ kvs : List (Key × V), DHold H a (.dK kvs) fz ∧ ks = kvs.map (fun p => keyD p.1) ∧ us = kvs.map (·.2) ∧ (kvs.map (·.1)).Nodup
  | true => ∃ kvs : List (List Key × V), DHold H a (.dT kvs) fz ∧ ks = kvs.map (fun p => .tup (p.1.map keyD)) ∧ us = kvs.map (·.2) ∧ (kvs.map (·.1)).Nodup
theorem DctC.at {H H' : Hp} {a : Addr} {fz t : Bool} {ks : List D} {us : List V} (e : H' a = H a) (h : DctC H a fz ks us t) : DctC H' a fz ks us t := by
  cases t with
  | false => obtain ⟨kvs, h, r⟩ := h; exact ⟨kvs, h.at e, r⟩
  | true => obtain ⟨kvs, h, r⟩ := h; exact ⟨kvs, h.at e, r⟩
theorem DctC.there {H : Hp} {a : Addr} {fz t : Bool} {ks : List D} {us : List V} (h : DctC H a fz ks us t) : ∃ u, H a = some u := by
  cases t with
  | false => obtain ⟨kvs, h, r⟩ := h; exact h.there
  | true => obtain ⟨kvs, h, r⟩ := h; exact h.there
def CellAt (K : PySem.W.Frag) (H : Hp) (a : Addr) : Bool × OC → Prop
  | (false, .lst ds) => ∃ vs, H a = some (.lst vs) ∧ Reps K H vs ds
  | (true, .lst ds) => ∃ vs o, H a = some (.frz o (.lst vs)) ∧ Reps K H vs ds
  | (false, .ins C fn ds) => ∃ dx fs, H a = some (.ins C dx fs) ∧ fs.map (·.1) = fn.take ds.length ∧ ObjCls K C fn ∧ Reps K H (fs.map (·.2)) ds
  | (true, .ins _ _ _) => False
  | (false, .tbl x q) => (∃ c, PySem.W.tabIn K x = some (c, a)) ∧ LamX.TabS H a q
  | (true, .tbl _ _) => False
  | (fz, .dct t ks ds) => ∃ us, DctC H a fz ks us t ∧ Reps K H us ds
theorem CellAt.at {K : PySem.W.Frag} {H H' : Hp} {a : Addr} {c : Bool × OC} (x : Ext H H') (e : H' a = H a) (h : CellAt K H a c) : CellAt K H' a c := by
  obtain ⟨fz, oc⟩ := c
  cases oc with
  | lst xs =>
    cases fz with
    | false => obtain ⟨vs, h1, h2⟩ := h; exact ⟨vs, e.trans h1, h2.mono x⟩
    | true => obtain ⟨vs, o, h1, h2⟩ := h; exact ⟨vs, o, e.trans h1, h2.mono x⟩
  | dct t ks ds => cases fz <;> (obtain ⟨us, h1, h2⟩ := h; exact ⟨us, h1.at e, h2.mono x⟩)
  | ins C fn xs =>
    cases fz with
    | false => obtain ⟨dx, fs, h1, h2, h4, h3⟩ := h; exact ⟨dx, fs, e.trans h1, h2, h4, h3.mono x⟩
    | true => exact h.elim
  | tbl nm q =>
    cases fz with
    | false =>
      obtain ⟨h0, ps, h1, h2, h3⟩ := h
      refine ⟨h0, ps, e.trans h1, h2, fun pos cv hc => ?_⟩
      obtain ⟨c, e1, e2⟩ := h3 pos cv hc
      exact ⟨c, e1, x.kp c _ e2 trivial⟩
    | true => exact h.elim
theorem CellAt.there {K : PySem.W.Frag} {H : Hp} {a : Addr} {c : Bool × OC} (h : CellAt K H a c) : ∃ o, H a = some o := by
  obtain ⟨fz, oc⟩ := c
  cases oc with
  | lst xs =>
    cases fz with
    | false => obtain ⟨vs, h1, h2⟩ := h; exact ⟨_, h1⟩
    | true => obtain ⟨vs, o, h1, h2⟩ := h; exact ⟨_, h1⟩
  | dct t ks ds => cases fz <;> (obtain ⟨us, h1, h2⟩ := h; exact h1.there)
  | ins C fn xs =>
    cases fz with
    | false => obtain ⟨dx, fs, h1, h2, h3⟩ := h; exact ⟨_, h1⟩
    | true => exact h.elim
  | tbl nm q =>
    cases fz with
    | false => obtain ⟨h0, ps, h1, h2, h3⟩ := h; exact ⟨_, h1⟩
    | true => exact h.elim
def MAt (K : PySem.W.Frag) (H : Hp) : Option (Addr × Addr) → Option MS → Prop
  | none, none => True
  | some (a, l), some m => ∃ c, H a = some (.dK [(.inr "cells", .ref c), (.inr "left", .ref l), (.inr "at", .int m.at_)]) ∧
      FzL H c (m.cells.map V.int) ∧ H l = some (.lst (m.left.map V.int)) ∧ m.cells.length ≤ 63 ∧ m.left.length ≤ 63
  | _, _ => False
structure Sto (K : PySem.W.Frag) (w : Wd) (s : SS) (H : Hp) : Prop where
  m : MAt K H w.m s.m
  len : w.ρ.length = s.cs.length
  cs : ∀ (i : Nat) (a : Addr) (c : Bool × OC), w.ρ[i]? = some a → s.cs[i]? = some c → CellAt K H a c
  nd : w.ws.Nodup
/-- from one moment to a later one -/
structure Go (w : Wd) (H : Hp) (w' : Wd) (H' : Hp) : Prop where
  kp : ∀ a o, H a = some o → (a ∉ w.ws ∨ Fz o) → H' a = some o
  gr : ∀ a, a ∈ w'.ws → a ∈ w.ws ∨ H a = none
  pre : ∃ ext, w'.ρ = w.ρ ++ ext
  ms : w.m.isSome = true → w'.m.map (·.1) = w.m.map (·.1)
theorem Go.refl (w : Wd) (H : Hp) : Go w H w H := ⟨fun _ _ e _ => e, fun _ h => .inl h, ⟨[], by simp⟩, fun _ => rfl⟩
theorem Go.ext {w w' : Wd} {H H' : Hp} (g : Go w H w' H') : Ext H H' := ⟨fun a o e f => g.kp a o e (.inr f)⟩
theorem Go.trans {w w1 w2 : Wd} {H H1 H2 : Hp} (a : Go w H w1 H1) (b : Go w1 H1 w2 H2) : Go w H w2 H2 := by
  refine ⟨fun c o e f => b.kp c o (a.kp c o e f) ?_, fun c hc => ?_, ?_, fun h => ?_⟩
  · rcases f with f | f
    · refine .inl fun hc => ?_
      rcases a.gr c hc with z | z
      · exact f z
      · rw [z] at e; cases e
    · exact .inr f
  · rcases b.gr c hc with z | z
    · exact a.gr c z
    · by_cases hw : c ∈ w.ws
      · exact .inl hw
      · refine .inr ?_
        cases q : H c with
        | none => rfl
        | some o => rw [a.kp c o q (.inl hw)] at z; cases z
  · obtain ⟨e1, h1⟩ := a.pre
    obtain ⟨e2, h2⟩ := b.pre
    exact ⟨e1 ++ e2, by rw [h2, h1, List.append_assoc]⟩
  · have h1 := a.ms h
    have h2 : w1.m.isSome = true := by
      cases q : w1.m with
      | none => rw [q] at h1; cases e : w.m with
        | none => rw [e] at h; cases h
        | some z => rw [e] at h1; cases h1
      | some z => rfl
    rw [b.ms h2, h1]
/-- a new object is laid -/
theorem Go.new {w : Wd} {H : Hp} {p : Addr} {o : HO} (h : H p = none) : Go w H w (upd H p o) :=
  ⟨fun a u e _ => by rw [upd_ne (ne_of_none e h)]; exact e, fun _ h => .inl h, ⟨[], by simp⟩, fun _ => rfl⟩

/-- a value at the top: data, or a reference to a cell, or the state of draws -/
def RepT (K : PySem.W.Frag) (w : Wd) (H : Hp) (v : V) : D → Prop
  | .own i => ∃ a, w.ρ[i]? = some a ∧ v = .ref a
  | .drw => ∃ a l, w.m = some (a, l) ∧ v = .ref a
  | d => Rep K H v d
theorem RepT.of {K : PySem.W.Frag} {w : Wd} {H : Hp} {v : V} {d : D} (h : Rep K H v d) : RepT K w H v d := by
  cases d <;> first | exact h | cases h
/-- what a value's meaning leans on -/
structure Gx (w : Wd) (H : Hp) (w' : Wd) (H' : Hp) : Prop where
  ext : Ext H H'
  pre : ∃ ext, w'.ρ = w.ρ ++ ext
  ms : w.m.isSome = true → w'.m.map (·.1) = w.m.map (·.1)
theorem Go.gx {w w' : Wd} {H H' : Hp} (g : Go w H w' H') : Gx w H w' H' := ⟨g.ext, g.pre, g.ms⟩
theorem Gx.trans {w w1 w2 : Wd} {H H1 H2 : Hp} (a : Gx w H w1 H1) (b : Gx w1 H1 w2 H2) : Gx w H w2 H2 := by
  refine ⟨a.ext.trans b.ext, ?_, fun h => ?_⟩
  · obtain ⟨e1, h1⟩ := a.pre
    obtain ⟨e2, h2⟩ := b.pre
    exact ⟨e1 ++ e2, by rw [h2, h1, List.append_assoc]⟩
  · have h1 := a.ms h
    have h2 : w1.m.isSome = true := by
      cases q : w1.m with
      | none => rw [q] at h1; cases e : w.m with
        | none => rw [e] at h; cases h
        | some z => rw [e] at h1; cases h1
      | some z => rfl
    rw [b.ms h2, h1]
theorem RepT.monoX {K : PySem.W.Frag} {w w' : Wd} {H H' : Hp} (g : Gx w H w' H') {v : V} : ∀ {d : D}, RepT K w H v d → RepT K w' H' v d
  | .own i, ⟨a, h, e⟩ => by
    obtain ⟨x, hx⟩ := g.pre
    refine ⟨a, ?_, e⟩
    rw [hx]
    obtain ⟨hi, q⟩ := List.getElem?_eq_some_iff.mp h
    rw [List.getElem?_append_left hi]; exact h
  | .drw, ⟨a, l, h, e⟩ => by
    have q := g.ms (by rw [h]; rfl)
    rw [h] at q
    cases z : w'.m with
    | none => rw [z] at q; cases q
    | some p =>
      obtain ⟨a', l'⟩ := p
      rw [z] at q
      cases q
      exact ⟨a, l', z, e⟩
  | .non, h => Rep.mono g.ext h
  | .bl _, h => Rep.mono g.ext h
  | .int _, h => Rep.mono g.ext h
  | .str _, h => Rep.mono g.ext h
  | .tup _, h => Rep.mono g.ext h
  | .lst _, h => Rep.mono g.ext h
  | .dct _ _, h => Rep.mono g.ext h
  | .obj _ _ _, h => Rep.mono g.ext h
  | .exn _ _ _ _, h => Rep.mono g.ext h

theorem RepT.mono {K : PySem.W.Frag} {w w' : Wd} {H H' : Hp} (g : Go w H w' H') {v : V} {d : D} (h : RepT K w H v d) : RepT K w' H' v d := RepT.monoX g.gx h

structure Rel (K : PySem.W.Frag) (w : Wd) (env : Env') (s : SS) (σ : L2.St) (H : Hp) : Prop where
  len : env.length = σ.length
  sl : ∀ (i : Nat) (d : D), env[i]? = some (some d) → ∃ v, σ[i]? = some (some v) ∧ RepT K w H v d
  st : Sto K w s H
theorem Rel.goX {K : PySem.W.Frag} {w w' : Wd} {env : Env'} {s s' : SS} {σ : L2.St} {H H' : Hp} (r : Rel K w env s σ H) (g : Gx w H w' H') (t : Sto K w' s' H') : Rel K w' env s' σ H' :=
  ⟨r.len, fun i d e => let ⟨v, e1, q⟩ := r.sl i d e; ⟨v, e1, q.monoX g⟩, t⟩
theorem Rel.go {K : PySem.W.Frag} {w w' : Wd} {env : Env'} {s s' : SS} {σ : L2.St} {H H' : Hp} (r : Rel K w env s σ H) (g : Go w H w' H') (t : Sto K w' s' H') : Rel K w' env s' σ H' :=
  ⟨r.len, fun i d e => let ⟨v, e1, q⟩ := r.sl i d e; ⟨v, e1, q.mono g⟩, t⟩

/-- the exceptions' classes: where they stand, their field -/
structure XC where
  cls : Nat → Addr
  fld : Nat → Str

/-- what follows a value -/
def Post (K : PySem.W.Frag) (xc : XC) (W : WX) (σ : L2.St) (w : Wd) (H : Hp) (Q : VK) : R D → Prop
  | .ok d s' => ∀ v H' w', Go w H w' H' → Sto K w' s' H' → RepT K w' H' v d → Q v H'
  | .exc c f s' => ∀ x v H' w', Go w H w' H' → Sto K w' s' H' → H' x = some (.xd [(xc.fld c, v)]) → Rep K H' v f → W (.ref (xc.cls c)) (some x) σ H'
  | .stuck => False
/-- the reading of a term -/
def tE (K : PySem.W.Frag) (xc : XC) (W : WX) (m : Env' → M D) : TE := fun σ H Q => ∃ w env s, Rel K w env s σ H ∧ Post K xc W σ w H Q (m env s)

theorem Post.mono {K : PySem.W.Frag} {xc : XC} {W : WX} {σ : L2.St} {w w1 : Wd} {H H1 : Hp} {Q : VK} (g : Go w H w1 H1) : ∀ {r : R D}, Post K xc W σ w H Q r → Post K xc W σ w1 H1 Q r
  | .ok d s', h => fun v H' w' g' t r => h v H' w' (g.trans g') t r
  | .exc c f s', h => fun x v H' w' g' t e r => h x v H' w' (g.trans g') t e r
  | .stuck, h => h
/-- one after another -/
theorem Post.bind {K : PySem.W.Frag} {xc : XC} {W : WX} {σ : L2.St} {w : Wd} {H : Hp} {Q : VK} {x : M D} {f : D → M D} {s : SS} (h : Post K xc W σ w H Q ((x >>= f) s)) :
    Post K xc W σ w H (fun v H1 => ∃ w1 d s1, Go w H w1 H1 ∧ Sto K w1 s1 H1 ∧ RepT K w1 H1 v d ∧ Post K xc W σ w1 H1 Q (f d s1)) (x s) := by
  have e : (x >>= f) s = M.bnd x f s := rfl
  rw [e] at h
  unfold M.bnd at h
  cases q : x s with
  | ok d s' =>
    rw [q] at h
    intro v H' w' g t r
    exact ⟨w', d, s', g, t, r, h.mono g⟩
  | exc c f' s' => rw [q] at h; exact h
  | stuck => rw [q] at h; exact h
theorem Post.imp {K : PySem.W.Frag} {xc : XC} {W : WX} {σ : L2.St} {w : Wd} {H : Hp} {Q Q' : VK} (hq : ∀ v H', Q v H' → Q' v H') : ∀ {r : R D}, Post K xc W σ w H Q r → Post K xc W σ w H Q' r
  | .ok d s', h => fun v H' w' g' t r => hq _ _ (h v H' w' g' t r)
  | .exc c f s', h => h
  | .stuck, h => h
theorem pimp {X : Cx} {e : Expr} {t t' : TE} (h : PE X e t) (hi : ∀ σ H Q, t' σ H Q → t σ H Q) : PE X e t' :=
  ⟨fun pins s σ H Q I q => h.run pins s σ H Q I (hi σ H Q q)⟩

/-! ### reading: what a cell holds stands for itself -/
/-- data as it is read: a list at the top may still change later -/
def RepR (K : PySem.W.Frag) (H : Hp) (v : V) : D → Prop
  | .lst ds => ∃ a vs, v = .ref a ∧ Rd H a (.lst vs) ∧ Reps K H vs ds
  | .own _ => True
  | .drw => True
  | d => Rep K H v d
theorem Rep.rd {K : PySem.W.Frag} {H : Hp} {v : V} {d : D} (h : Rep K H v d) : RepR K H v d := by
  cases h with
  | lst h r => exact ⟨_, _, rfl, h.rd, r⟩
  | non => exact .non
  | bl b => exact .bl b
  | int i => exact .int i
  | str x => exact .str x
  | tup h r => exact .tup h r
  | dct h r => exact .dct h r
  | obj h l c e r => exact .obj h l c e r
  | exn c h1 h2 k r => exact .exn c h1 h2 k r
theorem RepT.rd {K : PySem.W.Frag} {w : Wd} {s : SS} {H : Hp} {v : V} {d : D} (t : Sto K w s H) (h : RepT K w H v d) : RepR K H v (vw s d) := by
  cases d with
  | own i =>
    obtain ⟨a, ha, rfl⟩ := h
    cases q : s.cs[i]? with
    | none =>
      have e : vw s (.own i) = .own i := by simp only [vw, q]
      rw [e]; trivial
    | some c =>
      obtain ⟨fz, oc⟩ := c
      cases oc with
      | lst xs =>
        have e : vw s (.own i) = .lst xs := by simp only [vw, q]
        rw [e]
        have hc := t.cs i a _ ha q
        cases fz with
        | false => obtain ⟨vs, h1, h2⟩ := hc; exact ⟨a, vs, rfl, .inl h1, h2⟩
        | true => obtain ⟨vs, o, h1, h2⟩ := hc; exact ⟨a, vs, rfl, .inr ⟨o, h1⟩, h2⟩
      | dct _ _ _ =>
        have e : vw s (.own i) = .own i := by simp only [vw, q]
        rw [e]; trivial
      | tbl _ _ =>
        have e : vw s (.own i) = .own i := by simp only [vw, q]
        rw [e]; trivial
      | ins _ _ _ =>
        have e : vw s (.own i) = .own i := by simp only [vw, q]
        rw [e]; trivial
  | drw => trivial
  | non => exact Rep.rd h
  | bl _ => exact Rep.rd h
  | int _ => exact Rep.rd h
  | str _ => exact Rep.rd h
  | tup _ => exact Rep.rd h
  | lst _ => exact Rep.rd h
  | dct _ _ => exact Rep.rd h
  | obj _ _ _ => exact Rep.rd h
  | exn _ _ _ _ => exact Rep.rd h

/-! ### what only lays new objects -/
theorem sgo {w : Wd} {H H' : Hp} (e : Same H H') : Go w H w H' :=
  ⟨fun a o h _ => e a o h, fun _ h => .inl h, ⟨[], by simp⟩, fun _ => rfl⟩
theorem sext {H H' : Hp} (e : Same H H') : Ext H H' := ⟨fun a o h _ => e a o h⟩
theorem snew {H : Hp} {p : Addr} {o : HO} (h : H p = none) : Same H (upd H p o) :=
  fun a u e => by rw [upd_ne (ne_of_none e h)]; exact e
theorem CellAt.same {K : PySem.W.Frag} {H H' : Hp} {a : Addr} {c : Bool × OC} (e : Same H H') (h : CellAt K H a c) : CellAt K H' a c := by
  obtain ⟨o, ho⟩ := h.there
  exact h.at (sext e) (by rw [ho]; exact e _ _ ho)
theorem MAt.same {K : PySem.W.Frag} {H H' : Hp} {a : Option (Addr × Addr)} {m : Option MS} (e : Same H H') (h : MAt K H a m) : MAt K H' a m := by
  cases a with
  | none => cases m <;> exact h
  | some p =>
    cases m with
    | none => exact h
    | some m =>
      obtain ⟨a, l⟩ := p
      obtain ⟨c, h1, h2, h3, h4⟩ := h
      exact ⟨c, e _ _ h1, h2.mono (sext e), e _ _ h3, h4⟩
theorem Sto.same {K : PySem.W.Frag} {w : Wd} {s : SS} {H H' : Hp} (e : Same H H') (t : Sto K w s H) : Sto K w s H' :=
  ⟨t.m.same e, t.len, fun i a c h1 h2 => (t.cs i a c h1 h2).same e, t.nd⟩

/-! ### freezing -/
def FrQ (Q : VK) : VK := fun v H => ∃ a xs, v = .ref a ∧ H a = some (.lst xs) ∧ ∀ o, Q v (upd H a (.frz o (.lst xs)))
theorem efrz {X : Cx} {pins : List (Addr × Obj)} {σ : L2.St} {Q : VK} {u : Value} {s : Shared} (h : EP X pins σ (FrQ Q) u s) : EP X pins σ Q u s := by
  obtain ⟨v, H, I, r, a, xs, e, hH, q⟩ := h
  obtain ⟨o, I'⟩ := I.lock hH trivial
  exact ⟨v, _, I', r, q o⟩
theorem pfrz {X : Cx} {e : Expr} {t : TE} (h : PE X e t) : PE X e (fun σ H Q => t σ H (FrQ Q)) :=
  ⟨fun pins s σ H Q I q => thn (h.run pins s σ H _ I q) fun _ _ z => efrz z⟩
/-- a new list, frozen at once -/
theorem fr_new {K : PySem.W.Frag} {H : Hp} {p : Addr} {vs : List V} {ds : List D} {Q : VK} (hp : H p = none) (r : Reps K H vs ds)
    (q : ∀ v H', Same H H' → Rep K H' v (.lst ds) → Q v H') : FrQ Q (.ref p) (upd H p (.lst vs)) := by
  refine ⟨p, vs, rfl, upd_same, fun o => ?_⟩
  rw [upd_upd]
  have e : Same H (upd H p (.frz o (.lst vs))) := snew hp
  exact q _ _ e (.lst ⟨o, upd_same⟩ (r.mono (sext e)))
theorem tup_new {K : PySem.W.Frag} {H : Hp} {p : Addr} {vs : List V} {ds : List D} {Q : VK} (hp : H p = none) (r : Reps K H vs ds)
    (q : ∀ v H', Same H H' → Rep K H' v (.tup ds) → Q v H') : Q (.ref p) (upd H p (.tup vs)) := by
  have e : Same H (upd H p (.tup vs)) := snew hp
  exact q _ _ e (.tup upd_same (r.mono (sext e)))

/-! ### Reps -/
theorem Reps.length {K : PySem.W.Frag} {H : Hp} : ∀ {vs : List V} {ds : List D}, Reps K H vs ds → vs.length = ds.length
  | _, _, .nil => rfl
  | _, _, .cons _ r => by simp [Reps.length r]
theorem Reps.append {K : PySem.W.Frag} {H : Hp} : ∀ {vs ws : List V} {ds es : List D}, Reps K H vs ds → Reps K H ws es → Reps K H (vs ++ ws) (ds ++ es)
  | _, _, _, _, .nil, s => s
  | _, _, _, _, .cons h r, s => .cons h (Reps.append r s)
theorem Reps.get {K : PySem.W.Frag} {H : Hp} : ∀ {vs : List V} {ds : List D} {i : Nat} {d : D}, Reps K H vs ds → ds[i]? = some d → ∃ v, vs[i]? = some v ∧ Rep K H v d
  | _, _, _, _, .nil, e => by simp at e
  | _, _, 0, _, .cons h _, e => by simp at e; subst e; exact ⟨_, rfl, h⟩
  | _, _, i + 1, d, .cons _ r, e => by
    obtain ⟨v, h1, h2⟩ := Reps.get (i := i) (d := d) r (by simpa using e)
    exact ⟨v, by simpa using h1, h2⟩
theorem Reps.take {K : PySem.W.Frag} {H : Hp} : ∀ {vs : List V} {ds : List D} (n : Nat), Reps K H vs ds → Reps K H (vs.take n) (ds.take n)
  | _, _, 0, _ => by simpa using .nil
  | _, _, _ + 1, .nil => .nil
  | _, _, n + 1, .cons h r => .cons h (Reps.take n r)
theorem Reps.drop {K : PySem.W.Frag} {H : Hp} : ∀ {vs : List V} {ds : List D} (n : Nat), Reps K H vs ds → Reps K H (vs.drop n) (ds.drop n)
  | _, _, 0, r => r
  | _, _, _ + 1, .nil => .nil
  | _, _, n + 1, .cons _ r => Reps.drop n r
theorem Reps.reverse {K : PySem.W.Frag} {H : Hp} : ∀ {vs : List V} {ds : List D}, Reps K H vs ds → Reps K H vs.reverse ds.reverse
  | _, _, .nil => .nil
  | _, _, .cons h r => by rw [List.reverse_cons, List.reverse_cons]; exact Reps.append (Reps.reverse r) (.cons h .nil)
theorem Reps.rep {K : PySem.W.Frag} {H : Hp} {vs : List V} {ds : List D} (r : Reps K H vs ds) : ∀ n : Nat, Reps K H (List.replicate n vs).flatten (List.replicate n ds).flatten
  | 0 => .nil
  | n + 1 => by rw [List.replicate_succ, List.replicate_succ, List.flatten_cons, List.flatten_cons]; exact r.append (r.rep n)
theorem Reps.nil_iff {K : PySem.W.Frag} {H : Hp} {vs : List V} {ds : List D} (r : Reps K H vs ds) : vs = [] ↔ ds = [] := by
  cases r <;> simp
end PI

set_option maxHeartbeats 1000000
/-! PI, part c: operators. -/
namespace PI
open PySem L2
/-- a two-place operation on values does what f does on data -/
def OpP (X : Cx) (g : Value → Value → Sem Value) (f : D → D → Option D) : Prop :=
  OpR X g fun x y H Q => ∃ dx dy d, RepR X.K H x dx ∧ RepR X.K H y dy ∧ f dx dy = some d ∧ ∀ v H', Same H H' → Rep X.K H' v d → Q v H'

section
variable {X : Cx}
theorem lim_line {n : Nat} (h : n ≤ LIM) : n ≤ sizeLine := Nat.le_trans h (by decide)
theorem small_ok {i : Int} (h : small i = true) : -(2 ^ 64) < i ∧ i < 2 ^ 64 := by
  unfold small at h
  rw [Bool.and_eq_true, decide_eq_true_eq, decide_eq_true_eq] at h
  exact h
theorem natAbs_small {i : Int} (h : small i = true) : i.natAbs < 2 ^ 64 := by
  have := small_ok h
  omega
/-- an open list, by its object -/
theorem rd_list {pins : List (Addr × Obj)} {σ : L2.St} {H : Hp} {s : Shared} {a : Addr} {vs : List V} (I : Inv X pins σ H s) (h : Rd H a (.lst vs)) :
    vs.length ≤ sizeLine ∧ ∃ (its : List Value) (n : Nat), Vals vs its ∧ s.heap.get? a = some { cls := .type "list", data := .seq its.toArray n } := h.ok I.hok

theorem add_ok : OpP X (binaryOp .Add) addD := by
  intro pins s σ H x y v u Q I rx ry h
  obtain ⟨dx, dy, d, hx, hy, e, q⟩ := h
  unfold addD at e
  split at e
  · rename_i i j
    cases hx; cases hy; cases e
    exact op_add pins s σ H _ _ v u Q I rx ry ⟨i, j, rfl, rfl, q _ _ (Same.refl H) (.int _)⟩
  · rename_i a b
    cases hx; cases hy; cases e
    cases rx; cases ry
    exact PyProof.Rows.add_bool ⟨.int _, H, I.tok _, ⟨_, rfl⟩, q _ _ (Same.refl H) (.int _)⟩
  · rename_i i b
    cases hx; cases hy; cases e
    exact op_add_ib pins s σ H _ _ v u Q I rx ry ⟨i, b, rfl, rfl, q _ _ (Same.refl H) (.int _)⟩
  · rename_i a b
    split at e
    · rename_i hl
      cases hx; cases hy; cases e
      exact op_add_str pins s σ H _ _ v u Q I rx ry ⟨a, b, rfl, rfl, lim_line hl, q _ _ (Same.refl H) (.str _)⟩
    · cases e
  · rename_i xs ys
    split at e
    · rename_i hl
      cases hx with
      | tup h1 r1 =>
      cases hy with
      | tup h2 r2 =>
      cases e
      refine op_catA pins s σ H _ _ v u Q I rx ry ⟨_, _, _, _, rfl, rfl, h1.sq, h2.sq, ?_, fun z => ?_, fun _ z => ?_, fun _ _ p hp => ?_⟩
      · rw [r1.length, r2.length]; exact lim_line hl
      · have z' := r1.nil_iff.mp z
        subst z'
        exact q _ _ (Same.refl H) (.tup h2 r2)
      · have z' := r2.nil_iff.mp z
        subst z'
        rw [List.append_nil] at q
        exact q _ _ (Same.refl H) (.tup h1 r1)
      · exact tup_new hp (r1.append r2) q
    · cases e
  · rename_i xs ys
    split at e
    · rename_i hl
      obtain ⟨a, vs, rfl, h1, r1⟩ := hx
      obtain ⟨b, ws, rfl, h2, r2⟩ := hy
      cases e
      cases rx; cases ry
      obtain ⟨z1, its, n, i1, e1⟩ := rd_list I h1
      obtain ⟨z2, its2, n2, i2, e2⟩ := rd_list I h2
      have l1 := i1.length
      have l2 := i2.length
      have l3 := r1.length
      have l4 := r2.length
      have lm := lim_line hl
      refine PySem.P.add_list e1 e2 ?_ (by rw [List.size_toArray, List.size_toArray]; omega)
      have ea : its.toArray ++ its2.toArray = (its ++ its2).toArray := by simp
      rw [ea]
      refine efrz ⟨.ref _, _, I.lnew (t' := s.toks) (i1.append i2) (by rw [List.length_append]; omega), rfl, fr_new I.fresh (r1.append r2) q⟩
    · cases e
  · cases e
theorem sub_ok : OpP X (binaryOp .Sub) subD := by
  intro pins s σ H x y v u Q I rx ry h
  obtain ⟨dx, dy, d, hx, hy, e, q⟩ := h
  unfold subD at e
  split at e
  · rename_i i j
    cases hx; cases hy; cases e
    exact op_sub pins s σ H _ _ v u Q I rx ry ⟨i, j, rfl, rfl, q _ _ (Same.refl H) (.int _)⟩
  · cases e
theorem fdiv_ok : OpP X (binaryOp .FloorDiv) fdivD := by
  intro pins s σ H x y v u Q I rx ry h
  obtain ⟨dx, dy, d, hx, hy, e, q⟩ := h
  unfold fdivD at e
  split at e
  · rename_i i j
    split at e
    · rename_i hc
      rw [Bool.and_eq_true, decide_eq_true_eq, decide_eq_true_eq] at hc
      cases hx; cases hy; cases e
      exact op_fdiv pins s σ H _ _ v u Q I rx ry ⟨i, j, rfl, rfl, hc, q _ _ (Same.refl H) (.int _)⟩
    · cases e
  · cases e
theorem mod_ok : OpP X (binaryOp .Mod) modD := by
  intro pins s σ H x y v u Q I rx ry h
  obtain ⟨dx, dy, d, hx, hy, e, q⟩ := h
  unfold modD at e
  split at e
  · rename_i i j
    split at e
    · rename_i hc
      cases hx; cases hy; cases e
      exact op_mod pins s σ H _ _ v u Q I rx ry ⟨i, j, rfl, rfl, hc, q _ _ (Same.refl H) (.int _)⟩
    · cases e
  · cases e
theorem pow_ok : OpP X (binaryOp .Pow) powD := by
  intro pins s σ H x y v u Q I rx ry h
  obtain ⟨dx, dy, d, hx, hy, e, q⟩ := h
  unfold powD at e
  split at e
  · rename_i i j
    split at e
    · rename_i hc
      rw [Bool.and_eq_true, Bool.and_eq_true, decide_eq_true_eq, decide_eq_true_eq] at hc
      cases hx; cases hy; cases e
      exact op_pow pins s σ H _ _ v u Q I rx ry ⟨i, j, rfl, rfl, ⟨hc.1.1, by omega, natAbs_small hc.2⟩, q _ _ (Same.refl H) (.int _)⟩
    · cases e
  · cases e
theorem foldl_app (x : Array Nat) : ∀ (n : Nat) (acc : Array Nat), (List.replicate n x).foldl (· ++ ·) acc = acc ++ (List.replicate n x.toList).flatten.toArray
  | 0, acc => by simp
  | n + 1, acc => by
    rw [List.replicate_succ, List.foldl_cons, foldl_app x n, List.replicate_succ, List.flatten_cons]
    apply Array.ext'
    simp
theorem repS_eq (x : Str) (n : Nat) : (⟨(List.replicate n x.cps).foldl (· ++ ·) #[]⟩ : Str) = repS x n := by
  unfold repS
  rw [foldl_app]
  simp
theorem repS_len (x : Str) (n : Nat) : (repS x n).length = n * x.length := by
  unfold repS Str.length
  simp
open AutoSeq1 (wpAny_loadPart') in
theorem tup_mul0 (l : Addr) (n : Nat) (dd : Option Addr) (sl : Array (Option Value)) (x : Int) (u : Tok) (c0 : (decide (x < -(2 ^ 63)) || decide (x ≥ 2 ^ 63)) = false) :
    Meets (Builtin.«tuple.__mul__» ⟨[.ref l, .int x u], []⟩) (fun _ R s => s.heap.get? l = some { cls := .type "tuple", dict := dd, data := .seq #[] n, slots := sl } ∧ R (.ok (.ret (Value.ref l))) s) :=
  .of_wp fun prog w A R s h => by
    obtain ⟨hp, g, d, tk, os⟩ := s
    obtain ⟨hl, h⟩ := h
    have f1 := AutoSeq1.idx_int
    wp_walk using wpAny_loadPart' hl
    refine wpAny_ite_false (decide_eq_false (by rw [c0]; exact Bool.false_ne_true)) ?_
    wp_walk using wpAny_loadPart' hl
    exact ⟨_, rfl, h⟩
/-- () * k -/
theorem rep0_ok {pins : List (Addr × Obj)} {s : Shared} {σ : L2.St} {H : Hp} {a : Addr} {k : Int} {v u : Value} {Q : VK} (I : Inv X pins σ H s) (hT : SqT X.K H a []) (rx : RelV (.ref a) v) (ry : RelV (.int k) u) (h1 : 0 ≤ k) (h2 : k ≤ 1000) (q : Q (.ref a) H) :
    wpAny (model X.prog X.w) X.A (binaryOp .Mult v u) (EP X pins σ Q) X.xe s := by
  cases rx
  obtain ⟨t, rfl⟩ := ry
  obtain ⟨its, r, ⟨⟨cls, dd, data, sl⟩, ho, hc, n, hd⟩, hs⟩ := I.tuple hT
  cases r
  simp only at hc hd
  subst hc hd
  refine wpAny_binaryOp_repeat_ref (T := "tuple") (U := "int") (by decide) ⟨_, ho, rfl⟩ (typeIs_int · k t) noFill_tuple_mul PySem.F.fills_int_mul PySem.F.slot_int_rmul repeat_tuple PySem.F.slot_int_index.lookup (call_meets PySem.F.slot_int_rmul (typeIs_int s k t) PySem.F.entry_int_rmul (PySem.F.args_int_rmul_2 _ _) (int_rmul_tuple k t a #[] n dd sl) ⟨ho, rfl, ⟨_, ho, rfl⟩, ?_⟩)
  exact call_meets PySem.F.slot_tuple_mul ⟨_, ho, rfl⟩ PySem.F.entry_tuple_mul (PySem.F.args_tuple_mul_2 _ _) (tup_mul0 a n dd sl k t (by rw [decide_eq_false (by omega), decide_eq_false (by omega)]; rfl)) ⟨ho, .ref a, H, I, rfl, q⟩
theorem mul_ok : OpP X (binaryOp .Mult) mulD := by
  intro pins s σ H x y v u Q I rx ry h
  obtain ⟨dx, dy, d, hx, hy, e, q⟩ := h
  unfold mulD at e
  split at e
  · rename_i i j
    split at e
    · rename_i hc
      cases hx; cases hy; cases e
      refine op_mul pins s σ H _ _ v u Q I rx ry ⟨i, j, rfl, rfl, ?_, q _ _ (Same.refl H) (.int _)⟩
      rw [Bool.or_eq_true] at hc
      exact hc.imp small_ok small_ok
    · cases e
  · rename_i z k
    split at e
    · rename_i hc
      rw [Bool.and_eq_true, Bool.and_eq_true, decide_eq_true_eq, decide_eq_true_eq, decide_eq_true_eq] at hc
      obtain ⟨⟨h2, h3⟩, h4⟩ := hc
      cases hx; cases hy; cases e
      obtain ⟨t, rfl⟩ := rx
      obtain ⟨t', rfl⟩ := ry
      have hk1 : ¬ k < 1 := by omega
      have hprod : z.length * k.toNat ≤ 1000 * 1000 := Nat.mul_le_mul h4 (by omega)
      refine PySem.P.mul_str ?_ (fun _ hz => ?_) (fun _ _ => ?_) ?_
      · rw [decide_eq_false (by omega), decide_eq_false (by omega)]; rfl
      · have hdiv : (1000 : Int) ≤ (2 ^ 63 - 1) / k := by
          apply (Int.le_ediv_iff_mul_le (by omega)).mpr
          omega
        omega
      · have hline : (1000 * 1000 : Nat) ≤ sizeLine := by decide
        have hle : z.length * k.toNat ≤ sizeLine := Nat.le_trans hprod hline
        exact decide_eq_false (Nat.not_lt.mpr hle)
      · rw [if_neg hk1]
        by_cases hz : (k == 1 || z.length == 0) = true
        · rw [if_pos hz]
          have hz0 : z.length = 0 := by
            rw [Bool.or_eq_true, beq_iff_eq, beq_iff_eq] at hz
            omega
          have : repS z k.toNat = z := by
            have hc0 : z.cps = #[] := Array.eq_empty_of_size_eq_zero hz0
            cases z with
            | mk c => simp only at hc0; subst hc0; simp [repS]
          rw [this] at q
          exact ⟨.str z, H, I, ⟨_, rfl⟩, q _ _ (Same.refl H) (.str _)⟩
        · rw [if_neg hz, repS_eq]
          refine ⟨?_, .str _, H, I.tok _, ⟨_, rfl⟩, q _ _ (Same.refl H) (.str _)⟩
          have hl := repS_len z k.toNat
          have hline : (1000 * 1000 : Nat) ≤ sizeLine := by decide
          have : (repS z k.toNat).length ≤ sizeLine := by rw [hl, Nat.mul_comm]; omega
          exact this
    · cases e
  · rename_i xs k
    split at e
    · rename_i hc
      simp only [Bool.and_eq_true, decide_eq_true_eq] at hc
      obtain ⟨⟨h2, h3⟩, h4⟩ := hc
      cases hx with
      | tup h1 r1 =>
      cases hy; cases e
      by_cases h5 : xs = []
      · subst h5
        cases r1
        refine rep0_ok I h1.sq rx ry (by omega) (by omega) ?_
        have z : (List.replicate k.toNat ([] : List D)).flatten = [] := by simp
        rw [z] at q
        exact q _ _ (Same.refl H) (.tup h1 .nil)
      refine op_repT pins s σ H _ _ v u Q I rx ry ⟨_, k, _, rfl, rfl, h1.sq, fun z => ?_, h2, h3, by rw [r1.length]; exact h4, fun p hp => tup_new hp (r1.rep _) q⟩
      exact h5 (r1.nil_iff.mp z)
    · cases e
  · rename_i xs k
    split at e
    · rename_i hc
      simp only [Bool.and_eq_true, decide_eq_true_eq] at hc
      obtain ⟨⟨h2, h3⟩, h4⟩ := hc
      obtain ⟨a, vs, rfl, h1, r1⟩ := hx
      cases hy; cases e
      cases rx
      obtain ⟨t, rfl⟩ := ry
      obtain ⟨z1, its, n, i1, e1⟩ := rd_list I h1
      have l1 := i1.length
      have l3 := r1.length
      have hprod : its.length * k.toNat ≤ 1000 * 1000 := Nat.mul_le_mul (by omega) (by omega)
      have hline : (1000 * 1000 : Nat) ≤ sizeLine := by decide
      have hsz : its.toArray.size * k.toNat ≤ sizeLine := by rw [List.size_toArray]; omega
      have hcap : ¬ its.toArray.size * k.toNat > (2 ^ 63 - 1) / 8 := by
        have : (sizeLine : Nat) ≤ (2 ^ 63 - 1) / 8 := by decide
        omega
      have hfit : ¬ (!Builtin.List.listFitsIndex k) = true := by
        rw [fitsIndex_both (by omega) (by omega)]
        exact Bool.false_ne_true
      have hlong : ¬ Builtin.List.listTooLong (its.toArray.size * k.toNat) = true := by
        rw [notLongL hsz]; exact Bool.false_ne_true
      have hnew : List.foldl (fun x1 x2 => x1 ++ x2) #[] (List.replicate (if its.toArray.isEmpty = true then 0 else k.toNat) its.toArray) =
          (List.replicate k.toNat its).flatten.toArray := by
        have f0 : ∀ m : Nat, List.foldl (fun x1 x2 => x1 ++ x2) #[] (List.replicate m its.toArray) = (List.replicate m its).flatten.toArray := fun m => by
          have q := foldl_rep its m []
          rw [List.nil_append] at q; exact q
        rw [f0]
        cases its with
        | nil => simp
        | cons a r' => rw [if_neg (by simp)]
      refine wpAny_binaryOp_repeat_ref (T := "list") (U := "int") (by decide) ⟨_, e1, rfl⟩ (fun s' => typeIs_int s' k t)
        noFill_list_mul F.fills_int_mul F.slot_int_rmul repeat_list F.slot_int_index.lookup
        (call_meets F.slot_int_rmul (typeIs_int s k t) F.entry_int_rmul (F.args_int_rmul_2 _ _)
          (int___rmul___int_list k t a its.toArray n) ⟨e1, rfl, ⟨_, e1, rfl⟩,
            call_meets F.slot_list_mul ⟨_, e1, rfl⟩ F.entry_list_mul (F.args_list_mul_2 _ _)
              (AutoListH.list___mul___list_int_3 a its.toArray n k t hfit hcap hlong) ⟨e1, ?_⟩⟩)
      rw [hnew]
      have hfl : (List.replicate k.toNat vs).flatten.length ≤ sizeLine := by
        rw [PyProof.Rows.lm_len_rep_flat, Nat.mul_comm, l1]; omega
      exact efrz ⟨.ref _, _, I.lnew (t' := s.toks) (i1.rep k.toNat) hfl, rfl, fr_new I.fresh (r1.rep _) q⟩
    · cases e
  · cases e
end
end PI

set_option maxHeartbeats 1000000
/-! PI, part o: dicts read. -/
namespace PI
open PySem L2
theorem keyOf_D : ∀ k : Key, keyOf (keyD k) = some k
  | .inl _ => rfl
  | .inr _ => rfl
theorem keyD_of : ∀ {d : D} {k : Key}, keyOf d = some k → d = keyD k
  | .int i, _, e => by cases e; rfl
  | .str x, _, e => by cases e; rfl
  | .non, _, e => by cases e
  | .bl _, _, e => by cases e
  | .tup _, _, e => by cases e
  | .lst _, _, e => by cases e
  | .dct _ _, _, e => by cases e
  | .obj _ _ _, _, e => by cases e
  | .exn _ _ _ _, _, e => by cases e
  | .own _, _, e => by cases e
  | .drw, _, e => by cases e
theorem keysD_of : ∀ {ds : List D} {ks : List Key}, keysOf ds = some ks → ds = ks.map keyD
  | [], _, e => by cases e; rfl
  | d :: ds, ks, e => by
    unfold keysOf at e
    cases h1 : keyOf d with
    | none => rw [h1] at e; cases e
    | some k =>
      cases h2 : keysOf ds with
      | none => rw [h1, h2] at e; cases e
      | some r =>
        rw [h1, h2] at e
        cases e
        rw [List.map_cons, keyD_of h1, ← keysD_of h2]
theorem eq_keyD (a b : Key) : eqB (keyD a) (keyD b) = decide (a = b) := by
  cases a with
  | inl i =>
    cases b with
    | inl j => show (i == j) = _; rw [Bool.eq_iff_iff]; simp
    | inr y => show false = _; simp
  | inr x =>
    cases b with
    | inl j => show false = _; simp
    | inr y => show (x == y) = _; rw [Bool.eq_iff_iff]; simp
theorem eq_keysD : ∀ a b : List Key, eqBs (a.map keyD) (b.map keyD) = decide (a = b)
  | [], [] => rfl
  | [], _ :: _ => rfl
  | _ :: _, [] => rfl
  | x :: xs, y :: ys => by
    show (eqB (keyD x) (keyD y) && eqBs (xs.map keyD) (ys.map keyD)) = _
    rw [eq_keyD, eq_keysD xs ys, Bool.eq_iff_iff]
    simp
/-- a simple key's value -/
theorem rep_key {K : PySem.W.Frag} {H : Hp} {v : V} {d : D} {k : Key} (r : RepR K H v d) (e : keyOf d = some k) : v = kV k := by
  cases d with
  | int i => cases e; cases r; rfl
  | str x => cases e; cases r; rfl
  | _ => cases e
theorem reps_keys {K : PySem.W.Frag} {H : Hp} : ∀ {vs : List V} {ds : List D} {ks : List Key}, Reps K H vs ds → keysOf ds = some ks → vs = ks.map kV
  | _, [], _, .nil, e => by cases e; rfl
  | _, d :: ds, ks, .cons h r, e => by
    unfold keysOf at e
    cases h1 : keyOf d with
    | none => rw [h1] at e; cases e
    | some k =>
      cases h2 : keysOf ds with
      | none => rw [h1, h2] at e; cases e
      | some q =>
        rw [h1, h2] at e
        cases e
        rw [List.map_cons, rep_key h.rd h1, reps_keys r h2]
theorem rep_tkey {K : PySem.W.Frag} {H : Hp} {v : V} {ds : List D} {ks : List Key} (r : RepR K H v (.tup ds)) (e : keysOf ds = some ks) : ∃ b, v = .ref b ∧ H b = some (.tup (ks.map kV)) := by
  cases r with
  | tup h rs =>
    rw [reps_keys rs e] at h
    exact ⟨_, rfl, h⟩
/-! ### what a dict holds, two ways -/
theorem val_k {K : PySem.W.Frag} {H : Hp} (k : Key) : ∀ {kvs : List (Key × V)} {vs : List D}, Reps K H (kvs.map (·.2)) vs →
    (match valD (kvs.map fun p => keyD p.1) vs (keyD k) with | some d => ∃ v, valV kvs k = some v ∧ Rep K H v d | none => valV kvs k = none)
  | [], _, .nil => rfl
  | (k', v) :: kvs, d :: vs, .cons h r => by
    have ih := val_k k r
    show (match (if eqB (keyD k') (keyD k) then some d else valD (kvs.map fun p => keyD p.1) vs (keyD k)) with | some d => _ | none => _)
    rw [eq_keyD]
    by_cases e : k' = k
    · rw [decide_eq_true e, if_pos rfl]
      exact ⟨v, valV_pos e, h⟩
    · rw [decide_eq_false e, if_neg (by decide), valV_neg e]
      exact ih
theorem val_t {K : PySem.W.Frag} {H : Hp} (k : List Key) : ∀ {kvs : List (List Key × V)} {vs : List D}, Reps K H (kvs.map (·.2)) vs →
    (match valD (kvs.map fun p => .tup (p.1.map keyD)) vs (.tup (k.map keyD)) with | some d => ∃ v, valV kvs k = some v ∧ Rep K H v d | none => valV kvs k = none)
  | [], _, .nil => rfl
  | (k', v) :: kvs, d :: vs, .cons h r => by
    have ih := val_t k r
    show (match (if eqBs (k'.map keyD) (k.map keyD) then some d else valD (kvs.map fun p => .tup (p.1.map keyD)) vs (.tup (k.map keyD))) with | some d => _ | none => _)
    rw [eq_keysD]
    by_cases e : k' = k
    · rw [decide_eq_true e, if_pos rfl]
      exact ⟨v, valV_pos e, h⟩
    · rw [decide_eq_false e, if_neg (by decide), valV_neg e]
      exact ih
theorem keyB_D (k : Key) : keyB (keyD k) = true := by unfold keyB; rw [keyOf_D]; rfl
theorem keyB_tup (ds : List D) : keyB (.tup ds) = false := rfl
theorem tkey_D (k : Key) : tkeyB (keyD k) = false := by cases k <;> rfl
theorem dct_get {K : PySem.W.Frag} {H : Hp} {a : Addr} {ks vs : List D} {us : List V} {y : V} {x : D} (h : DctAt H a ks us) (r : Reps K H us vs) (ry : RepR K H y x) (hk : sameKind ks x = true) :
    ∃ o, DGet H a y o ∧ (match valD ks vs x with | some d => ∃ v, o = some v ∧ Rep K H v d | none => o = none) := by
  rcases h with ⟨o, kvs, e, rfl, rfl⟩ | ⟨o, kvs, e, hne, rfl, rfl⟩
  · have kx : keyB x = true := by
      unfold sameKind at hk
      cases kvs with
      | nil => exact hk
      | cons p kvs =>
        change ((keyB (keyD p.1) && keyB x) || (tkeyB (keyD p.1) && tkeyB x)) = true at hk
        rw [tkey_D] at hk
        simp only [Bool.false_and, Bool.or_false, Bool.and_eq_true] at hk
        exact hk.2
    unfold keyB at kx
    obtain ⟨k, ek⟩ := Option.isSome_iff_exists.mp kx
    have ex := keyD_of ek
    have ey := rep_key ry ek
    subst ex ey
    refine ⟨valV kvs k, .inl ⟨kvs, k, .inr ⟨o, e⟩, rfl, rfl⟩, ?_⟩
    exact val_k k r
  · have kx : tkeyB x = true := by
      unfold sameKind at hk
      cases kvs with
      | nil => exact absurd rfl hne
      | cons p kvs =>
        change ((keyB (.tup (p.1.map keyD)) && keyB x) || (tkeyB (.tup (p.1.map keyD)) && tkeyB x)) = true at hk
        rw [keyB_tup] at hk
        simp only [Bool.false_and, Bool.false_or, Bool.and_eq_true] at hk
        exact hk.2
    cases x with
    | tup ds =>
      obtain ⟨k, ek⟩ := Option.isSome_iff_exists.mp (show (keysOf ds).isSome = true from kx)
      obtain ⟨b, ey, hb⟩ := rep_tkey ry ek
      have ex := keysD_of ek
      subst ex ey
      exact ⟨valV kvs k, .inr ⟨kvs, k, b, .inr ⟨o, e⟩, rfl, hb, rfl⟩, val_t k r⟩
    | _ => cases kx
section
variable {X : Cx}
theorem ix_dict (hu : X.A.units + 1 < cLine) : IxR X fun x y H Q => ∃ dx dy d, RepR X.K H x dx ∧ RepR X.K H y dy ∧ dgetD dx dy = some d ∧ ∀ v H', Same H H' → Rep X.K H' v d → Q v H' := by
  intro value slice pins s σ H x y v u Q I rx ry h hs
  obtain ⟨dx, dy, d, hx, hy, e, q⟩ := h
  unfold dgetD at e
  split at e
  · split at e
    · rename_i hk
      cases hx with
      | dct h r =>
      obtain ⟨o, g, z⟩ := dct_get h r hy hk
      rw [e] at z
      obtain ⟨w', rfl, rw'⟩ := z
      cases rx
      exact PyProof.Rows.tail_any (dict_typeIs I g) PySem.F.slot_dict_getitem.lookup (d_getItem hu I g ry fun w2 s3 I3 rw2 => ⟨w', H, I3, rw2, q _ _ (Same.refl H) rw'⟩) hs
    · cases e
  · cases e
/-- in an empty dict nothing is -/
theorem empty_in {pins : List (Addr × Obj)} {s : Shared} {σ : L2.St} {H : Hp} {a b : Addr} {o : Obj} {k : List Key} {A : Around} {E : Value → Shared → Prop} {Q : Value → Shared → Prop} (hu : A.units + 1 < cLine) (I : Inv X pins σ H s) (e : H a = some (.frz o (.dK []))) (eb : H b = some (.tup (k.map kV)))
    (h : ∀ s', Inv X pins σ H s' → Q (.bool false) s') : wpAny (model X.prog X.w) A (compareOp .In (.ref b) (.ref a)) Q E s := by
  obtain ⟨z, hd, vs, rel, o1, es, ep, h1, h2, h3, h4, h5, h6⟩ := dk_rd I.hok (.inr ⟨o, e⟩)
  cases rel
  generalize hes : es.toList = l at h5
  cases h5
  have dd : s.heap.DictOfH (tupleKind (mixKind X.prog X.w)) a ([] : List (List Key × Addr × Value)) := ⟨o1, es, ep, h1, h2, h3, by rw [hes]; rfl, (fun x hx => nomatch hx), List.nodup_nil⟩
  exact wpAny_in_heap (tupleKind_room_in1 hu) (key_of I.hok eb) hd dd (h _ (I.tok _))
theorem empty_notIn {pins : List (Addr × Obj)} {s : Shared} {σ : L2.St} {H : Hp} {a b : Addr} {o : Obj} {k : List Key} {A : Around} {E : Value → Shared → Prop} {Q : Value → Shared → Prop} (hu : A.units + 1 < cLine) (I : Inv X pins σ H s) (e : H a = some (.frz o (.dK []))) (eb : H b = some (.tup (k.map kV)))
    (h : ∀ s', Inv X pins σ H s' → Q (.bool true) s') : wpAny (model X.prog X.w) A (compareOp .NotIn (.ref b) (.ref a)) Q E s := by
  obtain ⟨z, hd, vs, rel, o1, es, ep, h1, h2, h3, h4, h5, h6⟩ := dk_rd I.hok (.inr ⟨o, e⟩)
  cases rel
  generalize hes : es.toList = l at h5
  cases h5
  have dd : s.heap.DictOfH (tupleKind (mixKind X.prog X.w)) a ([] : List (List Key × Addr × Value)) := ⟨o1, es, ep, h1, h2, h3, by rw [hes]; rfl, (fun x hx => nomatch hx), List.nodup_nil⟩
  exact PyProof.Rows.wpAny_notIn_heap (tupleKind_room_in1 hu) (key_of I.hok eb) hd dd (h _ (I.tok _))
theorem val_has : ∀ {ks vs : List D} {x : D}, ks.length = vs.length → (valD ks vs x).isSome = hasD ks x
  | [], [], _, _ => rfl
  | [], _ :: _, _, h => by cases h
  | _ :: _, [], _, h => by cases h
  | k :: ks, v :: vs, x, h => by
    unfold valD hasD
    rw [List.any_cons]
    cases eqB k x with
    | true => rfl
    | false => exact val_has (by simpa using h)
theorem din_ok (hu : X.A.units + 65 < cLine) : OpP X (compareOp .In) dinD := by
  intro pins s σ H x y v u Q I rx ry h
  obtain ⟨dx, dy, d, hx, hy, e, q⟩ := h
  unfold dinD at e
  split at e
  · rename_i ks vs
    split at e
    · rename_i hc
      rw [Bool.and_eq_true] at hc
      cases e
      cases hy with
      | dct h r =>
      obtain ⟨o, g, z⟩ := dct_get h r hx hc.1
      cases ry
      refine d_in (by omega) I g rx fun s' I' => ⟨.bl _, H, I', ?_, q _ _ (Same.refl H) (.bl _)⟩
      rw [← val_has (of_decide_eq_true hc.2)]
      cases hv : valD ks vs dx with
      | none => rw [hv] at z; rw [z]; rfl
      | some d => rw [hv] at z; obtain ⟨w', z, _⟩ := z; rw [z]; rfl
    · split at e
      · rename_i hc
        simp only [Bool.and_eq_true, List.isEmpty_iff] at hc
        obtain ⟨⟨rfl, rfl⟩, hk⟩ := hc
        cases e
        cases hy with
        | dct h r =>
        obtain ⟨o, h, _⟩ := h.nil
        cases ry
        cases dx with
        | tup ds =>
          obtain ⟨k, ek⟩ := Option.isSome_iff_exists.mp (show (keysOf ds).isSome = true from hk)
          obtain ⟨b, ey, hb⟩ := rep_tkey hx ek
          subst ey
          cases rx
          exact empty_in (by omega) I h hb fun s' I' => ⟨.bl false, H, I', rfl, q _ _ (Same.refl H) (.bl _)⟩
        | _ => cases hk
      · cases e
  · cases e
theorem dnin_ok (hu : X.A.units + 65 < cLine) : OpP X (compareOp .NotIn) fun x y => (dinD x y).bind notD := by
  intro pins s σ H x y v u Q I rx ry h
  obtain ⟨dx, dy, d, hx, hy, e, q⟩ := h
  dsimp only at e
  unfold dinD at e
  split at e
  · rename_i ks vs
    split at e
    · rename_i hc
      rw [Bool.and_eq_true] at hc
      cases e
      cases hy with
      | dct h r =>
      obtain ⟨o, g, z⟩ := dct_get h r hx hc.1
      cases ry
      refine d_notIn (by omega) I g rx fun s' I' => ⟨.bl _, H, I', ?_, q _ _ (Same.refl H) (.bl _)⟩
      rw [← val_has (of_decide_eq_true hc.2)]
      cases hv : valD ks vs dx with
      | none => rw [hv] at z; rw [z]; rfl
      | some d => rw [hv] at z; obtain ⟨w', z, _⟩ := z; rw [z]; rfl
    · split at e
      · rename_i hc
        simp only [Bool.and_eq_true, List.isEmpty_iff] at hc
        obtain ⟨⟨rfl, rfl⟩, hk⟩ := hc
        cases e
        cases hy with
        | dct h r =>
        obtain ⟨o, h, _⟩ := h.nil
        cases ry
        cases dx with
        | tup ds =>
          obtain ⟨k, ek⟩ := Option.isSome_iff_exists.mp (show (keysOf ds).isSome = true from hk)
          obtain ⟨b, ey, hb⟩ := rep_tkey hx ek
          subst ey
          cases rx
          exact empty_notIn (by omega) I h hb fun s' I' => ⟨.bl true, H, I', rfl, q _ _ (Same.refl H) (.bl _)⟩
        | _ => cases hk
      · cases e
  · cases e
end
end PI

set_option maxHeartbeats 1000000
/-! PI, part e0: an empty dict is none of the tuples and texts of a list. -/
namespace PI
open PySem L2 PySem.SeqAt PySem.MeetsSeq PySem.MeetsSeq2 PySem.MeetsSeq3 PySem.SeqRoads2
open PySem.AutoSeq1 (wpAny_loadPart')
theorem tuple_no_dict (l b : Addr) (items : Array Value) (n n2 : Nat) (es : Array DictEntry) (dd dd2 : Option Addr) (sl sl2 : Array (Option Value)) :
    Meets (Builtin.«tuple.__eq__» ⟨[.ref l, .ref b], []⟩) (fun _ R s => s.heap.get? l = some { cls := .type "tuple", dict := dd, data := .seq items n, slots := sl } ∧ s.heap.get? b = some { cls := .type "dict", dict := dd2, data := .dict es n2, slots := sl2 } ∧ R (.ok (.ret .notImplemented)) s) :=
  .of_wp fun prog w A R s h => by obtain ⟨hp, g, d, tk, os⟩ := s; obtain ⟨hl, hb, h⟩ := h; have f1 := F.sub_dict_tuple; wp_walk using wpAny_loadPart' hl, wpAny_loadPart' hb; exact ⟨_, rfl, h⟩
theorem dict_no_tuple (l b : Addr) (items : Array Value) (n n2 : Nat) (es : Array DictEntry) (dd dd2 : Option Addr) (sl sl2 : Array (Option Value)) :
    Meets (Builtin.«dict.__eq__» ⟨[.ref l, .ref b], []⟩) (fun _ R s => s.heap.get? l = some { cls := .type "dict", dict := dd2, data := .dict es n2, slots := sl2 } ∧ s.heap.get? b = some { cls := .type "tuple", dict := dd, data := .seq items n, slots := sl } ∧ R (.ok (.ret .notImplemented)) s) :=
  .of_wp fun prog w A R s h => by obtain ⟨hp, g, d, tk, os⟩ := s; obtain ⟨hl, hb, h⟩ := h; have f1 := F.sub_tuple_dict; wp_walk using wpAny_loadPart' hl, wpAny_loadPart' hb; exact ⟨_, rfl, h⟩
theorem str_no_dict (b : Str) (u : Tok) (l : Addr) (n2 : Nat) (es : Array DictEntry) (dd2 : Option Addr) (sl2 : Array (Option Value)) :
    Meets (Builtin.«str.__eq__» ⟨[.str b u, .ref l], []⟩) (fun _ R s => s.heap.get? l = some { cls := .type "dict", dict := dd2, data := .dict es n2, slots := sl2 } ∧ R (.ok (.ret .notImplemented)) s) :=
  .of_wp fun prog w A R s h => by obtain ⟨hp, g, d, tk, os⟩ := s; obtain ⟨hl, h⟩ := h; have f1 := F.sub_dict_str; wp_walk using wpAny_loadPart' hl; exact ⟨_, rfl, h⟩
theorem dict_no_str (b : Str) (u : Tok) (l : Addr) (n2 : Nat) (es : Array DictEntry) (dd2 : Option Addr) (sl2 : Array (Option Value)) :
    Meets (Builtin.«dict.__eq__» ⟨[.ref l, .str b u], []⟩) (fun _ R s => s.heap.get? l = some { cls := .type "dict", dict := dd2, data := .dict es n2, slots := sl2 } ∧ R (.ok (.ret .notImplemented)) s) :=
  .of_wp fun prog w A R s h => by obtain ⟨hp, g, d, tk, os⟩ := s; obtain ⟨hl, h⟩ := h; have f1 := F.sub_str_dict; wp_walk using wpAny_loadPart' hl; exact ⟨_, rfl, h⟩
section
variable {A : Around} {s : Shared}
/-- a dict's object -/
def IsDct (s : Shared) (a : Addr) : Prop := ∃ od es n, s.heap.get? a = some od ∧ od.cls = .type "dict" ∧ od.data = .dict es n
theorem tuple_ne_dict {l b : Addr} {items : Array Value} (hl : s.heap.IsTuple l items) (hb : IsDct s b) : l ≠ b := fun e => by
  subst e
  obtain ⟨o, ho, hc, _⟩ := hl
  obtain ⟨o2, _, _, ho2, hc2, _⟩ := hb
  rw [ho] at ho2
  cases ho2
  rw [hc] at hc2
  exact absurd hc2 (by simp)
theorem eq_tuple_dict {l b : Addr} {items : Array Value} (hl : s.heap.IsTuple l items) (hb : IsDct s b) (hu : A.units < cLine) : EqAt A s (.ref l) (.ref b) false := by
  have hne := tuple_ne_dict hl hb
  refine .of_refs hne fun prog w E Q h => ?_
  obtain ⟨⟨cls, dd, data, sl⟩, ho, hc, n, hd⟩ := id hl
  obtain ⟨⟨cls2, dd2, data2, sl2⟩, es, n2, ho2, hc2, hd2⟩ := id hb
  simp only at hc hd hc2 hd2
  subst hc hd hc2 hd2
  exact rc_eq_decline_or (k := false) ⟨_, ho, rfl⟩ ⟨_, ho2, rfl⟩ (by decide) F.sub_dict_tuple F.slot_tuple_eq F.slot_dict_eq_refl
    (fun _ hq => call_meets F.slot_tuple_eq ⟨_, ho, rfl⟩ F.entry_tuple_eq (F.args_tuple_eq_2 _ _) (tuple_no_dict l b items n n2 es dd dd2 sl sl2) ⟨ho, ho2, hq⟩)
    (fun _ hq => call_meets F.slot_dict_eq_refl ⟨_, ho2, rfl⟩ F.entry_dict_eq (F.args_dict_eq_2 _ _) (dict_no_tuple b l items n n2 es dd dd2 sl sl2) ⟨ho2, ho, hq⟩)
    (fun _ hq => wpAny_isSame_ref_other' hne ho ho2 (by simp) hq) (.inr hu) h
theorem eq_str_dict (x : Str) (u : Tok) {b : Addr} (hb : IsDct s b) (hu : A.units < cLine) : EqAt A s (.str x u) (.ref b) false := fun prog w E Q h => by
  obtain ⟨⟨cls2, dd2, data2, sl2⟩, es, n2, ho2, hc2, hd2⟩ := id hb
  simp only at hc2 hd2
  subst hc2 hd2
  unfold eqBool
  refine wpAny_holding ?_
  refine wpAny_ite_split (fun hab => absurd (eq_of_beq hab) nofun) (fun _ => wpAny_bind ?_)
  exact rc_eq_decline_or (k := false) (typeIs_str s x u) ⟨_, ho2, rfl⟩ (by decide) F.sub_dict_str F.slot_str_eq F.slot_dict_eq_refl
    (fun _ hq => call_meets F.slot_str_eq (typeIs_str s x u) F.entry_str_eq (F.args_str_eq_2 _ _) (str_no_dict x u b n2 es dd2 sl2) ⟨ho2, hq⟩)
    (fun _ hq => call_meets F.slot_dict_eq_refl ⟨_, ho2, rfl⟩ F.entry_dict_eq (F.args_dict_eq_2 _ _) (dict_no_str x u b n2 es dd2 sl2) ⟨ho2, hq⟩)
    (fun _ hq => wpAny_of_eq (rfl : isSame (.str x u) (.ref b) = pure false) hq) (.inr hu) (wpAny_truthy_bool h)
end
section
variable {X : Cx} {pins : List (Addr × Obj)} {σ : L2.St} {H : Hp} {s : Shared}
theorem isDct_of (I : Inv X pins σ H s) {a : Addr} {o : Obj} (h : H a = some (.frz o (.dK []))) : IsDct s a := by
  obtain ⟨_, h2⟩ := I.hok a _ h
  obtain ⟨_, _, vs, kv, od, es, ep, e1, e2, e3, _⟩ := h2
  exact ⟨od, es, ep, e1, e2.1, e3⟩
theorem eq_items (I : Inv X pins σ H s) {A : Around} {b : Addr} (hb : IsDct s b) (hu : A.units < cLine) : ∀ {vs : List V} {ds : List D} {us : List Value}, Reps X.K H vs ds → ds.all tupStr = true → Vals vs us → ∀ y ∈ us, EqAt A s y (.ref b) false
  | _, _, _, .nil, _, r, y, hy => by cases r; cases hy
  | _, _, _, .cons h rs, p, .cons r1 r2, y, hy => by
    rw [List.all_cons, Bool.and_eq_true] at p
    rcases List.mem_cons.mp hy with rfl | hy
    · cases h with
      | str x => obtain ⟨t, rfl⟩ := r1; exact eq_str_dict x t hb hu
      | tup h rr =>
        cases r1
        obtain ⟨its, rv, it, _⟩ := I.tuple h.sq
        exact eq_tuple_dict it hb hu
      | _ => exact absurd p.1 (by simp [tupStr])
    · exact eq_items I hb hu rs p.2 r2 y hy
end
end PI

set_option maxHeartbeats 1000000
/-! PI, part d: comparisons. -/
namespace PI
open PySem L2 PySem.SeqAt
mutual
def toPy : D → PyData
  | .non => .none
  | .bl b => .bool b
  | .int i => .int i
  | .str x => .str x
  | .tup xs => .tuple (toPys xs)
  | .lst xs => .list (toPys xs)
  | _ => .none
def toPys : List D → List PyData
  | [] => []
  | x :: xs => toPy x :: toPys xs
end
section
variable {X : Cx} {pins : List (Addr × Obj)} {σ : L2.St} {H : Hp} {s : Shared}
mutual
theorem Rep.reads (I : Inv X pins σ H s) : ∀ {v : V} {d : D} {u : Value}, Rep X.K H v d → plain d = true → RelV v u → ∃ as, Reads s.heap u (toPy d) as
  | _, _, _, .non, _, r => by cases r; exact ⟨_, by unfold toPy; exact .none⟩
  | _, _, _, .bl b, _, r => by cases r; exact ⟨_, by unfold toPy; exact .bool b⟩
  | _, _, _, .int i, _, r => by obtain ⟨t, rfl⟩ := r; exact ⟨_, by unfold toPy; exact .int i t⟩
  | _, _, _, .str x, _, r => by obtain ⟨t, rfl⟩ := r; exact ⟨_, by unfold toPy; exact .str x t⟩
  | _, _, _, .tup h rs, p, r => by
    cases r
    obtain ⟨its, rv, ⟨o, ho, hc, n, hd⟩, _⟩ := I.tuple h.sq
    obtain ⟨as, hr⟩ := Reps.reads I rs (by unfold plain at p; exact p) rv
    exact ⟨_, by unfold toPy; exact .tuple ho hc hd hr⟩
  | _, _, _, .lst h rs, p, r => by
    cases r
    obtain ⟨z, its, n, rv, e⟩ := rd_list I h.rd
    obtain ⟨as, hr⟩ := Reps.reads I rs (by unfold plain at p; exact p) rv
    exact ⟨_, by unfold toPy; exact .list e rfl rfl hr⟩
  | _, _, _, .dct _ _, p, _ => by unfold plain at p; cases p
theorem Reps.reads (I : Inv X pins σ H s) : ∀ {vs : List V} {ds : List D} {us : List Value}, Reps X.K H vs ds → plains ds = true → Vals vs us → ∃ as, ReadsAll s.heap us (toPys ds) as
  | _, _, _, .nil, _, r => by cases r; exact ⟨_, by unfold toPys; exact .nil⟩
  | _, _, _, .cons h rs, p, r => by
    unfold plains at p
    rw [Bool.and_eq_true] at p
    cases r with
    | cons r1 r2 =>
      obtain ⟨as, q1⟩ := Rep.reads I h p.1 r1
      obtain ⟨bs, q2⟩ := Reps.reads I rs p.2 r2
      exact ⟨_, by unfold toPys; exact .cons q1 q2⟩
end
theorem RepR.reads (I : Inv X pins σ H s) {v : V} {d : D} {u : Value} (h : RepR X.K H v d) (p : plain d = true) (r : RelV v u) : ∃ as, Reads s.heap u (toPy d) as := by
  cases d with
  | lst ds =>
    obtain ⟨a, vs, rfl, hl, rs⟩ := h
    cases r
    obtain ⟨z, its, n, rv, e⟩ := rd_list I hl
    obtain ⟨as, hr⟩ := Reps.reads I rs (by unfold plain at p; exact p) rv
    exact ⟨_, by unfold toPy; exact .list e rfl rfl hr⟩
  | own _ => unfold plain at p; cases p
  | drw => unfold plain at p; cases p
  | non => exact Rep.reads I h p r
  | bl _ => exact Rep.reads I h p r
  | int _ => exact Rep.reads I h p r
  | str _ => exact Rep.reads I h p r
  | tup _ => exact Rep.reads I h p r
  | dct _ _ => exact Rep.reads I h p r
  | obj _ _ _ => exact Rep.reads I h p r
  | exn _ _ _ _ => exact Rep.reads I h p r
end
mutual
theorem lay_of : ∀ {d : D}, plain d = true → (toPy d).canLay0 = true
  | .non, _ => by simp [toPy, PyData.canLay0]
  | .bl _, _ => by simp [toPy, PyData.canLay0]
  | .int _, _ => by simp [toPy, PyData.canLay0]
  | .str x, h => by simp only [toPy, PyData.canLay0]; unfold plain at h; exact h
  | .tup xs, h => by simp only [toPy, PyData.canLay0]; unfold plain at h; exact lays_of h
  | .lst xs, h => by simp only [toPy, PyData.canLay0]; unfold plain at h; exact lays_of h
  | .dct _ _, h => by unfold plain at h; cases h
  | .obj _ _ _, h => by unfold plain at h; cases h
  | .exn _ _ _ _, h => by unfold plain at h; cases h
  | .own _, h => by unfold plain at h; cases h
  | .drw, h => by unfold plain at h; cases h
theorem lays_of : ∀ {ds : List D}, plains ds = true → PyData.canLayAll0 (toPys ds) = true
  | [], _ => by simp [toPys, PyData.canLayAll0]
  | x :: xs, h => by
    unfold plains at h
    rw [Bool.and_eq_true] at h
    simp only [toPys, PyData.canLayAll0, Bool.and_eq_true]
    exact ⟨lay_of h.1, lays_of h.2⟩
end
mutual
theorem dep_py : ∀ d : D, (toPy d).depth = dep d
  | .non => by simp [toPy, PyData.depth, dep]
  | .bl _ => by simp [toPy, PyData.depth, dep]
  | .int _ => by simp [toPy, PyData.depth, dep]
  | .str _ => by simp [toPy, PyData.depth, dep]
  | .tup xs => by simp only [toPy, PyData.depth, dep]; rw [deps_py xs]
  | .lst xs => by simp only [toPy, PyData.depth, dep]; rw [deps_py xs]
  | .dct _ _ => by simp [toPy, PyData.depth, dep]
  | .obj _ _ _ => by simp [toPy, PyData.depth, dep]
  | .exn _ _ _ _ => by simp [toPy, PyData.depth, dep]
  | .own _ => by simp [toPy, PyData.depth, dep]
  | .drw => by simp [toPy, PyData.depth, dep]
theorem deps_py : ∀ ds : List D, PyData.depthAll (toPys ds) = deps ds
  | [] => by simp [toPys, PyData.depthAll, deps]
  | x :: xs => by simp only [toPys, PyData.depthAll, deps]; rw [dep_py x, deps_py xs]
end
mutual
theorem eqv_py : ∀ (x y : D), plain x = true → plain y = true → PyData.eqv (toPy x) (toPy y) = eqB x y
  | .tup xs, y, hx, hy => by
    unfold plain at hx
    cases y with
    | tup ys => unfold plain at hy; simp only [toPy, PyData.eqv, eqB]; exact eqvs_py xs ys hx hy
    | lst ys => simp [toPy, PyData.eqv, eqB]
    | dct _ _ => unfold plain at hy; cases hy
    | obj _ _ _ => unfold plain at hy; cases hy
    | exn _ _ _ _ => unfold plain at hy; cases hy
    | own _ => unfold plain at hy; cases hy
    | drw => unfold plain at hy; cases hy
    | _ => simp [toPy, PyData.eqv, eqB]
  | .lst xs, y, hx, hy => by
    unfold plain at hx
    cases y with
    | lst ys => unfold plain at hy; simp only [toPy, PyData.eqv, eqB]; exact eqvs_py xs ys hx hy
    | tup ys => simp [toPy, PyData.eqv, eqB]
    | dct _ _ => unfold plain at hy; cases hy
    | obj _ _ _ => unfold plain at hy; cases hy
    | exn _ _ _ _ => unfold plain at hy; cases hy
    | own _ => unfold plain at hy; cases hy
    | drw => unfold plain at hy; cases hy
    | _ => simp [toPy, PyData.eqv, eqB]
  | .non, y, _, hy => by
    cases y <;> first | (unfold plain at hy; cases hy; done) | simp [toPy, PyData.eqv, eqB]
  | .bl _, y, _, hy => by
    cases y <;> first | (unfold plain at hy; cases hy; done) | simp [toPy, PyData.eqv, eqB]
  | .int _, y, _, hy => by
    cases y <;> first | (unfold plain at hy; cases hy; done) | simp [toPy, PyData.eqv, eqB]
  | .str _, y, _, hy => by
    cases y <;> first | (unfold plain at hy; cases hy; done) | simp [toPy, PyData.eqv, eqB]
  | .dct _ _, _, hx, _ => by unfold plain at hx; cases hx
  | .obj _ _ _, _, hx, _ => by unfold plain at hx; cases hx
  | .exn _ _ _ _, _, hx, _ => by unfold plain at hx; cases hx
  | .own _, _, hx, _ => by unfold plain at hx; cases hx
  | .drw, _, hx, _ => by unfold plain at hx; cases hx
theorem eqvs_py : ∀ (xs ys : List D), plains xs = true → plains ys = true → PyData.eqvAll (toPys xs) (toPys ys) = eqBs xs ys
  | [], [], _, _ => by simp [toPys, PyData.eqvAll, eqBs]
  | [], _ :: _, _, _ => by simp [toPys, PyData.eqvAll, eqBs]
  | _ :: _, [], _, _ => by simp [toPys, PyData.eqvAll, eqBs]
  | x :: xs, y :: ys, hx, hy => by
    unfold plains at hx hy
    rw [Bool.and_eq_true] at hx hy
    simp only [toPys, PyData.eqvAll, eqBs]
    rw [eqv_py x y hx.1 hy.1, eqvs_py xs ys hx.2 hy.2]
end
theorem any_py (x : D) (hx : plain x = true) : ∀ (xs : List D), plains xs = true → (toPys xs).any (fun z => PyData.eqv z (toPy x)) = inB x xs
  | [], _ => by simp [toPys, inB]
  | y :: ys, h => by
    unfold plains at h
    rw [Bool.and_eq_true] at h
    simp only [toPys, List.any_cons, inB]
    rw [eqv_py y x h.1 hx, any_py x hx ys h.2]
    rfl
section
variable {X : Cx}
theorem eqOk_parts {x y : D} (h : eqOk x y = true) : plain x = true ∧ plain y = true ∧ min (dep x) (dep y) ≤ 60 := by
  unfold eqOk at h
  simp only [Bool.and_eq_true, decide_eq_true_eq] at h
  exact ⟨h.1.1, h.1.2, h.2⟩
theorem tup_len_eq {pins : List (Addr × Obj)} {s : Shared} {σ : L2.St} {H : Hp} {x y : V} {v u : Value} {xs ys : List D} {Q : VK} (hu : X.A.units + 65 < cLine) (I : Inv X pins σ H s) (hx : Rep X.K H x (.tup xs)) (hy : Rep X.K H y (.tup ys)) (rx : RelV x v) (ry : RelV y u) (h : (xs = [] ∧ ys ≠ []) ∨ (xs ≠ [] ∧ ys = [])) (q : Q (.bl false) H) :
    wpAny (model X.prog X.w) X.A (compareOp .Eq v u) (EP X pins σ Q) X.xe s := by
  cases hx with
  | tup f1 r1 =>
  cases hy with
  | tup f2 r2 =>
  cases rx
  cases ry
  obtain ⟨i1, v1, t1, _⟩ := I.tuple f1.sq
  obtain ⟨i2, v2, t2, _⟩ := I.tuple f2.sq
  have l1 : i1.length = xs.length := by rw [← v1.length, r1.length]
  have l2 : i2.length = ys.length := by rw [← v2.length, r2.length]
  have hz : min i1.length i2.length = 0 ∧ i1.length ≠ i2.length := by
    rcases h with ⟨e1, e2⟩ | ⟨e1, e2⟩
    · subst e1
      have : ys.length ≠ 0 := fun z => e2 (List.eq_nil_of_length_eq_zero z)
      rw [List.length_nil] at l1
      omega
    · subst e2
      have : xs.length ≠ 0 := fun z => e1 (List.eq_nil_of_length_eq_zero z)
      rw [List.length_nil] at l2
      omega
  refine SeqAt.eq_tupleAt (e := fun _ => true) t1 t2 (by omega) (fun j j1 j2 => ?_) ⟨.bl false, H, I, ?_, q⟩
  · simp at j1 j2
    omega
  · show Value.bool _ = _
    congr 1
    simp only [List.size_toArray]
    rw [show (i1.length == i2.length) = false from beq_eq_false_iff_ne.mpr hz.2, Bool.and_false]
theorem lst_nil {pins : List (Addr × Obj)} {s : Shared} {σ : L2.St} {H : Hp} {x y : V} {v u : Value} {z : D} {xs : List D} (I : Inv X pins σ H s) (hx : RepR X.K H x (.lst (z :: xs))) (hy : RepR X.K H y (.lst [])) (rx : RelV x v) (ry : RelV y u) :
    ∃ l b items items2, v = .ref l ∧ u = .ref b ∧ s.heap.IsList l items ∧ s.heap.IsList b items2 ∧ (items.size != items2.size) = true := by
  obtain ⟨a1, v1, rfl, h1, r1⟩ := hx
  obtain ⟨a2, v2, rfl, h2, r2⟩ := hy
  cases rx
  cases ry
  obtain ⟨i1, w1, p1, _⟩ := I.list (.inl h1)
  obtain ⟨i2, w2, p2, _⟩ := I.list (.inl h2)
  refine ⟨a1, a2, _, _, rfl, rfl, p1.isList, p2.isList, ?_⟩
  have l1 : i1.length = xs.length + 1 := by rw [← w1.length, r1.length]; rfl
  have l2 : i2.length = 0 := by rw [← w2.length, r2.length]; rfl
  simp only [List.size_toArray]
  rw [l1, l2]
  rfl
theorem eq_ok (hu : X.A.units + 65 < cLine) : OpP X (compareOp .Eq) eqD := by
  intro pins s σ H x y v u Q I rx ry h
  obtain ⟨dx, dy, d, hx, hy, e, q⟩ := h
  unfold eqD at e
  split at e
  · cases e
    exact tup_len_eq hu I hx hy rx ry (.inr ⟨by simp, rfl⟩) (q _ _ (Same.refl H) (.bl _))
  · cases e
    exact tup_len_eq hu I hx hy rx ry (.inl ⟨rfl, by simp⟩) (q _ _ (Same.refl H) (.bl _))
  · cases e
    obtain ⟨l, b, i1, i2, rfl, rfl, h1, h2, h3⟩ := lst_nil I hx hy rx ry
    exact (SeqAt.RcAt.lists_lengths h1 h2 h3 (by omega)) _ _ _ _ ⟨.bl false, H, I, rfl, q _ _ (Same.refl H) (.bl _)⟩
  split at e
  · rename_i hc
    obtain ⟨p1, p2, hd⟩ := eqOk_parts hc
    cases e
    obtain ⟨as, r1⟩ := hx.reads I p1 rx
    obtain ⟨bs, r2⟩ := hy.reads I p2 ry
    refine SeqAt.compareEq_reads r1 r2 (lay_of p1) (lay_of p2) (by rw [dep_py, dep_py]; omega) ⟨.bl _, H, I, rfl, ?_⟩
    rw [eqv_py dx dy p1 p2]
    exact q _ _ (Same.refl H) (.bl _)
  · cases e
theorem ne_ok (hu : X.A.units + 65 < cLine) : OpP X (compareOp .NotEq) neD := by
  intro pins s σ H x y v u Q I rx ry h
  obtain ⟨dx, dy, d, hx, hy, e, q⟩ := h
  unfold neD at e
  split at e
  · cases e
    obtain ⟨l, b, i1, i2, rfl, rfl, h1, h2, h3⟩ := lst_nil I hx hy rx ry
    exact (SeqAt.RcNeAt.lists_lengths h1 h2 h3 (by omega)) _ _ _ _ ⟨.bl true, H, I, rfl, q _ _ (Same.refl H) (.bl _)⟩
  split at e
  · rename_i hc
    obtain ⟨p1, p2, hd⟩ := eqOk_parts hc
    cases e
    obtain ⟨as, r1⟩ := hx.reads I p1 rx
    obtain ⟨bs, r2⟩ := hy.reads I p2 ry
    refine SeqAt.compareNe_reads r1 r2 (lay_of p1) (lay_of p2) (by rw [dep_py, dep_py]; omega) ⟨.bl _, H, I, rfl, ?_⟩
    rw [eqv_py dx dy p1 p2]
    exact q _ _ (Same.refl H) (.bl _)
  · cases e
theorem lt_ok : OpP X (compareOp .Lt) ltD := by
  intro pins s σ H x y v u Q I rx ry h
  obtain ⟨dx, dy, d, hx, hy, e, q⟩ := h
  unfold ltD at e
  split at e
  · rename_i i j
    cases hx; cases hy; cases e
    exact op_lt pins s σ H _ _ v u Q I rx ry ⟨i, j, rfl, rfl, q _ _ (Same.refl H) (.bl _)⟩
  · rename_i a b
    cases hx; cases hy; cases e
    exact op_lt_str pins s σ H _ _ v u Q I rx ry ⟨a, b, rfl, rfl, q _ _ (Same.refl H) (.bl _)⟩
  · cases e
theorem le_ok : OpP X (compareOp .LtE) leD := by
  intro pins s σ H x y v u Q I rx ry h
  obtain ⟨dx, dy, d, hx, hy, e, q⟩ := h
  unfold leD at e
  split at e
  · rename_i i j
    cases hx; cases hy; cases e
    exact op_le pins s σ H _ _ v u Q I rx ry ⟨i, j, rfl, rfl, q _ _ (Same.refl H) (.bl _)⟩
  · rename_i a b
    cases hx; cases hy; cases e
    exact op_le_str pins s σ H _ _ v u Q I rx ry ⟨a, b, rfl, rfl, q _ _ (Same.refl H) (.bl _)⟩
  · cases e
theorem gt_ok : OpP X (compareOp .Gt) gtD := by
  intro pins s σ H x y v u Q I rx ry h
  obtain ⟨dx, dy, d, hx, hy, e, q⟩ := h
  unfold gtD ltD at e
  split at e
  · rename_i i j
    cases hx; cases hy; cases e
    exact op_gt pins s σ H _ _ v u Q I rx ry ⟨_, _, rfl, rfl, q _ _ (Same.refl H) (.bl _)⟩
  · rename_i a b
    cases hx; cases hy; cases e
    exact op_gt_str pins s σ H _ _ v u Q I rx ry ⟨_, _, rfl, rfl, q _ _ (Same.refl H) (.bl _)⟩
  · cases e
theorem ge_ok : OpP X (compareOp .GtE) geD := by
  intro pins s σ H x y v u Q I rx ry h
  obtain ⟨dx, dy, d, hx, hy, e, q⟩ := h
  unfold geD leD at e
  split at e
  · rename_i i j
    cases hx; cases hy; cases e
    exact op_ge pins s σ H _ _ v u Q I rx ry ⟨_, _, rfl, rfl, q _ _ (Same.refl H) (.bl _)⟩
  · rename_i a b
    cases hx; cases hy; cases e
    exact op_ge_str pins s σ H _ _ v u Q I rx ry ⟨_, _, rfl, rfl, q _ _ (Same.refl H) (.bl _)⟩
  · cases e
theorem in_ok (hu : X.A.units + 65 < cLine) : OpP X (compareOp .In) inD := by
  intro pins s σ H x y v u Q I rx ry h
  obtain ⟨dx, dy, d, hx, hy, e, q⟩ := h
  unfold inD at e
  split at e
  · rename_i xs
    split at e
    · rename_i hc
      simp only [Bool.and_eq_true, decide_eq_true_eq] at hc
      obtain ⟨⟨p1, p2⟩, hd⟩ := hc
      cases e
      obtain ⟨as, r1⟩ := hx.reads I p1 rx
      obtain ⟨bs, r2⟩ := hy.reads I (by unfold plain; exact p2) ry
      unfold toPy at r2
      refine SeqAt.in_tuple_reads r2 r1 (lays_of p2) (lay_of p1) (by rw [dep_py, deps_py]; omega) ⟨.bl _, H, I, rfl, ?_⟩
      rw [any_py dx p1 xs p2]
      exact q _ _ (Same.refl H) (.bl _)
    · cases e
  · rename_i xs
    split at e
    · rename_i hc
      simp only [Bool.and_eq_true, decide_eq_true_eq] at hc
      obtain ⟨⟨p1, p2⟩, hd⟩ := hc
      cases e
      obtain ⟨as, r1⟩ := hx.reads I p1 rx
      obtain ⟨bs, r2⟩ := hy.reads I (by unfold plain; exact p2) ry
      unfold toPy at r2
      refine SeqAt.in_list_reads r2 r1 (lays_of p2) (lay_of p1) (by rw [dep_py, deps_py]; omega) ⟨.bl _, H, I, rfl, ?_⟩
      rw [any_py dx p1 xs p2]
      exact q _ _ (Same.refl H) (.bl _)
    · split at e
      · rename_i hc
        rw [Bool.and_eq_true] at hc
        cases e
        obtain ⟨hc1, hc2⟩ := hc
        unfold emptyDct at hc1
        split at hc1
        · cases hx with
          | dct hd _ =>
            obtain ⟨o, hH, _⟩ := hd.nil
            obtain ⟨a, vs, rfl, hl, rs⟩ := hy
            cases rx
            cases ry
            obtain ⟨z, its, n, rv, e⟩ := rd_list I hl
            have he := eq_items (A := X.A.in1) I (isDct_of I hH) (show X.A.units + 1 < cLine by omega) rs hc2 rv
            refine in_listAt (fun _ => false) ⟨_, e, rfl, n, rfl⟩ (fun y hy => he y (by simpa using hy)) ⟨.bl _, H, I, rfl, ?_⟩
            have e0 : its.toArray.any (fun _ => false) = false := by simp
            rw [e0]
            exact q _ _ (Same.refl H) (.bl _)
        · cases hc1
      · cases e
  · rename_i a b
    split at e
    · rename_i hc
      cases hx; cases hy; cases e
      obtain ⟨c, rfl⟩ : ∃ c, a = ⟨#[c]⟩ := by
        obtain ⟨l⟩ := a
        match l, hc with
        | ⟨[c]⟩, _ => exact ⟨c, rfl⟩
      refine op_in_sign pins s σ H _ _ v u Q I rx ry ⟨c, b, rfl, rfl, ?_⟩
      have e2 : decide (c ∈ b.cps.toList) = b.cps.toList.contains ((#[c] : Array Nat).getD 0 0) := by
        rw [List.contains_eq_mem]; rfl
      rw [e2]
      exact q _ _ (Same.refl H) (.bl _)
    · cases e
  · exact din_ok hu pins s σ H x y v u Q I rx ry ⟨_, _, d, hx, hy, e, q⟩
  · cases e
theorem notD_some {x d : D} (h : notD x = some d) : ∃ b, x = .bl b ∧ d = .bl (!b) := by
  cases x <;> simp [notD] at h
  exact ⟨_, rfl, h.symm⟩
theorem notin_ok (hu : X.A.units + 65 < cLine) : OpP X (compareOp .NotIn) (fun x y => (inD x y).bind notD) := by
  intro pins s σ H x y v u Q I rx ry h
  obtain ⟨dx, dy, d, hx, hy, e0, q⟩ := h
  obtain ⟨d0, e, en⟩ := Option.bind_eq_some_iff.mp e0
  clear e0
  obtain ⟨k, rfl, rfl⟩ := notD_some en
  unfold inD at e
  split at e
  · rename_i xs
    split at e
    · rename_i hc
      simp only [Bool.and_eq_true, decide_eq_true_eq] at hc
      obtain ⟨⟨p1, p2⟩, hd⟩ := hc
      cases e
      obtain ⟨as, r1⟩ := hx.reads I p1 rx
      obtain ⟨bs, r2⟩ := hy.reads I (by unfold plain; exact p2) ry
      unfold toPy at r2
      refine SeqAt.notIn_tuple_reads r2 r1 (lays_of p2) (lay_of p1) (by rw [dep_py, deps_py]; omega) ⟨.bl _, H, I, rfl, ?_⟩
      rw [any_py dx p1 xs p2]
      exact q _ _ (Same.refl H) (.bl _)
    · cases e
  · rename_i xs
    split at e
    · rename_i hc
      simp only [Bool.and_eq_true, decide_eq_true_eq] at hc
      obtain ⟨⟨p1, p2⟩, hd⟩ := hc
      cases e
      obtain ⟨as, r1⟩ := hx.reads I p1 rx
      obtain ⟨bs, r2⟩ := hy.reads I (by unfold plain; exact p2) ry
      unfold toPy at r2
      refine SeqAt.notIn_list_reads r2 r1 (lays_of p2) (lay_of p1) (by rw [dep_py, deps_py]; omega) ⟨.bl _, H, I, rfl, ?_⟩
      rw [any_py dx p1 xs p2]
      exact q _ _ (Same.refl H) (.bl _)
    · split at e
      · rename_i hc
        rw [Bool.and_eq_true] at hc
        cases e
        obtain ⟨hc1, hc2⟩ := hc
        unfold emptyDct at hc1
        split at hc1
        · cases hx with
          | dct hd _ =>
            obtain ⟨o, hH, _⟩ := hd.nil
            obtain ⟨a, vs, rfl, hl, rs⟩ := hy
            cases rx
            cases ry
            obtain ⟨z, its, n, rv, e⟩ := rd_list I hl
            have he := eq_items (A := X.A.in1) I (isDct_of I hH) (show X.A.units + 1 < cLine by omega) rs hc2 rv
            refine notIn_listAt (fun _ => false) ⟨_, e, rfl, n, rfl⟩ (fun y hy => he y (by simpa using hy)) ⟨.bl _, H, I, rfl, ?_⟩
            have e0 : its.toArray.any (fun _ => false) = false := by simp
            rw [e0]
            exact q _ _ (Same.refl H) (.bl _)
        · cases hc1
      · cases e
  · rename_i a b
    split at e
    · rename_i hc
      cases hx; cases hy; cases e
      obtain ⟨c, rfl⟩ : ∃ c, a = ⟨#[c]⟩ := by
        obtain ⟨l⟩ := a
        match l, hc with
        | ⟨[c]⟩, _ => exact ⟨c, rfl⟩
      refine op_notIn_sign pins s σ H _ _ v u Q I rx ry ⟨c, b, rfl, rfl, ?_⟩
      have e2 : decide (c ∈ b.cps.toList) = b.cps.toList.contains ((#[c] : Array Nat).getD 0 0) := by
        rw [List.contains_eq_mem]; rfl
      rw [e2]
      exact q _ _ (Same.refl H) (.bl _)
    · cases e
  · exact dnin_ok hu pins s σ H x y v u Q I rx ry ⟨_, _, _, hx, hy, by dsimp only; rw [e]; rfl, q⟩
  · cases e
/-- what stands for something else than None is not None -/
theorem rep_non {K : PySem.W.Frag} {H : Hp} {v : V} {d : D} (h : RepR K H v d) (h1 : d ≠ .non) (h2 : ∀ i, d ≠ .own i) (h3 : d ≠ .drw) : v ≠ .non := by
  cases d with
  | own i => exact absurd rfl (h2 i)
  | drw => exact absurd rfl h3
  | non => exact absurd rfl h1
  | lst _ => obtain ⟨a, vs, rfl, _⟩ := h; intro z; cases z
  | bl _ => cases h; intro z; cases z
  | int _ => cases h; intro z; cases z
  | str _ => cases h; intro z; cases z
  | tup _ => cases h; intro z; cases z
  | dct _ _ => cases h; intro z; cases z
  | obj _ _ _ => cases h; intro z; cases z
  | exn _ _ _ _ => cases h; intro z; cases z
theorem is_cases {K : PySem.W.Frag} {H : Hp} {x y : V} {dx dy d : D} (hx : RepR K H x dx) (hy : RepR K H y dy) (e : isD dx dy = some d) :
    (y = .non ∧ d = .bl (decide (x = .non))) ∨ (∃ a b, x = .bl a ∧ y = .bl b ∧ d = .bl (decide (a = b))) ∨ (∃ b, x = .non ∧ y = .bl b ∧ d = .bl false) := by
  unfold isD at e
  split at e
  · cases hx; cases hy; cases e; exact .inl ⟨rfl, rfl⟩
  · rename_i a b
    cases hx; cases hy; cases e
    exact .inr (.inl ⟨a, b, rfl, rfl, by rw [Bool.beq_eq_decide_eq]⟩)
  · cases e
  · cases e
  · rename_i n1 n2 n3
    cases hy; cases e
    refine .inl ⟨rfl, ?_⟩
    have hn := rep_non hx (fun z => n1 z) (fun i z => n2 i z) (fun z => n3 z)
    rw [decide_eq_false hn]
  · cases hx; cases hy; cases e; exact .inr (.inr ⟨_, rfl, rfl, rfl⟩)
  · cases e
theorem is_ok : OpP X (compareOp .Is) isD := by
  intro pins s σ H x y v u Q I rx ry h
  obtain ⟨dx, dy, d, hx, hy, e, q⟩ := h
  rcases is_cases hx hy e with ⟨rfl, rfl⟩ | ⟨a, b, rfl, rfl, rfl⟩ | ⟨b, rfl, rfl, rfl⟩
  · exact op_isN pins s σ H _ _ v u Q I rx ry ⟨rfl, q _ _ (Same.refl H) (.bl _)⟩
  · exact op_is_bl pins s σ H _ _ v u Q I rx ry ⟨a, b, rfl, rfl, q _ _ (Same.refl H) (.bl _)⟩
  · cases rx; cases ry
    exact wpAny_is_other rfl (fun z => by cases z) ⟨.bl false, H, I, rfl, q _ _ (Same.refl H) (.bl _)⟩
theorem isnot_ok : OpP X (compareOp .IsNot) (fun x y => (isD x y).bind notD) := by
  intro pins s σ H x y v u Q I rx ry h
  obtain ⟨dx, dy, d, hx, hy, e0, q⟩ := h
  obtain ⟨d0, e, en⟩ := Option.bind_eq_some_iff.mp e0
  clear e0
  obtain ⟨k, rfl, rfl⟩ := notD_some en
  rcases is_cases hx hy e with ⟨rfl, e1⟩ | ⟨a, b, rfl, rfl, e1⟩ | ⟨b, rfl, rfl, e1⟩
  · cases e1
    exact op_notN pins s σ H _ _ v u Q I rx ry ⟨rfl, q _ _ (Same.refl H) (.bl _)⟩
  · cases e1
    exact op_isnot_bl pins s σ H _ _ v u Q I rx ry ⟨a, b, rfl, rfl, q _ _ (Same.refl H) (.bl _)⟩
  · cases e1
    cases rx; cases ry
    exact wpAny_isNot_other rfl (fun z => by cases z) ⟨.bl true, H, I, rfl, q _ _ (Same.refl H) (.bl _)⟩
def opOf : BOp → Operator
  | .add => .Add
  | .sub => .Sub
  | .mul => .Mult
  | .fdiv => .FloorDiv
  | .mod => .Mod
  | .pow => .Pow
def copOf : COp → CmpOp
  | .eq => .Eq
  | .ne => .NotEq
  | .lt => .Lt
  | .le => .LtE
  | .gt => .Gt
  | .ge => .GtE
  | .is => .Is
  | .isnot => .IsNot
  | .inn => .In
  | .notin => .NotIn
theorem bin_ok : ∀ o : BOp, OpP X (binaryOp (opOf o)) (binD o)
  | .add => add_ok
  | .sub => sub_ok
  | .mul => mul_ok
  | .fdiv => fdiv_ok
  | .mod => mod_ok
  | .pow => pow_ok
theorem cmp_ok (hu : X.A.units + 65 < cLine) : ∀ o : COp, OpP X (compareOp (copOf o)) (cmpD o)
  | .eq => eq_ok hu
  | .ne => ne_ok hu
  | .lt => lt_ok
  | .le => le_ok
  | .gt => gt_ok
  | .ge => ge_ok
  | .is => is_ok
  | .isnot => isnot_ok
  | .inn => in_ok hu
  | .notin => notin_ok hu
end
end PI

set_option maxHeartbeats 1000000
/-! PI, part e: expressions. -/
namespace PI
open PySem L2
section
variable {X : Cx} {xc : XC} {W : WX}
theorem M_bind {α β : Type} (x : M α) (f : α → M β) : (x >>= f) = M.bnd x f := rfl

/-- one after another: the first is read, then the rest is asked where one stands -/
theorem tE_of {K : PySem.W.Frag} {σ : L2.St} {w : Wd} {env : Env'} {s : SS} {H : Hp} {Q : VK} {m : Env' → M D} {f : D → M D} (rel : Rel K w env s σ H) (h : Post K xc W σ w H Q ((m env >>= f) s)) :
    tE K xc W m σ H fun v H1 => ∃ w1 d s1, Go w H w1 H1 ∧ Rel K w1 env s1 σ H1 ∧ RepT K w1 H1 v d ∧ Post K xc W σ w1 H1 Q (f d s1) :=
  ⟨w, env, s, rel, (Post.bind h).imp fun v H1 ⟨w1, d, s1, g, t, r, p⟩ => ⟨w1, d, s1, g, rel.go g t, r, p⟩⟩
theorem tE.imp2 {K : PySem.W.Frag} {σ : L2.St} {H : Hp} {Q Q' : VK} {m : Env' → M D} (h : tE K xc W m σ H Q) (hq : ∀ v H', Q v H' → Q' v H') : tE K xc W m σ H Q' :=
  let ⟨w, env, s, rel, p⟩ := h
  ⟨w, env, s, rel, p.imp hq⟩
/-- a value at once -/
theorem Post.ret {K : PySem.W.Frag} {σ : L2.St} {w : Wd} {s : SS} {H : Hp} {Q : VK} {d : D} {v : V} (h : Post K xc W σ w H Q (.ok d s)) (t : Sto K w s H) (r : RepT K w H v d) : Q v H :=
  h v H w (Go.refl w H) t r
/-- new objects alone -/
theorem Post.new {K : PySem.W.Frag} {σ : L2.St} {w : Wd} {s : SS} {H : Hp} {Q : VK} {d : D} (h : Post K xc W σ w H Q (.ok d s)) (t : Sto K w s H) : ∀ v H', Same H H' → Rep K H' v d → Q v H' :=
  fun v H' e r => h v H' w (sgo e) (t.same e) (.of r)
theorem pd_k {e : Expr} {v : V} {d : D} (h : PE X e (tC v)) (r : ∀ H, Rep X.K H v d) : PE X e (tE X.K xc W fun _ => M.ret d) :=
  pimp h fun σ H Q ⟨w, env, s, rel, p⟩ => Post.ret p rel.st (.of (r H))
theorem rd_cases (env : Env') (i : Nat) (s : SS) : (∃ d, env[i]? = some (some d) ∧ rd env i s = .ok d s) ∨ rd env i s = .stuck := by
  cases e : env[i]? with
  | none => exact .inr (by simp only [rd, e]; rfl)
  | some o =>
    cases o with
    | none => exact .inr (by simp only [rd, e]; rfl)
    | some d => exact .inl ⟨d, rfl, by simp only [rd, e]; rfl⟩
theorem pd_v {e : Expr} {i : Nat} (h : PE X e (tVar i)) : PE X e (tE X.K xc W fun env => rd env i) :=
  pimp h fun σ H Q ⟨w, env, s, rel, p⟩ => by
    replace p : Post X.K xc W σ w H Q (rd env i s) := p
    rcases rd_cases env i s with ⟨d, e1, e2⟩ | e2
    · rw [e2] at p
      obtain ⟨v, e3, r⟩ := rel.sl i d e1
      exact ⟨v, e3, Post.ret p rel.st r⟩
    · rw [e2] at p; exact p.elim
/-- the reading of an operation on data -/
theorem op2_read {K : PySem.W.Frag} {σ : L2.St} {w : Wd} {s : SS} {H : Hp} {Q : VK} {f : D → D → Option D} {x y : D} {v u : V} (t : Sto K w s H) (r1 : RepT K w H v x) (r2 : RepT K w H u y) (p : Post K xc W σ w H Q (op2 f x y s)) :
    ∃ dx dy d, RepR K H v dx ∧ RepR K H u dy ∧ f dx dy = some d ∧ ∀ v H', Same H H' → Rep K H' v d → Q v H' := by
  unfold op2 at p
  cases e : f (vw s x) (vw s y) with
  | none => rw [e] at p; exact p.elim
  | some d => rw [e] at p; exact ⟨_, _, d, r1.rd t, r2.rd t, e, Post.new p t⟩
theorem pd_op {a b : Expr} {op : Operator} {pos : Pos} {f : D → D → Option D} {ma mb : Env' → M D} (ho : OpP X (binaryOp op) f) (ha : PE X a (tE X.K xc W ma)) (hb : PE X b (tE X.K xc W mb)) :
    PE X (.BinOp a op b pos) (tE X.K xc W fun env => ma env >>= fun x => mb env >>= fun y => op2 f x y) :=
  pimp (pe_op ho ha hb) fun σ H Q ⟨w, env, s, rel, p⟩ => by
    refine (tE_of rel p).imp2 fun v H1 ⟨w1, d, s1, g, rel1, r, p1⟩ => ?_
    refine (tE_of rel1 p1).imp2 fun u H2 ⟨w2, d2, s2, g2, rel2, r2, p2⟩ => ?_
    exact op2_read rel2.st (r.mono g2) r2 p2
theorem pd_cmp {a b : Expr} {op : CmpOp} {pos : Pos} {f : D → D → Option D} {ma mb : Env' → M D} (ho : OpP X (compareOp op) f) (hm : behindInMarks op b = false) (ha : PE X a (tE X.K xc W ma)) (hb : PE X b (tE X.K xc W mb)) :
    PE X (.Compare a [op] [b] pos) (tE X.K xc W fun env => ma env >>= fun x => mb env >>= fun y => op2 f x y) :=
  pimp (pe_cmpR ho ha hb hm) fun σ H Q ⟨w, env, s, rel, p⟩ => by
    refine (tE_of rel p).imp2 fun v H1 ⟨w1, d, s1, g, rel1, r, p1⟩ => ?_
    refine (tE_of rel1 p1).imp2 fun u H2 ⟨w2, d2, s2, g2, rel2, r2, p2⟩ => ?_
    exact op2_read rel2.st (r.mono g2) r2 p2
theorem pd_neg {a : Expr} {pos : Pos} {ma : Env' → M D} (ha : PE X a (tE X.K xc W ma)) :
    PE X (.UnaryOp .USub a pos) (tE X.K xc W fun env => ma env >>= fun x => op1 negD x) :=
  pimp (pe_un un_neg ha) fun σ H Q ⟨w, env, s, rel, p⟩ => by
    refine (tE_of rel p).imp2 fun v H1 ⟨w1, d, s1, g, rel1, r, p1⟩ => ?_
    unfold op1 at p1
    cases e : negD (vw s1 d) with
    | none => rw [e] at p1; exact p1.elim
    | some z =>
      rw [e] at p1
      have q := r.rd rel1.st
      generalize vw s1 d = y at e q
      cases y <;> simp only [negD] at e <;> try cases e
      cases q
      exact ⟨_, rfl, Post.new p1 rel1.st _ _ (Same.refl _) (.int _)⟩

/-! ### truth: what is asked is a bool -/
theorem bl_of {K : PySem.W.Frag} {w : Wd} {H : Hp} {v : V} {b : Bool} (r : RepT K w H v (.bl b)) : v = .bl b := by
  cases r; rfl
/-- a test's reading -/
abbrev tTst (K : PySem.W.Frag) (xc : XC) (W : WX) (m : Env' → M D) : TT := tB (tE K xc W m)
theorem pt_of {e : Expr} {m : Env' → M D} (h : PE X e (tE X.K xc W m)) (he : ∀ whole, isTrue e X.env whole = (do let v ← whole; standAt e.pos; holding [v] (truthy v))) : PT X e (tTst X.K xc W m) :=
  pt_val h he
/-- the answer of a test is known to be a bool: both ways -/
theorem pt_ite {K : PySem.W.Frag} {σ : L2.St} {w : Wd} {env : Env'} {s : SS} {H : Hp} {Q : VK} {m : Env' → M D} {x y : M D} (rel : Rel K w env s σ H) (h : Post K xc W σ w H Q (iteM (m env) x y s)) :
    tTst K xc W m σ H fun b H1 => ∃ w1 s1, Go w H w1 H1 ∧ Rel K w1 env s1 σ H1 ∧ Post K xc W σ w1 H1 Q (if b = true then x s1 else y s1) := by
  refine (tE_of rel h).imp2 fun v H1 ⟨w1, d, s1, g, rel1, r, p1⟩ => ?_
  cases d with
  | bl b =>
    refine ⟨b, bl_of r, w1, s1, g, rel1, ?_⟩
    cases b
    · exact p1
    · exact p1
  | _ => exact p1.elim
theorem pd_ite {t a b : Expr} {pos : Pos} {mt ma mb : Env' → M D} (ht : PT X t (tTst X.K xc W mt)) (ha : PE X a (tE X.K xc W ma)) (hb : PE X b (tE X.K xc W mb)) :
    PE X (.IfExp t a b pos) (tE X.K xc W fun env => iteM (mt env) (ma env) (mb env)) :=
  pimp (pe_ifExp ht ha hb) fun σ H Q ⟨w, env, s, rel, p⟩ => by
    refine tE.imp2 (pt_ite rel p) fun v H1 ⟨c, e, w1, s1, g, rel1, p1⟩ => ⟨c, e, ?_⟩
    cases c with
    | true => rw [if_pos rfl] at p1 ⊢; exact ⟨w1, env, s1, rel1, p1⟩
    | false => rw [if_neg Bool.false_ne_true] at p1 ⊢; exact ⟨w1, env, s1, rel1, p1⟩
theorem andM_ite (x y : M D) : andM x y = iteM x y (M.ret (.bl false)) := rfl
theorem orM_post {K : PySem.W.Frag} {σ : L2.St} {w : Wd} {H : Hp} {Q : VK} {x y : M D} {s : SS} (h : Post K xc W σ w H Q (orM x y s)) : Post K xc W σ w H Q (iteM x (M.ret (.bl true)) y s) := by
  have e : orM x y s = iteM x (M.ret (.bl true)) y s := by
    unfold orM iteM
    rw [M_bind, M_bind]
    unfold M.bnd
    cases x s with
    | ok d s' =>
      cases d with
      | bl b => cases b <;> rfl
      | _ => rfl
    | exc _ _ _ => rfl
    | stuck => rfl
  rw [← e]; exact h
theorem pd_and {a b : Expr} {rest : List Expr} {pos : Pos} {ma mb : Env' → M D} (ha : PE X a (tE X.K xc W ma)) (hb : PE X (.BoolOp .And (b :: rest) pos) (tE X.K xc W mb)) :
    PE X (.BoolOp .And (a :: b :: rest) pos) (tE X.K xc W fun env => andM (ma env) (mb env)) :=
  pimp (pe_and ha hb) fun σ H Q ⟨w, env, s, rel, p⟩ => by
    refine tE.imp2 (pt_ite rel p) fun v H1 ⟨c, e, w1, s1, g, rel1, p1⟩ => ⟨c, e, ?_⟩
    cases c with
    | true => rw [if_pos rfl] at p1 ⊢; exact ⟨w1, env, s1, rel1, p1⟩
    | false => rw [if_neg Bool.false_ne_true] at p1 ⊢; exact Post.ret p1 rel1.st (.of (.bl false))
theorem pd_or {a b : Expr} {rest : List Expr} {pos : Pos} {ma mb : Env' → M D} (ha : PE X a (tE X.K xc W ma)) (hb : PE X (.BoolOp .Or (b :: rest) pos) (tE X.K xc W mb)) :
    PE X (.BoolOp .Or (a :: b :: rest) pos) (tE X.K xc W fun env => orM (ma env) (mb env)) :=
  pimp (pe_or ha hb) fun σ H Q ⟨w, env, s, rel, p⟩ => by
    refine tE.imp2 (pt_ite rel (orM_post p)) fun v H1 ⟨c, e, w1, s1, g, rel1, p1⟩ => ⟨c, e, ?_⟩
    cases c with
    | true => rw [if_pos rfl] at p1 ⊢; exact Post.ret p1 rel1.st (.of (.bl true))
    | false => rw [if_neg Bool.false_ne_true] at p1 ⊢; exact ⟨w1, env, s1, rel1, p1⟩
theorem notM_post {K : PySem.W.Frag} {σ : L2.St} {w : Wd} {H : Hp} {Q : VK} {x : M D} {s : SS} (h : Post K xc W σ w H Q (notM x s)) : Post K xc W σ w H Q (iteM x (M.ret (.bl false)) (M.ret (.bl true)) s) := by
  have e : notM x s = iteM x (M.ret (.bl false)) (M.ret (.bl true)) s := by
    unfold notM iteM
    rw [M_bind, M_bind]
    unfold M.bnd
    cases x s with
    | ok d s' =>
      cases d with
      | bl b => cases b <;> rfl
      | _ => rfl
    | exc _ _ _ => rfl
    | stuck => rfl
  rw [← e]; exact h
theorem pd_not {a : Expr} {pos : Pos} {ma : Env' → M D} (ha : PE X a (tE X.K xc W ma)) : PE X (.UnaryOp .Not a pos) (tE X.K xc W fun env => notM (ma env)) :=
  pimp (pe_not ha) fun σ H Q ⟨w, env, s, rel, p⟩ => by
    refine tE.imp2 (pt_ite rel (notM_post p)) fun v H1 ⟨c, e, w1, s1, g, rel1, p1⟩ => ⟨c, e, ?_⟩
    cases c with
    | true => rw [if_pos rfl] at p1; exact Post.ret p1 rel1.st (.of (.bl false))
    | false => rw [if_neg Bool.false_ne_true] at p1; exact Post.ret p1 rel1.st (.of (.bl true))
/-! .. as tests -/
theorem ptimp {e : Expr} {t t' : TT} (h : PT X e t) (hi : ∀ σ H Q, t' σ H Q → t σ H Q) : PT X e t' :=
  ⟨fun pins s σ H Q I q => h.run pins s σ H Q I (hi σ H Q q)⟩
theorem pwimp {e : Expr} {t t' : TT} (h : PW X e t) (hi : ∀ σ H Q, t' σ H Q → t σ H Q) : PW X e t' :=
  ⟨fun wh pins s σ H Q I q => h.run wh pins s σ H Q I (hi σ H Q q)⟩
theorem pdt_and {a b : Expr} {rest : List Expr} {pos : Pos} {ma mb : Env' → M D} (ha : PT X a (tTst X.K xc W ma)) (hb : PW X (.BoolOp .And (b :: rest) pos) (tTst X.K xc W mb)) :
    PW X (.BoolOp .And (a :: b :: rest) pos) (tTst X.K xc W fun env => andM (ma env) (mb env)) :=
  pwimp (pw_and ha hb) fun σ H Q ⟨w, env, s, rel, p⟩ => by
    refine tE.imp2 (pt_ite rel p) fun v H1 ⟨c, e, w1, s1, g, rel1, p1⟩ => ⟨c, e, ?_⟩
    cases c with
    | true => rw [if_pos rfl] at p1 ⊢; exact ⟨w1, env, s1, rel1, p1⟩
    | false =>
      rw [if_neg Bool.false_ne_true] at p1 ⊢
      obtain ⟨c', e', q⟩ := Post.ret p1 rel1.st (.of (.bl false))
      cases e'; exact q
theorem pdt_or {a b : Expr} {rest : List Expr} {pos : Pos} {ma mb : Env' → M D} (ha : PT X a (tTst X.K xc W ma)) (hb : PW X (.BoolOp .Or (b :: rest) pos) (tTst X.K xc W mb)) :
    PW X (.BoolOp .Or (a :: b :: rest) pos) (tTst X.K xc W fun env => orM (ma env) (mb env)) :=
  pwimp (pw_or ha hb) fun σ H Q ⟨w, env, s, rel, p⟩ => by
    refine tE.imp2 (pt_ite rel (orM_post p)) fun v H1 ⟨c, e, w1, s1, g, rel1, p1⟩ => ⟨c, e, ?_⟩
    cases c with
    | true =>
      rw [if_pos rfl] at p1 ⊢
      obtain ⟨c', e', q⟩ := Post.ret p1 rel1.st (.of (.bl true))
      cases e'; exact q
    | false => rw [if_neg Bool.false_ne_true] at p1 ⊢; exact ⟨w1, env, s1, rel1, p1⟩
theorem pdt_not {a : Expr} {pos : Pos} {ma : Env' → M D} (ha : PT X a (tTst X.K xc W ma)) : PT X (.UnaryOp .Not a pos) (tTst X.K xc W fun env => notM (ma env)) :=
  ptimp (pt_not ha) fun σ H Q ⟨w, env, s, rel, p⟩ => by
    refine tE.imp2 (pt_ite rel (notM_post p)) fun v H1 ⟨c, e, w1, s1, g, rel1, p1⟩ => ⟨c, e, ?_⟩
    cases c with
    | true =>
      rw [if_pos rfl] at p1
      obtain ⟨c', e', q⟩ := Post.ret p1 rel1.st (.of (.bl false))
      cases e'; exact q
    | false =>
      rw [if_neg Bool.false_ne_true] at p1
      obtain ⟨c', e', q⟩ := Post.ret p1 rel1.st (.of (.bl true))
      cases e'; exact q
theorem pdt_cmp {a b : Expr} {op : CmpOp} {pos : Pos} {f : D → D → Option D} {ma mb : Env' → M D} (ho : OpP X (compareOp op) f) (hm : behindInMarks op b = false) (ha : PE X a (tE X.K xc W ma)) (hb : PE X b (tE X.K xc W mb)) :
    PT X (.Compare a [op] [b] pos) (tTst X.K xc W fun env => ma env >>= fun x => mb env >>= fun y => op2 f x y) :=
  ptimp (pt_cmpR ho ha hb hm) fun σ H Q ⟨w, env, s, rel, p⟩ => by
    refine (tE_of rel p).imp2 fun v H1 ⟨w1, d, s1, g, rel1, r, p1⟩ => ?_
    refine (tE_of rel1 p1).imp2 fun u H2 ⟨w2, d2, s2, g2, rel2, r2, p2⟩ => ?_
    exact op2_read rel2.st (r.mono g2) r2 p2
theorem chain_read {K : PySem.W.Frag} {σ : L2.St} {H : Hp} {Q : VK} {o o' : COp} {ma mb mc : Env' → M D} (h : tE K xc W (fun env => chainM o o' (ma env) (mb env) (mc env)) σ H Q) :
    tChain (fun x y H Q => ∃ dx dy d, RepR K H x dx ∧ RepR K H y dy ∧ cmpD o dx dy = some d ∧ ∀ v H', Same H H' → Rep K H' v d → Q v H')
      (fun x y H Q => ∃ dx dy d, RepR K H x dx ∧ RepR K H y dy ∧ cmpD o' dx dy = some d ∧ ∀ v H', Same H H' → Rep K H' v d → Q v H') (tE K xc W ma) (tE K xc W mb) (tE K xc W mc) σ H Q := by
  obtain ⟨w, env, s, rel, p⟩ := h
  refine (tE_of rel p).imp2 fun v H1 ⟨w1, d, s1, g, rel1, r, p1⟩ => ?_
  refine (tE_of rel1 p1).imp2 fun u H2 ⟨w2, d2, s2, g2, rel2, r2, p2⟩ => ?_
  replace p2 := Post.bind p2
  obtain ⟨dx, dy, z, q1, q2, e, k⟩ := op2_read rel2.st (r.mono g2) r2 p2
  refine ⟨dx, dy, z, q1, q2, e, fun v' H' sm rz => ?_⟩
  obtain ⟨w3, d3, s3, g3, t3, r3, p3⟩ := k v' H' sm rz
  cases d3 with
  | bl b =>
    refine ⟨b, bl_of r3, ?_⟩
    cases b with
    | true =>
      rw [if_pos rfl]
      refine (tE_of (rel2.go g3 t3) p3).imp2 fun x4 H4 ⟨w4, d4, s4, g4, rel4, r4, p4⟩ => ?_
      exact op2_read rel4.st ((r2.mono g3).mono g4) r4 p4
    | false =>
      rw [if_neg Bool.false_ne_true]
      exact Post.ret p3 t3 (.of (.bl false))
  | _ => exact p3.elim
theorem pd_chain {a b c : Expr} {o o' : COp} {pos : Pos} {ma mb mc : Env' → M D} (hu : X.A.units + 65 < cLine) (hm : behindInMarks (copOf o') c = false)
    (ha : PE X a (tE X.K xc W ma)) (hb : PE X b (tE X.K xc W mb)) (hc : PE X c (tE X.K xc W mc)) :
    PE X (.Compare a [copOf o, copOf o'] [b, c] pos) (tE X.K xc W fun env => chainM o o' (ma env) (mb env) (mc env)) :=
  pimp (pe_chain (cmp_ok hu o) (cmp_ok hu o') ha hb hc hm) fun σ H Q h => chain_read h
theorem pdt_chain {a b c : Expr} {o o' : COp} {pos : Pos} {ma mb mc : Env' → M D} (hu : X.A.units + 65 < cLine) (hm : behindInMarks (copOf o') c = false)
    (ha : PE X a (tE X.K xc W ma)) (hb : PE X b (tE X.K xc W mb)) (hc : PE X c (tE X.K xc W mc)) :
    PT X (.Compare a [copOf o, copOf o'] [b, c] pos) (tTst X.K xc W fun env => chainM o o' (ma env) (mb env) (mc env)) :=
  ptimp (pt_chain (cmp_ok hu o) (cmp_ok hu o') ha hb hc hm) fun σ H Q h => chain_read h
end
end PI

set_option maxHeartbeats 1000000
/-! PI, part f: freezing; argument lists; displays. -/
namespace PI
open PySem L2
section
variable {X : Cx} {xc : XC} {W : WX}
/-- as it is, or as it is frozen -/
def FrO (Q : VK) : VK := fun v H => Q v H ∨ ∃ a u, v = .ref a ∧ H a = some u ∧ Mut (some u) ∧ ∀ o, Q v (upd H a (.frz o u))
theorem efro {pins : List (Addr × Obj)} {σ : L2.St} {Q : VK} {u : Value} {s : Shared} (h : EP X pins σ (FrO Q) u s) : EP X pins σ Q u s := by
  obtain ⟨v, H, I, r, q | ⟨a, xs, e, hH, mu, q⟩⟩ := h
  · exact ⟨v, H, I, r, q⟩
  · obtain ⟨o, I'⟩ := I.lock hH mu
    exact ⟨v, _, I', r, q o⟩
theorem pfro {e : Expr} {t : TE} (h : PE X e t) : PE X e (fun σ H Q => t σ H (FrO Q)) :=
  ⟨fun pins s σ H Q I q => thn (h.run pins s σ H _ I q) fun _ _ z => efro z⟩
theorem mem_ws {w : Wd} {i : Nat} {a : Addr} (h : w.ρ[i]? = some a) : a ∈ w.ws := List.mem_append_right _ (List.mem_of_getElem? h)
theorem nd_ρ {w : Wd} (h : w.ws.Nodup) : w.ρ.Nodup := (List.nodup_append.mp h).2.1
theorem ρ_inj {w : Wd} (h : w.ws.Nodup) {i j : Nat} {a : Addr} (h1 : w.ρ[i]? = some a) (h2 : w.ρ[j]? = some a) : i = j := by
  obtain ⟨p1, q1⟩ := List.getElem?_eq_some_iff.mp h1
  obtain ⟨p2, q2⟩ := List.getElem?_eq_some_iff.mp h2
  exact (List.getElem_inj (nd_ρ h)).mp (q1.trans q2.symm)
theorem m_ne {w : Wd} (h : w.ws.Nodup) {a l b : Addr} {i : Nat} (hm : w.m = some (a, l)) (h1 : w.ρ[i]? = some b) : a ≠ b ∧ l ≠ b ∧ a ≠ l := by
  unfold Wd.ws at h
  rw [hm] at h
  obtain ⟨h2, h3, h4⟩ := List.nodup_append.mp h
  have hb := List.mem_of_getElem? h1
  refine ⟨h4 a (by simp) b hb, h4 l (by simp) b hb, ?_⟩
  simp at h2; exact h2
/-- a cell's content is exchanged: the heap at its address alone changes -/
theorem sto_set {K : PySem.W.Frag} {w : Wd} {s : SS} {H : Hp} {i : Nat} {a : Addr} {o : HO} {c : Bool × OC} (t : Sto K w s H) (ha : w.ρ[i]? = some a) (nf : ∀ u, H a = some u → ¬ Fz u) (hc : CellAt K (upd H a o) a c) :
    Go w H w (upd H a o) ∧ Sto K w { s with cs := s.cs.set i c } (upd H a o) := by
  have g : Go w H w (upd H a o) := by
    refine ⟨fun b u e f => ?_, fun _ h => .inl h, ⟨[], by simp⟩, fun _ => rfl⟩
    have ne : b ≠ a := by
      rintro rfl
      rcases f with f | f
      · exact f (mem_ws ha)
      · exact nf u e f
    rw [upd_ne ne]; exact e
  refine ⟨g, ?_, by rw [List.length_set]; exact t.len, fun j b c' h1 h2 => ?_, t.nd⟩
  · have hm := t.m
    cases em : w.m with
    | none => rw [em] at hm; cases es : s.m with
      | none => trivial
      | some _ => rw [es] at hm; exact hm.elim
    | some p =>
      obtain ⟨am, al⟩ := p
      rw [em] at hm
      cases es : s.m with
      | none => rw [es] at hm; exact hm.elim
      | some m =>
        rw [es] at hm
        obtain ⟨cc, h1, h2, h3, h4⟩ := hm
        obtain ⟨n1, n2, _⟩ := m_ne t.nd em ha
        exact ⟨cc, by rw [upd_ne n1]; exact h1, h2.mono g.ext, by rw [upd_ne n2]; exact h3, h4⟩
  · by_cases hj : j = i
    · subst hj
      rw [ha] at h1
      cases h1
      have hlt : j < s.cs.length := by rw [← t.len]; exact (List.getElem?_eq_some_iff.mp ha).1
      rw [List.getElem?_set_self hlt] at h2
      cases h2
      exact hc
    · rw [List.getElem?_set_ne (Ne.symm hj)] at h2
      have ne : b ≠ a := fun z => hj (ρ_inj t.nd h1 (z ▸ ha))
      exact (t.cs j b c' h1 h2).at g.ext (upd_ne ne)
theorem RepT.pure {K : PySem.W.Frag} {w : Wd} {H : Hp} {v : V} {d : D} (p : pureB d = true) (r : RepT K w H v d) : Rep K H v d := by
  cases d <;> first | exact Bool.noConfusion p | exact r
theorem DctC.froz {H : Hp} {a : Addr} {t : Bool} {ks : List D} {us : List V} (h : DctC H a true ks us t) (hz : ¬ (t && ks.isEmpty) = true) : DctAt H a ks us := by
  cases t with
  | false => obtain ⟨kvs, ⟨ob, h⟩, e1, e2, _⟩ := h; exact .inl ⟨ob, kvs, h, e1, e2⟩
  | true =>
    obtain ⟨kvs, ⟨ob, h⟩, e1, e2, _⟩ := h
    refine .inr ⟨ob, kvs, h, fun z => hz ?_, e1, e2⟩
    subst z e1
    rfl
theorem DctC.lock {H : Hp} {a : Addr} {t : Bool} {ks : List D} {us : List V} (h : DctC H a false ks us t) : ∃ u, H a = some u ∧ Mut (some u) ∧ ¬ Fz u ∧ ∀ o, DctC (upd H a (.frz o u)) a true ks us t := by
  cases t with
  | false => obtain ⟨kvs, h, e1, e2, e3⟩ := h; exact ⟨_, h, trivial, (fun z => z), fun o => ⟨kvs, ⟨o, upd_same⟩, e1, e2, e3⟩⟩
  | true => obtain ⟨kvs, h, e1, e2, e3⟩ := h; exact ⟨_, h, trivial, (fun z => z), fun o => ⟨kvs, ⟨o, upd_same⟩, e1, e2, e3⟩⟩
/-- what freezing does -/
theorem frz_read {α : Type} {K : PySem.W.Frag} {w : Wd} {s : SS} {H : Hp} {v : V} {d : D} {f : D → M α} {PQ : Wd → Hp → R α → Prop} (mono : ∀ {w H w1 H1 r}, Go w H w1 H1 → PQ w H r → PQ w1 H1 r) (stk : ∀ w H, PQ w H .stuck → False)
    (t : Sto K w s H) (r : RepT K w H v d) (p : PQ w H ((frz d >>= f) s)) :
    FrO (fun v H1 => ∃ w1 d1 s1, Go w H w1 H1 ∧ Sto K w1 s1 H1 ∧ RepT K w1 H1 v d1 ∧ PQ w1 H1 (f d1 s1)) v H := by
  rw [M_bind] at p
  unfold M.bnd at p
  cases d with
  | own i =>
    obtain ⟨a, ha, rfl⟩ := r
    cases q : s.cs[i]? with
    | none => simp only [frz, q] at p; exact (stk _ _ p).elim
    | some c =>
      obtain ⟨fz, oc⟩ := c
      cases oc with
      | lst xs =>
        simp only [frz, q] at p
        have hc := t.cs i a _ ha q
        cases fz with
        | true =>
          obtain ⟨vs, o, h1, h2⟩ := hc
          have es : s.cs.set i (true, OC.lst xs) = s.cs := by
            obtain ⟨hi, e⟩ := List.getElem?_eq_some_iff.mp q
            rw [← e]; exact List.set_getElem_self hi
          rw [es] at p
          exact .inl ⟨w, .lst xs, s, Go.refl w H, t, Rep.lst ⟨o, h1⟩ h2, p⟩
        | false =>
          obtain ⟨vs, h1, h2⟩ := hc
          refine .inr ⟨a, .lst vs, rfl, h1, trivial, fun o => ?_⟩
          have nf : ∀ u, H a = some u → ¬ Fz u := fun u e f => by rw [h1] at e; cases e; exact f
          have gx : Ext H (upd H a (.frz o (.lst vs))) := ⟨fun b u e f => by
            have ne : b ≠ a := by rintro rfl; exact nf u e f
            rw [upd_ne ne]; exact e⟩
          obtain ⟨g, t'⟩ := sto_set (o := .frz o (.lst vs)) (c := (true, .lst xs)) t ha nf ⟨vs, o, upd_same, h2.mono gx⟩
          exact ⟨w, .lst xs, _, g, t', Rep.lst ⟨o, upd_same⟩ (h2.mono gx), mono g p⟩
      | dct tt ks ds =>
        simp only [frz, q] at p
        by_cases hz : (tt && ks.isEmpty) = true
        · rw [if_pos hz] at p; exact (stk _ _ p).elim
        rw [if_neg hz] at p
        have hc := t.cs i a _ ha q
        cases fz with
        | true =>
          obtain ⟨us, h1, h2⟩ := hc
          have es : s.cs.set i (true, OC.dct tt ks ds) = s.cs := by
            obtain ⟨hi, e⟩ := List.getElem?_eq_some_iff.mp q
            rw [← e]; exact List.set_getElem_self hi
          rw [es] at p
          exact .inl ⟨w, .dct ks ds, s, Go.refl w H, t, Rep.dct (h1.froz hz) h2, p⟩
        | false =>
          obtain ⟨us, h1, h2⟩ := hc
          obtain ⟨u, hu, mu, hf⟩ := h1.lock
          refine .inr ⟨a, u, rfl, hu, mu, fun o => ?_⟩
          have nf : ∀ u', H a = some u' → ¬ Fz u' := fun u' e f => by rw [hu] at e; cases e; exact hf.1 f
          have gx : Ext H (upd H a (.frz o u)) := ⟨fun b u' e f => by
            have ne : b ≠ a := by rintro rfl; exact nf u' e f
            rw [upd_ne ne]; exact e⟩
          obtain ⟨g, t'⟩ := sto_set (o := .frz o u) (c := (true, .dct tt ks ds)) t ha nf ⟨us, hf.2 o, h2.mono gx⟩
          exact ⟨w, .dct ks ds, _, g, t', Rep.dct ((hf.2 o).froz hz) (h2.mono gx), mono g p⟩
      | ins _ _ _ => simp only [frz, q] at p; exact (stk _ _ p).elim
      | tbl _ _ => simp only [frz, q] at p; exact (stk _ _ p).elim
  | drw => exact .inl ⟨w, _, s, Go.refl w H, t, r, p⟩
  | non => exact .inl ⟨w, _, s, Go.refl w H, t, r, p⟩
  | bl _ => exact .inl ⟨w, _, s, Go.refl w H, t, r, p⟩
  | int _ => exact .inl ⟨w, _, s, Go.refl w H, t, r, p⟩
  | str _ => exact .inl ⟨w, _, s, Go.refl w H, t, r, p⟩
  | tup _ => exact .inl ⟨w, _, s, Go.refl w H, t, r, p⟩
  | lst _ => exact .inl ⟨w, _, s, Go.refl w H, t, r, p⟩
  | dct _ _ => exact .inl ⟨w, _, s, Go.refl w H, t, r, p⟩
  | obj _ _ _ => exact .inl ⟨w, _, s, Go.refl w H, t, r, p⟩
  | exn _ _ _ _ => exact .inl ⟨w, _, s, Go.refl w H, t, r, p⟩

/-! ### argument lists -/
inductive RepTs (K : PySem.W.Frag) (w : Wd) (H : Hp) : List V → List D → Prop
  | nil : RepTs K w H [] []
  | cons {v : V} {vs : List V} {d : D} {ds : List D} : RepT K w H v d → RepTs K w H vs ds → RepTs K w H (v :: vs) (d :: ds)
theorem RepTs.mono {K : PySem.W.Frag} {w w' : Wd} {H H' : Hp} (g : Go w H w' H') : ∀ {vs : List V} {ds : List D}, RepTs K w H vs ds → RepTs K w' H' vs ds
  | _, _, .nil => .nil
  | _, _, .cons h r => .cons (h.mono g) (RepTs.mono g r)
theorem RepTs.length {K : PySem.W.Frag} {w : Wd} {H : Hp} : ∀ {vs : List V} {ds : List D}, RepTs K w H vs ds → vs.length = ds.length
  | _, _, .nil => rfl
  | _, _, .cons _ r => by simp [RepTs.length r]
theorem RepTs.append {K : PySem.W.Frag} {w : Wd} {H : Hp} : ∀ {vs us : List V} {ds es : List D}, RepTs K w H vs ds → RepTs K w H us es → RepTs K w H (vs ++ us) (ds ++ es)
  | _, _, _, _, .nil, s => s
  | _, _, _, _, .cons h r, s => .cons h (RepTs.append r s)
theorem Reps.ts {K : PySem.W.Frag} {w : Wd} {H : Hp} : ∀ {vs : List V} {ds : List D}, Reps K H vs ds → RepTs K w H vs ds
  | _, _, .nil => .nil
  | _, _, .cons h r => .cons (.of h) (Reps.ts r)
theorem RepTs.pure {K : PySem.W.Frag} {w : Wd} {H : Hp} : ∀ {vs : List V} {ds : List D}, ds.all pureB = true → RepTs K w H vs ds → Reps K H vs ds
  | _, _, _, .nil => .nil
  | _, _, p, .cons h r => by
    rw [List.all_cons, Bool.and_eq_true] at p
    exact .cons (h.pure p.1) (RepTs.pure p.2 r)
def PostA (K : PySem.W.Frag) (xc : XC) (W : WX) (σ : L2.St) (w : Wd) (H : Hp) (Q : List V → Hp → Prop) : R (List D) → Prop
  | .ok ds s' => ∀ vs H' w', Go w H w' H' → Sto K w' s' H' → RepTs K w' H' vs ds → Q vs H'
  | .exc c f s' => ∀ x v H' w', Go w H w' H' → Sto K w' s' H' → H' x = some (.xd [(xc.fld c, v)]) → Rep K H' v f → W (.ref (xc.cls c)) (some x) σ H'
  | .stuck => False
def tA (K : PySem.W.Frag) (xc : XC) (W : WX) (m : Env' → M (List D)) : TA := fun σ H Q => ∃ w env s, Rel K w env s σ H ∧ PostA K xc W σ w H Q (m env s)
theorem PostA.mono {K : PySem.W.Frag} {σ : L2.St} {w w1 : Wd} {H H1 : Hp} {Q : List V → Hp → Prop} (g : Go w H w1 H1) : ∀ {r : R (List D)}, PostA K xc W σ w H Q r → PostA K xc W σ w1 H1 Q r
  | .ok d s', h => fun v H' w' g' t r => h v H' w' (g.trans g') t r
  | .exc c f s', h => fun x v H' w' g' t e r => h x v H' w' (g.trans g') t e r
  | .stuck, h => h
/-- from a value to a list -/
theorem PostA.bind {K : PySem.W.Frag} {σ : L2.St} {w : Wd} {H : Hp} {Q : List V → Hp → Prop} {x : M D} {f : D → M (List D)} {s : SS} (h : PostA K xc W σ w H Q ((x >>= f) s)) :
    Post K xc W σ w H (fun v H1 => ∃ w1 d s1, Go w H w1 H1 ∧ Sto K w1 s1 H1 ∧ RepT K w1 H1 v d ∧ PostA K xc W σ w1 H1 Q (f d s1)) (x s) := by
  rw [M_bind] at h
  unfold M.bnd at h
  cases q : x s with
  | ok d s' =>
    rw [q] at h
    intro v H' w' g t r
    exact ⟨w', d, s', g, t, r, h.mono g⟩
  | exc c f' s' => rw [q] at h; exact h
  | stuck => rw [q] at h; exact h
/-- from a list to a value -/
theorem Post.bindA {K : PySem.W.Frag} {σ : L2.St} {w : Wd} {H : Hp} {Q : VK} {x : M (List D)} {f : List D → M D} {s : SS} (h : Post K xc W σ w H Q ((x >>= f) s)) :
    PostA K xc W σ w H (fun vs H1 => ∃ w1 ds s1, Go w H w1 H1 ∧ Sto K w1 s1 H1 ∧ RepTs K w1 H1 vs ds ∧ Post K xc W σ w1 H1 Q (f ds s1)) (x s) := by
  rw [M_bind] at h
  unfold M.bnd at h
  cases q : x s with
  | ok d s' =>
    rw [q] at h
    intro v H' w' g t r
    exact ⟨w', d, s', g, t, r, h.mono g⟩
  | exc c f' s' => rw [q] at h; exact h
  | stuck => rw [q] at h; exact h
theorem PostA.bindA {K : PySem.W.Frag} {σ : L2.St} {w : Wd} {H : Hp} {Q : List V → Hp → Prop} {x : M (List D)} {f : List D → M (List D)} {s : SS} (h : PostA K xc W σ w H Q ((x >>= f) s)) :
    PostA K xc W σ w H (fun vs H1 => ∃ w1 ds s1, Go w H w1 H1 ∧ Sto K w1 s1 H1 ∧ RepTs K w1 H1 vs ds ∧ PostA K xc W σ w1 H1 Q (f ds s1)) (x s) := by
  rw [M_bind] at h
  unfold M.bnd at h
  cases q : x s with
  | ok d s' =>
    rw [q] at h
    intro v H' w' g t r
    exact ⟨w', d, s', g, t, r, h.mono g⟩
  | exc c f' s' => rw [q] at h; exact h
  | stuck => rw [q] at h; exact h
theorem PostA.imp {K : PySem.W.Frag} {σ : L2.St} {w : Wd} {H : Hp} {Q Q' : List V → Hp → Prop} (hq : ∀ v H', Q v H' → Q' v H') : ∀ {r : R (List D)}, PostA K xc W σ w H Q r → PostA K xc W σ w H Q' r
  | .ok d s', h => fun v H' w' g' t r => hq _ _ (h v H' w' g' t r)
  | .exc c f s', h => h
  | .stuck, h => h
theorem paimp {es : List Expr} {t t' : TA} (h : PA X es t) (hi : ∀ σ H Q, t' σ H Q → t σ H Q) : PA X es t' :=
  ⟨fun pos pins s σ H Q I q => h.run pos pins s σ H Q I (hi σ H Q q)⟩
theorem pda_nil : PA X [] (tA X.K xc W fun _ => M.ret []) :=
  paimp pa_nil fun σ H Q ⟨w, env, s, rel, p⟩ => p [] H w (Go.refl w H) rel.st .nil
theorem pda_cons {e : Expr} {es : List Expr} {m : Env' → M D} {ms : Env' → M (List D)} (he : PE X e (tE X.K xc W m)) (hes : PA X es (tA X.K xc W ms))
    (hs : starEach (e :: es) X.env = (false, eval e X.env) :: starEach es X.env) : PA X (e :: es) (tA X.K xc W fun env => consM (m env) (ms env)) :=
  paimp (pa_cons (pfro he) hes hs) fun σ H Q ⟨w, env, s, rel, p⟩ => by
    refine ⟨w, env, s, rel, (PostA.bind p).imp fun v H1 ⟨w1, d, s1, g, t, r, p1⟩ => ?_⟩
    have q := frz_read (K := X.K) (PQ := fun w H r => PostA X.K xc W σ w H Q r) (fun g h => h.mono g) (fun _ _ h => h) t r p1
    have fin : ∀ H2 : Hp, Ext H1 H2 → (∃ w2 d2 s2, Go w1 H1 w2 H2 ∧ Sto X.K w2 s2 H2 ∧ RepT X.K w2 H2 v d2 ∧ PostA X.K xc W σ w2 H2 Q ((ms env >>= fun r => M.ret (d2 :: r)) s2)) →
        tA X.K xc W ms σ H2 fun xs H3 => Q (v :: xs) H3 := fun H2 _ ⟨w2, d2, s2, g2, t2, r2, p2⟩ => by
      refine ⟨w2, env, s2, (rel.go g t).go g2 t2, (PostA.bindA p2).imp fun vs H3 ⟨w3, ds, s3, g3, t3, r3, p3⟩ => ?_⟩
      exact p3 _ H3 w3 (Go.refl _ _) t3 (.cons (r2.mono g3) r3)
    rcases q with q | ⟨a, xs, e1, e2, mu, q⟩
    · exact .inl (fin H1 (Ext.refl _) q)
    · refine .inr ⟨a, xs, e1, e2, mu, fun o => ?_⟩
      obtain ⟨w2, d2, s2, g2, rest⟩ := q o
      exact fin _ g2.ext ⟨w2, d2, s2, g2, rest⟩
/-- the items of a list or tuple that is read -/
theorem seq_read {K : PySem.W.Frag} {H : Hp} {v : V} {d : D} {ds : List D} (r : RepR K H v d) (e : seqD d = some ds) : ∃ a vs, v = .ref a ∧ (FzT K H a vs ∨ Rd H a (.lst vs)) ∧ Reps K H vs ds := by
  cases d <;> simp only [seqD] at e <;> try cases e
  · cases r with
    | tup h rs => exact ⟨_, _, rfl, .inl h, rs⟩
  · obtain ⟨a, vs, rfl, h, rs⟩ := r
    exact ⟨a, vs, rfl, .inr h, rs⟩
/-- the items that *e hands on -/
theorem star_lst {pins : List (Addr × Obj)} {σ : L2.St} {H : Hp} {s : Shared} {a : Addr} {xs : List V} {E : Value → Shared → Prop} {Q : List Value → Shared → Prop} (I : Inv X pins σ H s) (h : Rd H a (.lst xs)) (hQ : ∀ us s', Inv X pins σ H s' → Vals xs us → Q us s') :
    PySem.W.StarOf (model X.prog X.w) X.A E (.ref a) Q s := by
  obtain ⟨z, its, n, r, ho⟩ := rd_list I h
  have hT : s.TypeIs (.ref a) "list" := ⟨_, ho, rfl⟩
  have hl := r.length
  have y : wpAny (model X.prog X.w) X.A (collect (.ref a)) Q E s := by
    refine wpAny_collect_seq a (.inl rfl) ho rfl rfl (fun h' hk => ?_) (by rw [List.size_toArray]; omega)
    have e : its.toArray.toList = its := by simp
    rw [e]
    exact hQ its _ (I.kept (t' := s.toks) hk) r
  unfold PySem.W.StarOf notIterableAtAll
  exact wpAny_bind (wpAny_specialOf hT PySem.F.slot_list_iter.lookup (wpAny_pure ⟨rfl, y⟩))
theorem pda_star {e : Expr} {ps : Pos} {es : List Expr} {m : Env' → M D} {ms : Env' → M (List D)} (he : PE X e (tE X.K xc W m)) (hes : PA X es (tA X.K xc W ms)) :
    PA X (.Starred e ps :: es) (tA X.K xc W fun env => starM (m env) (ms env)) := by
  refine ⟨fun pos pins s σ H Q I ⟨w, env, ss, rel, p⟩ => ?_⟩
  show wpAny _ _ (spliced ((true, (do let v ← eval e X.env; standAt pos; pure v)) :: backTo pos (starEach es X.env))) _ _ s
  refine PySem.W.ks_spliced (thn (he.run pins s σ H _ I ⟨w, env, ss, rel, PostA.bind p⟩) fun u s1 ⟨v, H1, I1, ru, w1, d, s2, g, t, r, p1⟩ => ?_)
  cases q : seqD (vw s2 d) with
  | none => simp only [q] at p1; exact p1.elim
  | some l =>
    simp only [q] at p1
    obtain ⟨a, vs, rfl, hs, rs⟩ := seq_read (r.rd t) q
    cases ru
    have go : ∀ us s', Inv X pins σ H1 s' → Vals vs us → wpAny (model X.prog X.w) X.A (spliced (backTo pos (starEach es X.env))) (fun zs s3 => AP X pins σ Q (us ++ zs) s3) X.xe s' := fun us s' I' ru => by
      refine thn (hes.run pos pins s' σ H1 _ I' ⟨w1, env, s2, rel.go g t, PostA.bindA p1⟩) fun zs s3 ⟨ws, H2, I2, rz, w2, ds, s4, g2, t2, r2, p2⟩ => ?_
      exact ⟨vs ++ ws, H2, I2, ru.append rz, p2 _ H2 w2 (Go.refl _ _) t2 ((rs.mono g2.ext).ts.append r2)⟩
    rcases hs with hs | hs
    · exact star_tup I1 hs.sq fun us s' I' ru => go us s' I' ru
    · exact star_lst I1 hs fun us s' I' ru => go us s' I' ru
theorem disp_cases {α : Type} {ds : List D} {a : M α} {b : M α} {s : SS} : (ds.all pureB = true ∧ ds.length ≤ LIM ∧ (if (ds.all pureB && decide (ds.length ≤ LIM)) = true then a else b) s = a s) ∨ (if (ds.all pureB && decide (ds.length ≤ LIM)) = true then a else b) s = b s := by
  by_cases h : (ds.all pureB && decide (ds.length ≤ LIM)) = true
  · rw [if_pos h]
    rw [Bool.and_eq_true, decide_eq_true_eq] at h
    exact .inl ⟨h.1, h.2, rfl⟩
  · rw [if_neg h]; exact .inr rfl
theorem pd_tup {es : List Expr} {k : Nat} {pos : Pos} {ms : Env' → M (List D)} (h : PA X es (tA X.K xc W ms)) : PE X (.Tuple es k pos) (tE X.K xc W fun env => tupM (ms env)) :=
  pimp (pe_tup h) fun σ H Q ⟨w, env, s, rel, p⟩ => by
    refine ⟨w, env, s, rel, (Post.bindA p).imp fun vs H1 ⟨w1, ds, s1, g, t, r, p1⟩ => ?_⟩
    rcases disp_cases (ds := ds) (a := M.ret (D.tup ds)) (b := M.stk) (s := s1) with ⟨h1, h2, e⟩ | e
    · rw [e] at p1
      exact ⟨by rw [r.length]; exact lim_line h2, fun q hq => tup_new hq (r.pure h1) (Post.new p1 t)⟩
    · rw [e] at p1; exact p1.elim
theorem pd_lst {es : List Expr} {pos : Pos} {ms : Env' → M (List D)} (h : PA X es (tA X.K xc W ms)) : PE X (.List es pos) (tE X.K xc W fun env => lstM (ms env)) :=
  pimp (pfrz (pe_lst h)) fun σ H Q ⟨w, env, s, rel, p⟩ => by
    refine ⟨w, env, s, rel, (Post.bindA p).imp fun vs H1 ⟨w1, ds, s1, g, t, r, p1⟩ => ?_⟩
    rcases disp_cases (ds := ds) (a := M.ret (D.lst ds)) (b := M.stk) (s := s1) with ⟨h1, h2, e⟩ | e
    · rw [e] at p1
      exact ⟨by rw [r.length]; exact lim_line h2, fun q hq => fr_new hq (r.pure h1) (Post.new p1 t)⟩
    · rw [e] at p1; exact p1.elim
end
end PI

set_option maxHeartbeats 1000000
/-! PI, part g: items, slices. -/
namespace PI
open PySem L2
section
variable {X : Cx} {xc : XC} {W : WX}
theorem atI_reps {K : PySem.W.Frag} {H : Hp} {vs : List V} {ds : List D} {i : Int} {d : D} (r : Reps K H vs ds) (e : atI ds i = some d) : ∃ v, atI vs i = some v ∧ Rep K H v d := by
  unfold atI at e ⊢
  rw [r.length]
  cases q : ixN ds.length i with
  | none => rw [q] at e; cases e
  | some j =>
    rw [q] at e
    obtain ⟨v, h1, h2⟩ := r.get (show ds[j]? = some d from e)
    exact ⟨v, h1, h2⟩
/-- o[i] by data -/
theorem ix_ok (hu : X.A.units + 1 < cLine) : IxR X fun x y H Q => ∃ dx dy d, RepR X.K H x dx ∧ RepR X.K H y dy ∧ ixD dx dy = some d ∧ ∀ v H', Same H H' → Rep X.K H' v d → Q v H' := by
  intro value slice pins s σ H x y v u Q I rx ry h hs
  obtain ⟨dx, dy, d, hx, hy, e, q⟩ := h
  unfold ixD at e
  split at e
  · rename_i xs i
    cases hx with
    | tup h1 r1 =>
    cases hy
    obtain ⟨z, e1, r2⟩ := atI_reps r1 e
    exact ix_tup value slice pins s σ H _ _ v u Q I rx ry ⟨_, _, i, z, rfl, rfl, h1.sq, e1, q _ _ (Same.refl H) r2⟩ hs
  · rename_i xs i
    obtain ⟨a, vs, rfl, h1, r1⟩ := hx
    cases hy
    obtain ⟨z, e1, r2⟩ := atI_reps r1 e
    exact ix_list value slice pins s σ H _ _ v u Q I rx ry ⟨_, _, i, z, rfl, rfl, .inl h1, e1, q _ _ (Same.refl H) r2⟩ hs
  · rename_i z i
    split at e
    · rename_i hl
      cases hx; cases hy
      cases e1 : atI z.cps.toList i with
      | none => rw [e1] at e; cases e
      | some c =>
        rw [e1] at e; cases e
        exact ix_str value slice pins s σ H _ _ v u Q I rx ry ⟨z, i, c, rfl, rfl, lim_line hl, e1, q _ _ (Same.refl H) (.str _)⟩ hs
    · cases e
  · exact ix_dict hu value slice pins s σ H x y v u Q I rx ry ⟨_, _, d, hx, hy, e, q⟩ hs
  · cases e
theorem pd_ix {a b : Expr} {pos : Pos} {ma mb : Env' → M D} (hu : X.A.units + 1 < cLine) (hs : PlainIx b) (ha : PE X a (tE X.K xc W ma)) (hb : PE X b (tE X.K xc W mb)) :
    PE X (.Subscript a b pos) (tE X.K xc W fun env => ma env >>= fun x => mb env >>= fun y => op2 ixD x y) :=
  pimp (pe_ix (ix_ok hu) ha hb hs) fun σ H Q ⟨w, env, s, rel, p⟩ => by
    refine (tE_of rel p).imp2 fun v H1 ⟨w1, d, s1, g, rel1, r, p1⟩ => ?_
    refine (tE_of rel1 p1).imp2 fun u H2 ⟨w2, d2, s2, g2, rel2, r2, p2⟩ => ?_
    exact op2_read rel2.st (r.mono g2) r2 p2
theorem slfrz {r : V → Option Int → Option Int → Hp → VK → Prop} (h : SlR X r) : SlR X fun x lo hi H Q => r x lo hi H (FrQ Q) := by
  intro pins s σ H x v vl vu lo hi sl Q I rx hs pl pu q
  obtain ⟨T, id, h1, h2, h3⟩ := h pins s σ H x v vl vu lo hi sl _ I rx hs pl pu q
  exact ⟨T, id, h1, h2, thn h3 fun _ _ z => efrz z⟩
theorem cut_reps {K : PySem.W.Frag} {H : Hp} {vs : List V} {ds : List D} (r : Reps K H vs ds) (lo hi : Option Int) : Reps K H (cutV vs lo hi) (cutL ds lo hi) := by
  unfold cutV cutL
  rw [r.length]
  exact (r.drop _).take _
theorem cut_whole {K : PySem.W.Frag} {H : Hp} {vs : List V} {ds : List D} (r : Reps K H vs ds) {lo hi : Option Int} (h : HT.sIx vs.length 0 lo = 0 ∧ HT.sIx vs.length vs.length hi = vs.length) : cutL ds lo hi = ds := by
  unfold cutL
  rw [r.length] at h
  rw [h.1, h.2]
  simp
theorem sl_ok : SlR X fun x lo hi H Q => ∃ dx d, RepR X.K H x dx ∧ cutD dx lo hi = some d ∧ ∀ v H', Same H H' → Rep X.K H' v d → Q v H' := by
  intro pins s σ H x v vl vu lo hi sl Q I rx hs pl pu h
  obtain ⟨dx, d, hx, e, q⟩ := h
  unfold cutD at e
  split at e
  · cases hx with
    | tup h1 r1 =>
    cases e
    refine sl_tupA pins s σ H _ v vl vu _ _ sl Q I rx hs pl pu ⟨_, _, rfl, h1.sq, fun hw => ?_, fun _ p hp => tup_new hp (cut_reps r1 _ _) q⟩
    rw [cut_whole r1 hw] at q
    exact q _ _ (Same.refl H) (.tup h1 r1)
  · obtain ⟨a, vs, rfl, h1, r1⟩ := hx
    cases e
    exact slfrz sl_list pins s σ H _ v vl vu _ _ sl Q I rx hs pl pu ⟨_, _, rfl, .inl h1, fun p hp => fr_new hp (cut_reps r1 _ _) q⟩
  · split at e
    · rename_i hl
      cases hx; cases e
      exact sl_str pins s σ H _ v vl vu _ _ sl Q I rx hs pl pu ⟨_, rfl, lim_line hl, q _ _ (Same.refl H) (.str _)⟩
    · cases e
  · cases e
/-! ### a slice's bounds -/
def PostO (K : PySem.W.Frag) (xc : XC) (W : WX) (σ : L2.St) (w : Wd) (H : Hp) (Q : Option Int → Hp → Prop) : R (Option Int) → Prop
  | .ok o s' => ∀ H' w', Go w H w' H' → Sto K w' s' H' → Q o H'
  | .exc c f s' => ∀ x v H' w', Go w H w' H' → Sto K w' s' H' → H' x = some (.xd [(xc.fld c, v)]) → Rep K H' v f → W (.ref (xc.cls c)) (some x) σ H'
  | .stuck => False
def tPo (K : PySem.W.Frag) (xc : XC) (W : WX) (m : Env' → M (Option Int)) : TO := fun σ H Q => ∃ w env s, Rel K w env s σ H ∧ PostO K xc W σ w H Q (m env s)
theorem poimp {e : Option Expr} {t t' : TO} (h : PO X e t) (hi : ∀ σ H Q, t' σ H Q → t σ H Q) : PO X e t' :=
  ⟨fun pins s σ H Q I q => h.run pins s σ H Q I (hi σ H Q q)⟩
theorem pdo_none : PO X none (tPo X.K xc W fun _ => M.ret none) :=
  poimp po_none fun σ H Q ⟨w, env, s, rel, p⟩ => p H w (Go.refl w H) rel.st
theorem pdo_some {e : Expr} {m : Env' → M D} (h : PE X e (tE X.K xc W m)) : PO X (some e) (tPo X.K xc W fun env => intM (m env)) :=
  poimp (po_some h) fun σ H Q ⟨w, env, s, rel, p⟩ => by
    refine ⟨w, env, s, rel, ?_⟩
    replace p : PostO X.K xc W σ w H Q (M.bnd (m env) _ s) := p
    unfold M.bnd at p
    cases q : m env s with
    | ok d s' =>
      rw [q] at p
      intro v H' w' g t r
      cases d with
      | int i => cases r; exact ⟨i, rfl, p H' w' g t⟩
      | _ => exact p.elim
    | exc c f s' => rw [q] at p; exact p
    | stuck => rw [q] at p; exact p
/-- from a bound on -/
theorem Post.bindO {K : PySem.W.Frag} {σ : L2.St} {w : Wd} {H : Hp} {Q : VK} {x : M (Option Int)} {f : Option Int → M D} {s : SS} (h : Post K xc W σ w H Q ((x >>= f) s)) :
    PostO K xc W σ w H (fun o H1 => ∃ w1 s1, Go w H w1 H1 ∧ Sto K w1 s1 H1 ∧ Post K xc W σ w1 H1 Q (f o s1)) (x s) := by
  rw [M_bind] at h
  unfold M.bnd at h
  cases q : x s with
  | ok d s' =>
    rw [q] at h
    intro H' w' g t
    exact ⟨w', s', g, t, h.mono g⟩
  | exc c f' s' => rw [q] at h; exact h
  | stuck => rw [q] at h; exact h
theorem sl_read {K : PySem.W.Frag} {σ : L2.St} {H : Hp} {Q : VK} {f : D → Option Int → Option Int → Option D} {ma : Env' → M D} {ml mh : Env' → M (Option Int)} (h : tE K xc W (fun env => sliceM f (ma env) (ml env) (mh env)) σ H Q) :
    tSl (fun x lo hi H Q => ∃ dx d, RepR K H x dx ∧ f dx lo hi = some d ∧ ∀ v H', Same H H' → Rep K H' v d → Q v H') (tE K xc W ma) (tPo K xc W ml) (tPo K xc W mh) σ H Q := by
  obtain ⟨w, env, s, rel, p⟩ := h
  refine (tE_of rel p).imp2 fun v H1 ⟨w1, d, s1, g, rel1, r, p1⟩ => ?_
  have b1 := Post.bindO p1
  have im : ∀ {Q Q' : Option Int → Hp → Prop} {w H r}, (∀ o H', Q o H' → Q' o H') → PostO K xc W σ w H Q r → PostO K xc W σ w H Q' r := fun {Q Q' w H r} hq h => by
    cases r with
    | ok o s' => exact fun H' w' g t => hq _ _ (h H' w' g t)
    | exc c f s' => exact h
    | stuck => exact h
  refine ⟨w1, env, s1, rel1, im (fun lo H2 ⟨w2, s2, g2, t2, p2⟩ => ?_) b1⟩
  refine ⟨w2, env, s2, rel1.go g2 t2, im (fun hi H3 ⟨w3, s3, g3, t3, p3⟩ => ?_) (Post.bindO p2)⟩
  have r3 := ((r.mono g2).mono g3).rd t3
  cases e : f (vw s3 d) lo hi with
  | none => simp only [e] at p3; exact p3.elim
  | some z => simp only [e] at p3; exact ⟨_, z, r3, e, Post.new p3 t3⟩
theorem pd_sl {a : Expr} {lo hi : Option Expr} {pos p2 : Pos} {ma : Env' → M D} {ml mh : Env' → M (Option Int)} (ha : PE X a (tE X.K xc W ma)) (hl : PO X lo (tPo X.K xc W ml)) (hh : PO X hi (tPo X.K xc W mh)) :
    PE X (.Subscript a (.Slice lo hi none p2) pos) (tE X.K xc W fun env => sliceM cutD (ma env) (ml env) (mh env)) :=
  pimp (pe_slice sl_ok ha hl hh) fun σ H Q h => sl_read h

/-! ### backwards -/
theorem back_applied {prog : Program} {w : World} {A : Around} {E : Value → Shared → Prop} {s : Shared} {sl : Addr} {vl vu vs : Value} {lo hi : Option Int} {n : Nat} {Q : Int × Int × Nat → Shared → Prop}
    (hs : s.heap.IsSliceOf sl vl vu vs) (pl : IsPart vl lo) (pu : IsPart vu hi) (ps : IsPart vs (some (-1)))
    (h : Q ((Builtin.Slice.sliceAdjust lo hi (-1) (n : Int)).1, -1, Builtin.Slice.slicePlaces (Builtin.Slice.sliceAdjust lo hi (-1) (n : Int)).1 (Builtin.Slice.sliceAdjust lo hi (-1) (n : Int)).2 (-1)) s) :
    wpAny (model prog w) A (Builtin.Slice.sliceApplied (.ref sl) (pure (n : Int))) Q E s := by
  obtain ⟨os, hos, hcs, hds⟩ := id hs
  unfold Builtin.Slice.sliceApplied Builtin.Slice.sliceFields
  refine wpAny_bind (wpAny_bind (wpAny_field hos hds (x := vl) rfl (wpAny_bind (wpAny_field hos hds (x := vu) rfl (wpAny_bind (wpAny_field hos hds (x := vs) rfl (wpAny_pure ?_)))))))
  refine wpAny_bind (HT.slicePart_ ps ?_)
  show wpAny _ _ (if ((-1 : Int) == 0) = true then _ else _) _ _ s
  rw [if_neg (by decide)]
  refine wpAny_bind (HT.slicePart_ pl (wpAny_bind (HT.slicePart_ pu (wpAny_bind (wpAny_pure ?_)))))
  exact wpAny_pure h
theorem tup_back {prog : Program} {w : World} {A : Around} {E : Value → Shared → Prop} {s : Shared} {t sl : Addr} {items : Array Value} {vl vu vs : Value} {lo hi : Option Int} {Q : Value → Shared → Prop}
    (ht : PyProof.Rows.IsTup s.heap t items) (hs : s.heap.IsSliceOf sl vl vu vs) (pl : IsPart vl lo) (pu : IsPart vu hi) (ps : IsPart vs (some (-1)))
    (h : Q (.ref s.heap.objs.size) { s with heap := s.heap.push { cls := .type "tuple", data := .seq (backL items.toList lo hi).toArray } })
    (hsz : (backL items.toList lo hi).length ≤ sizeLine) : wpAny (model prog w) A (getItem (.ref t) (.ref sl)) Q E s := by
  obtain ⟨os, hos, hcs, hds⟩ := id hs
  have hTs : s.TypeIs (.ref sl) "slice" := ⟨os, hos, hcs⟩
  unfold getItem
  try with_reducible refine wpAny_holding ?_
  first | refine wpAny_bind (wpAny_pure ?_) | skip
  refine wpAny_bind (wpAny_sequenceKey ht.typeIs (by decide) ?_)
  refine wpAny_bind (wpAny_callSpecial?_slot (name := Str.ofString "__getitem__") ht.typeIs PyProof.Rows.slot_tuple_getitem
    (wpAny_call_entry PyProof.Rows.slot_tuple_getitem ht.typeIs PyProof.Rows.entry_tuple_getitem ?_ (PyProof.Rows.args_tuple_getitem _ _)))
  show wpAny _ _ (Builtin.Tuple.tupleItemsOf (.ref t) >>= _) _ _ s
  refine wpAny_bind (PyProof.Rows.tupleItemsOf_ ht ?_)
  refine wpAny_bind (wpAny_typeOf hTs ?_)
  rw [if_pos (by decide)]
  refine wpAny_bind (back_applied hs pl pu ps ?_)
  have hno : ¬ ((((Builtin.Slice.sliceAdjust lo hi (-1) (items.size : Int)).1 == 0 && (-1 : Int) == 1) && Builtin.Slice.slicePlaces (Builtin.Slice.sliceAdjust lo hi (-1) (items.size : Int)).1 (Builtin.Slice.sliceAdjust lo hi (-1) (items.size : Int)).2 (-1) == items.size) = true) := by
    intro q
    rw [Bool.and_eq_true, Bool.and_eq_true] at q
    exact absurd q.1.2 (by decide)
  show wpAny _ _ (if ((((Builtin.Slice.sliceAdjust lo hi (-1) (items.size : Int)).1 == 0 && (-1 : Int) == 1) && Builtin.Slice.slicePlaces (Builtin.Slice.sliceAdjust lo hi (-1) (items.size : Int)).1 (Builtin.Slice.sliceAdjust lo hi (-1) (items.size : Int)).2 (-1) == items.size) = true) then _ else _) _ _ s
  rw [if_neg hno]
  have e : ((List.range (Builtin.Slice.slicePlaces (Builtin.Slice.sliceAdjust lo hi (-1) (items.size : Int)).1 (Builtin.Slice.sliceAdjust lo hi (-1) (items.size : Int)).2 (-1))).filterMap fun (k : Nat) => items[((Builtin.Slice.sliceAdjust lo hi (-1) (items.size : Int)).1 + (k : Int) * (-1)).toNat]?).toArray = (backL items.toList lo hi).toArray := by
    unfold backL
    simp
  rw [e]
  have hok : sizeOk (.seq (backL items.toList lo hi).toArray) := by
    show (backL items.toList lo hi).toArray.size ≤ sizeLine
    rw [List.size_toArray]; exact hsz
  first
    | exact wpAny_bind (m := Builtin.Tuple.tupleExact _) (wpAny_newObj_type (wpAny_pure ⟨_, rfl, wpAny_pure h⟩) hok)
    | exact wpAny_bind (m := Builtin.Tuple.tupleExact _) (wpAny_newObj_type (wpAny_bind (wpAny_pure (wpAny_pure ⟨_, rfl, wpAny_pure h⟩))) hok)
    | exact wpAny_bind (wpAny_bind (m := Builtin.Tuple.tupleExact _) (wpAny_newObj_type (wpAny_pure (wpAny_pure ⟨_, rfl, wpAny_pure h⟩)) hok))
    | exact wpAny_bind (wpAny_bind (m := Builtin.Tuple.tupleExact _) (wpAny_newObj_type (wpAny_pure ⟨_, rfl, wpAny_pure h⟩) hok))
theorem back_reps {K : PySem.W.Frag} {H : Hp} {vs : List V} {ds : List D} (r : Reps K H vs ds) (lo hi : Option Int) : Reps K H (backL vs lo hi) (backL ds lo hi) := by
  unfold backL
  rw [r.length]
  dsimp only
  generalize (Builtin.Slice.sliceAdjust lo hi (-1) (ds.length : Int)).1 = b
  generalize List.range _ = l
  induction l with
  | nil => exact .nil
  | cons k l ih =>
    rw [List.filterMap_cons, List.filterMap_cons]
    cases e : ds[(b + (k : Int) * (-1)).toNat]? with
    | none =>
      have e2 : vs[(b + (k : Int) * (-1)).toNat]? = none := by
        rw [List.getElem?_eq_none_iff] at e ⊢
        rw [r.length]; exact e
      rw [e2]; exact ih
    | some d =>
      obtain ⟨v, e2, r2⟩ := r.get e
      rw [e2]; exact .cons r2 ih
theorem back_vals {xs : List V} {us : List Value} (r : Vals xs us) (lo hi : Option Int) : Vals (backL xs lo hi) (backL us lo hi) := by
  unfold backL
  rw [r.length]
  dsimp only
  generalize (Builtin.Slice.sliceAdjust lo hi (-1) (us.length : Int)).1 = b
  generalize List.range _ = l
  induction l with
  | nil => exact .nil
  | cons k l ih =>
    rw [List.filterMap_cons, List.filterMap_cons]
    cases e : xs[(b + (k : Int) * (-1)).toNat]? with
    | none => rw [r.none_of e]; exact ih
    | some d =>
      obtain ⟨v, e2, r2⟩ := r.get e
      rw [e2]; exact .cons r2 ih
theorem backL_len {α : Type} (xs : List α) (lo hi : Option Int) : (backL xs lo hi).length ≤ xs.length := by
  unfold backL
  refine Nat.le_trans (List.length_filterMap_le _ _) ?_
  rw [List.length_range]
  unfold Builtin.Slice.slicePlaces Builtin.Slice.sliceAdjust
  simp only [show ((-1 : Int) < 0) from by omega, if_true, show ¬ ((-1 : Int) > 0) from by omega, if_false, Int.neg_neg, Int.ediv_one]
  cases lo <;> cases hi <;> dsimp only <;> (repeat' split) <;> omega
theorem pd_back {a : Expr} {lo hi : Option Expr} {k : Nat} {p1 p2 p3 pos : Pos} {ma : Env' → M D} {ml mh : Env' → M (Option Int)} (ha : PE X a (tE X.K xc W ma)) (hl : PO X lo (tPo X.K xc W ml)) (hh : PO X hi (tPo X.K xc W mh)) :
    PE X (.Subscript a (.Slice lo hi (some (.UnaryOp .USub (.Constant (.int 1) k p1) p2)) p3) pos) (tE X.K xc W fun env => sliceM backD (ma env) (ml env) (mh env)) := by
  refine ⟨fun pins s σ H Q I h => ?_⟩
  have h2 := sl_read h
  refine PyProof.Rows.Subscript_ (thn (ha.run pins s σ H _ I h2) fun v s1 ⟨x, H1, I1, r1, q1⟩ => ?_)
  have hst : PO X (some (.UnaryOp .USub (.Constant (.int 1) k p1) p2)) (tPart (tUn (rU fun i => .int (-i)) (tC (.int 1)))) := po_some (pe_un un_neg pe_int)
  refine wpAny_Slice (thn (hl.run pins s1 σ H1 _ I1 q1) fun vl s2 ⟨l, H2, I2, pl, q2⟩ => ?_)
  refine thn (hh.run pins s2 σ H2 _ I2 q2) fun vu s3 ⟨u, H3, I3, pu, q3⟩ => ?_
  refine thn (hst.run pins s3 σ H3 (fun o H4 => o = some (-1) ∧ H4 = H3) I3 ⟨1, rfl, -1, rfl, rfl, rfl⟩) fun vs s4 ⟨o, H4, I4, ps, eo, e4⟩ => ?_
  subst eo e4
  have I5 : Inv X pins σ H4 { s4 with heap := s4.heap.push { cls := .type "slice", data := .fields #[vl, vu, vs] } } := I4.kept (t' := s4.toks) fun b ob q => Heap.get?_push_of_some _ q
  obtain ⟨dx, d, hx, e, q⟩ := q3
  unfold backD at e
  split at e
  · rename_i xs
    cases hx with
    | @tup ad vs' _ h1 rs =>
    cases e
    cases r1
    obtain ⟨its, rv, ht, hz⟩ := I5.tuple h1.sq
    show wpAny (model X.prog X.w) X.A (PyProof.Rows.subscriptTail a (.Slice lo hi (some (.UnaryOp .USub (.Constant (.int 1) k p1) p2)) p3) (.ref ad) (.ref s4.heap.objs.size)) (EP X pins σ Q) X.xe _
    refine PyProof.Rows.tail_any (ops := [.ref ad, .ref s4.heap.objs.size]) ht.typeIs (PyProof.Rows.slot_tuple_getitem.lookup) ?_ (by with_unfolding_all rfl)
    have hlen := rv.length
    have hb := backL_len its l u
    refine tup_back ht (Heap.IsSliceOf.new _ vl vu vs) pl pu ps ?_ (by simp only; omega)
    refine ⟨.ref _, _, I5.laid (t' := s4.toks) (o := .tup (backL vs' l u)) (fun b ob q => Heap.get?_push_of_some _ q) (Nat.le_refl _) ?_, rfl, tup_new (I5.hok.fresh (Nat.le_refl _)) (back_reps rs l u) q⟩
    refine ⟨Nat.le_trans (backL_len vs' l u) hz, _, back_vals rv l u, PyProof.Rows.IsTup.new _ _⟩
  · rename_i xs
    obtain ⟨ad, vs', rfl, h1, rs⟩ := hx
    cases e
    cases r1
    have hq : SqL X.K H4 ad vs' := .inl h1
    obtain ⟨its, r, ht, hz⟩ := I5.list hq
    have hlen := r.length
    show wpAny (model X.prog X.w) X.A (PyProof.Rows.subscriptTail a (.Slice lo hi (some (.UnaryOp .USub (.Constant (.int 1) k p1) p2)) p3) (.ref ad) (.ref s4.heap.objs.size)) (EP X pins σ Q) X.xe _
    refine PyProof.Rows.tail_any (ops := [.ref ad, .ref s4.heap.objs.size]) ht.isList.typeIs (PySem.slot_list_getitem.lookup) ?_ (by with_unfolding_all rfl)
    refine wpAny_getItem_list_slice ht.isList (Heap.IsSliceOf.new _ vl vu vs) pl pu ps (by decide) ?_ (by rw [List.size_toArray]; omega)
    rw [PySem.W.krv_pick]
    refine efrz ⟨.ref _, _, I5.laid (t' := s4.toks) (o := .lst vs'.reverse) (fun b ob q => Heap.get?_push_of_some _ q) (Nat.le_refl _) ?_, rfl, fr_new (I5.hok.fresh (Nat.le_refl _)) rs.reverse q⟩
    exact ⟨by rw [List.length_reverse]; exact hz, _, 0, r.reverse, Heap.get?_push_size _ rfl⟩
  · cases e
end
end PI

set_option maxHeartbeats 1000000
/-! PI, part h: built-in functions. -/
namespace PI
open PySem L2
inductive RepRs (K : PySem.W.Frag) (H : Hp) : List V → List D → Prop
  | nil : RepRs K H [] []
  | cons {v : V} {vs : List V} {d : D} {ds : List D} : RepR K H v d → RepRs K H vs ds → RepRs K H (v :: vs) (d :: ds)
theorem RepTs.rd {K : PySem.W.Frag} {w : Wd} {s : SS} {H : Hp} (t : Sto K w s H) : ∀ {vs : List V} {ds : List D}, RepTs K w H vs ds → RepRs K H vs (ds.map (vw s))
  | _, _, .nil => .nil
  | _, _, .cons h r => .cons (h.rd t) (RepTs.rd t r)
section
variable {X : Cx} {xc : XC} {W : WX}
def CallP (X : Cx) (f : Value) (g : List D → Option D) : Prop :=
  CallR X f fun xs H Q => ∃ ds d, RepRs X.K H xs ds ∧ g ds = some d ∧ ∀ v H', Same H H' → Rep X.K H' v d → Q v H'
theorem pda_consN {e : Expr} {es : List Expr} {m : Env' → M D} {ms : Env' → M (List D)} (he : PE X e (tE X.K xc W m)) (hes : PA X es (tA X.K xc W ms))
    (hs : starEach (e :: es) X.env = (false, eval e X.env) :: starEach es X.env) : PA X (e :: es) (tA X.K xc W fun env => consN (m env) (ms env)) :=
  paimp (pa_cons he hes hs) fun σ H Q ⟨w, env, s, rel, p⟩ => by
    refine ⟨w, env, s, rel, (PostA.bind p).imp fun v H1 ⟨w1, d, s1, g, t, r, p1⟩ => ?_⟩
    refine ⟨w1, env, s1, rel.go g t, (PostA.bindA p1).imp fun vs H3 ⟨w3, ds, s3, g3, t3, r3, p3⟩ => ?_⟩
    exact p3 _ H3 w3 (Go.refl _ _) t3 (.cons (r.mono g3) r3)
theorem bi_read {K : PySem.W.Frag} {σ : L2.St} {H : Hp} {Q : VK} {f : List D → Option D} {ms : Env' → M (List D)} (h : tE K xc W (fun env => biM f (ms env)) σ H Q) :
    tCB (fun xs H Q => ∃ ds d, RepRs K H xs ds ∧ f ds = some d ∧ ∀ v H', Same H H' → Rep K H' v d → Q v H') (tA K xc W ms) σ H Q := by
  obtain ⟨w, env, s, rel, p⟩ := h
  refine ⟨w, env, s, rel, (Post.bindA p).imp fun vs H1 ⟨w1, ds, s1, g, t, r, p1⟩ => ?_⟩
  cases e : f (ds.map (vw s1)) with
  | none => simp only [e] at p1; exact p1.elim
  | some d => simp only [e] at p1; exact ⟨_, d, r.rd t, e, Post.new p1 t⟩
theorem pd_bi {x : Str} {id : String} {p pos : Pos} {e : Expr} {es : List Expr} {f : List D → Option D} {ms : Env' → M (List D)} (hc : CallP X (.builtin id) f) (hg : Gl X x) (hm : X.mg x = none) (hv : bootBuiltins x = some (.builtin id))
    (ha : PA X (e :: es) (tA X.K xc W ms)) (hn : x ≠ "__name__") (hdb : (x == ("__debug__" : Str)) = false) (he : starEach (e :: es) X.env = (false, eval e X.env) :: starEach es X.env) (hpl : (backTo pos (starEach es X.env)).any (·.1) = false) :
    PE X (.Call (.Name x p) (e :: es) [] pos) (tE X.K xc W fun env => biM f (ms env)) :=
  pimp (pe_callB hc hg hm hv ha hn hdb he hpl) fun σ H Q h => bi_read h
theorem pd_biT {x : Str} {id : String} {p pos : Pos} {e : Expr} {es : List Expr} {f : List D → Option D} {ms : Env' → M (List D)} (hc : CallP X (.type id) f) (hg : Gl X x) (hm : X.mg x = none) (hv : bootBuiltins x = some (.type id))
    (ha : PA X (e :: es) (tA X.K xc W ms)) (hn : x ≠ "__name__") (hdb : (x == ("__debug__" : Str)) = false) (he : starEach (e :: es) X.env = (false, eval e X.env) :: starEach es X.env) (hpl : (backTo pos (starEach es X.env)).any (·.1) = false) :
    PE X (.Call (.Name x p) (e :: es) [] pos) (tE X.K xc W fun env => biM f (ms env)) :=
  pimp (pe_callTy hc hg hm hv ha hn hdb he hpl) fun σ H Q h => bi_read h

theorem reps1 {K : PySem.W.Frag} {H : Hp} {xs : List V} {d : D} (r : RepRs K H xs [d]) : ∃ x, xs = [x] ∧ RepR K H x d := by
  cases r with
  | cons h r => cases r; exact ⟨_, rfl, h⟩
theorem reps2 {K : PySem.W.Frag} {H : Hp} {xs : List V} {d e : D} (r : RepRs K H xs [d, e]) : ∃ x y, xs = [x, y] ∧ RepR K H x d ∧ RepR K H y e := by
  cases r with
  | cons h r => cases r with
    | cons h2 r => cases r; exact ⟨_, _, rfl, h, h2⟩
theorem len_ok : CallP X (.builtin "len") lenD := by
  intro pins s σ H xs us Q I r h
  obtain ⟨ds, d, rs, e, q⟩ := h
  unfold lenD at e
  split at e
  · obtain ⟨x, rfl, hx⟩ := reps1 rs
    cases hx with
    | tup h1 r1 =>
    cases e
    refine call_len pins s σ H _ us Q I r ⟨_, _, rfl, .inr ⟨_, h1.sq, rfl⟩, ?_⟩
    rw [r1.length]; exact q _ _ (Same.refl H) (.int _)
  · obtain ⟨x, rfl, a, vs, rfl, h1, r1⟩ := reps1 rs
    cases e
    refine call_len pins s σ H _ us Q I r ⟨_, _, rfl, .inl ⟨_, .inl h1, rfl⟩, ?_⟩
    rw [r1.length]; exact q _ _ (Same.refl H) (.int _)
  · split at e
    · rename_i hl
      obtain ⟨x, rfl, hx⟩ := reps1 rs
      cases hx; cases e
      exact call_len pins s σ H _ us Q I r ⟨_, _, rfl, ⟨lim_line hl, rfl⟩, q _ _ (Same.refl H) (.int _)⟩
    · cases e
  · cases e
theorem bools_reps {K : PySem.W.Frag} {H : Hp} : ∀ {vs : List V} {ds : List D} {bs : List Bool}, Reps K H vs ds → boolsD ds = some bs → vs = bs.map V.bl
  | _, _, _, .nil, e => by cases e; rfl
  | _, _, _, .cons (d := d) h r, e => by
    cases d <;> simp only [boolsD] at e <;> try cases e
    rename_i ds b
    cases e1 : boolsD ds with
    | none => rw [e1] at e; cases e
    | some l => rw [e1] at e; cases e; cases h; rw [bools_reps r e1]; rfl
theorem ints_reps {K : PySem.W.Frag} {H : Hp} : ∀ {vs : List V} {ds : List D} {bs : List Int}, Reps K H vs ds → intsD ds = some bs → vs = bs.map V.int
  | _, _, _, .nil, e => by cases e; rfl
  | _, _, _, .cons (d := d) h r, e => by
    cases d <;> simp only [intsD] at e <;> try cases e
    rename_i ds b
    cases e1 : intsD ds with
    | none => rw [e1] at e; cases e
    | some l => rw [e1] at e; cases e; cases h; rw [ints_reps r e1]; rfl
theorem all_ok (hc : X.calm = true) : CallP X (.builtin "all") allD := by
  intro pins s σ H xs us Q I r h
  obtain ⟨ds, d, rs, e, q⟩ := h
  unfold allD at e
  split at e
  · rename_i l
    obtain ⟨x, rfl, a, vs, rfl, h1, r1⟩ := reps1 rs
    cases e1 : boolsD l with
    | none => rw [e1] at e; cases e
    | some bs =>
      rw [e1] at e; cases e
      have ev := bools_reps r1 e1
      subst ev
      exact cr_all hc pins s σ H _ us Q I r ⟨a, bs, rfl, .inl h1, q _ _ (Same.refl H) (.bl _)⟩
  · cases e
theorem any_ok (hc : X.calm = true) : CallP X (.builtin "any") anyD := by
  intro pins s σ H xs us Q I r h
  obtain ⟨ds, d, rs, e, q⟩ := h
  unfold anyD at e
  split at e
  · rename_i l
    obtain ⟨x, rfl, a, vs, rfl, h1, r1⟩ := reps1 rs
    cases e1 : boolsD l with
    | none => rw [e1] at e; cases e
    | some bs =>
      rw [e1] at e; cases e
      have ev := bools_reps r1 e1
      subst ev
      exact cr_any hc pins s σ H _ us Q I r ⟨a, bs, rfl, .inl h1, q _ _ (Same.refl H) (.bl _)⟩
  · cases e
theorem int_ok : CallP X (.type "int") intD := by
  intro pins s σ H xs us Q I r h
  obtain ⟨ds, d, rs, e, q⟩ := h
  unfold intD at e
  split at e
  · obtain ⟨x, rfl, hx⟩ := reps1 rs
    cases hx; cases e
    exact call_int1 pins s σ H _ us Q I r (.inl ⟨_, rfl, q _ _ (Same.refl H) (.int _)⟩)
  · obtain ⟨x, rfl, hx⟩ := reps1 rs
    cases hx; cases e
    exact call_int1 pins s σ H _ us Q I r (.inr ⟨_, rfl, q _ _ (Same.refl H) (.int _)⟩)
  · cases e
theorem tuple_ok : CallP X (.type "tuple") tupleD := by
  intro pins s σ H xs us Q I r h
  obtain ⟨ds, d, rs, e, q⟩ := h
  unfold tupleD at e
  split at e
  · obtain ⟨x, rfl, hx⟩ := reps1 rs
    cases hx with
    | tup h1 r1 =>
    cases e
    exact call_tuple_of pins s σ H _ us Q I r ⟨_, _, rfl, .inr ⟨h1.sq, q _ _ (Same.refl H) (.tup h1 r1)⟩⟩
  · obtain ⟨x, rfl, a, vs, rfl, h1, r1⟩ := reps1 rs
    cases e
    exact call_tuple_of pins s σ H _ us Q I r ⟨_, _, rfl, .inl ⟨.inl h1, fun p hp => tup_new hp r1 q⟩⟩
  · cases e
theorem callfrz {f : Value} {r : List V → Hp → VK → Prop} (h : CallR X f r) : CallR X f fun xs H Q => r xs H (FrQ Q) := by
  intro pins s σ H xs us Q I rx q
  exact thn (h pins s σ H xs us _ I rx q) fun _ _ z => efrz z
theorem list_ok : CallP X (.type "list") listD := by
  intro pins s σ H xs us Q I r h
  obtain ⟨ds, d, rs, e, q⟩ := h
  unfold listD at e
  split at e
  · obtain ⟨x, rfl, hx⟩ := reps1 rs
    cases hx with
    | tup h1 r1 =>
    cases e
    exact callfrz call_list_of pins s σ H _ us Q I r ⟨_, _, rfl, .inr h1.sq, fun p hp => fr_new hp r1 q⟩
  · obtain ⟨x, rfl, a, vs, rfl, h1, r1⟩ := reps1 rs
    cases e
    exact callfrz call_list_of pins s σ H _ us Q I r ⟨_, _, rfl, .inl (.inl h1), fun p hp => fr_new hp r1 q⟩
  · cases e
theorem minI_spec : ∀ {ns : List Int}, 0 < ns.length → ∀ m, m ∈ ns → (∀ y, y ∈ ns → m ≤ y) → m = minI ns := by
  have key : ∀ ns : List Int, 0 < ns.length → minI ns ∈ ns ∧ ∀ y, y ∈ ns → minI ns ≤ y := by
    intro ns
    induction ns with
    | nil => intro h; cases h
    | cons a r ih =>
      intro _
      cases r with
      | nil => simp [minI]
      | cons b r =>
        obtain ⟨h1, h2⟩ := ih (by simp)
        have e : minI (a :: b :: r) = min a (minI (b :: r)) := rfl
        rw [e]
        constructor
        · by_cases h : a ≤ minI (b :: r)
          · rw [Int.min_eq_left h]; exact List.mem_cons_self
          · rw [Int.min_eq_right (by omega)]; exact List.mem_cons_of_mem _ h1
        · intro y hy
          rcases List.mem_cons.mp hy with rfl | hy
          · exact Int.min_le_left _ _
          · exact Int.le_trans (Int.min_le_right _ _) (h2 y hy)
  intro ns h m h1 h2
  obtain ⟨k1, k2⟩ := key ns h
  exact Int.le_antisymm (h2 _ k1) (k2 _ h1)
theorem maxI_spec : ∀ {ns : List Int}, 0 < ns.length → ∀ m, m ∈ ns → (∀ y, y ∈ ns → y ≤ m) → m = maxI ns := by
  have key : ∀ ns : List Int, 0 < ns.length → maxI ns ∈ ns ∧ ∀ y, y ∈ ns → y ≤ maxI ns := by
    intro ns
    induction ns with
    | nil => intro h; cases h
    | cons a r ih =>
      intro _
      cases r with
      | nil => simp [maxI]
      | cons b r =>
        obtain ⟨h1, h2⟩ := ih (by simp)
        have e : maxI (a :: b :: r) = max a (maxI (b :: r)) := rfl
        rw [e]
        constructor
        · by_cases h : maxI (b :: r) ≤ a
          · rw [Int.max_eq_left h]; exact List.mem_cons_self
          · rw [Int.max_eq_right (by omega)]; exact List.mem_cons_of_mem _ h1
        · intro y hy
          rcases List.mem_cons.mp hy with rfl | hy
          · exact Int.le_max_left _ _
          · exact Int.le_trans (h2 y hy) (Int.le_max_right _ _)
  intro ns h m h1 h2
  obtain ⟨k1, k2⟩ := key ns h
  exact Int.le_antisymm (k2 _ h1) (h2 _ k1)
theorem intsD_len : ∀ {ds : List D} {ns : List Int}, intsD ds = some ns → ns.length = ds.length
  | [], _, e => by cases e; rfl
  | d :: ds, _, e => by
    cases d <;> simp only [intsD] at e <;> try cases e
    cases e1 : intsD ds with
    | none => rw [e1] at e; cases e
    | some l => rw [e1] at e; cases e; simp [intsD_len e1]
/-- the lesser of two texts -/
def strItems (xs : Array (Str × Tok)) : Array Value := xs.map fun p => .str p.1 p.2
def strAt (xs : Array (Str × Tok)) (i : Nat) : Str := (xs[i]?.map (·.1)).getD ⟨#[]⟩
theorem strItems_at {xs : Array (Str × Tok)} {i : Nat} {v : Value} (h : (strItems xs)[i]? = some v) : ∃ t, v = .str (strAt xs i) t := by
  simp only [strItems, Array.getElem?_map, Option.map_eq_some_iff] at h
  obtain ⟨p, hp, rfl⟩ := h
  exact ⟨p.2, by simp [strAt, hp]⟩
theorem min_two_strs {prog : Program} {w : World} {A : Around} {E : Value → Shared → Prop} {s : Shared} {a b : Str} {t u : Tok} {Q : Value → Shared → Prop} (hh : A.handled = none)
    (h : ∀ h' tk, (∀ c o, s.heap.get? c = some o → h'.get? c = some o) → Q (if ltS b a = true then .str b u else .str a t) { s with heap := h', toks := tk }) :
    wpAny (model prog w) A (call (.builtin "min") [.str a t, .str b u]) Q E s := by
  have hT : (s.heap.push { cls := .type "tuple", data := .seq #[.str a t, .str b u] }).IsTuple s.heap.objs.size (strItems #[(a, t), (b, u)]) := ⟨_, Heap.get?_push_size _ rfl, rfl, 0, by simp [strItems]⟩
  refine call_min_two (wpAny_pyIter_tuple hT ?_)
  have hsz : (s.heap.push { cls := .type "tuple", data := .seq #[.str a t, .str b u] }).objs.size = s.heap.objs.size + 1 := Heap.size_push ..
  have hcmp : CmpOf prog w A.in1 .Lt (fun i v => (strItems #[(a, t), (b, u)])[i]? = some v) (fun i j => ltS (strAt #[(a, t), (b, u)] i) (strAt #[(a, t), (b, u)] j)) := fun i j vi vj s Q E hi hj h => by
    obtain ⟨t1, rfl⟩ := strItems_at hi
    obtain ⟨t2, rfl⟩ := strItems_at hj
    exact PyProof.Rows.lt_str h
  refine ⟨_, [_, s.heap.objs.size], [_], _, _, _, _, rfl, Walks.tuple (A := A.in1) hh _ s.heap.objs.size (by rw [hsz]; exact Nat.ne_of_lt (Nat.lt_succ_self _)) (strItems #[(a, t), (b, u)]),
    ⟨⟨_, Heap.get?_push_size _ rfl, rfl, rfl⟩, hT.push _⟩, fun c hc => ?_, by simp [strItems], hcmp, fun v h' tk hP hk => ?_⟩
  · show c < ((s.heap.push _).push _).objs.size
    rw [Heap.size_push, hsz]
    rcases List.mem_cons.mp hc with rfl | hc
    · rw [hsz]; exact Nat.lt_succ_self _
    · rcases List.mem_cons.mp hc with rfl | hc
      · exact Nat.lt_succ_of_lt (Nat.lt_succ_self _)
      · cases hc
  · have hold : ∀ c o, s.heap.get? c = some o → h'.get? c = some o := fun c o e => by
      refine hk c o (fun hm => ?_) (Heap.get?_push_of_some _ (Heap.get?_push_of_some _ e))
      rcases List.mem_cons.mp hm with e1 | hm
      · have := Heap.lt_size e; rw [e1, hsz] at this; exact Nat.lt_irrefl _ (Nat.lt_of_succ_lt this)
      · cases hm
    have := h h' tk hold
    have hv : v = if ltS b a = true then Value.str b u else Value.str a t := by
      have hP' : (strItems #[(a, t), (b, u)])[argBest (fun i j => ltS (strAt #[(a, t), (b, u)] i) (strAt #[(a, t), (b, u)] j)) 1]? = some v := by
        have hsz2 : (strItems #[(a, t), (b, u)]).size - 1 = 1 := by simp [strItems]
        rw [← hsz2]; exact hP
      by_cases hba : ltS b a = true
      · have e : argBest (fun i j => ltS (strAt #[(a, t), (b, u)] i) (strAt #[(a, t), (b, u)] j)) 1 = 1 := by simp [argBest, strAt, hba]
        rw [e] at hP'
        simpa [strItems, hba] using hP'.symm
      · have e : argBest (fun i j => ltS (strAt #[(a, t), (b, u)] i) (strAt #[(a, t), (b, u)] j)) 1 = 0 := by simp [argBest, strAt, hba]
        rw [e] at hP'
        simpa [strItems, hba] using hP'.symm
    rw [hv]; exact this
theorem call_min2S {X : Cx} (hc : X.calm = true) : CallR X (.builtin "min") (fun xs H Q => ∃ i j, xs = [.str i, .str j] ∧ Q (.str (if ltS j i = true then j else i)) H) := by
  intro pins s σ H xs us Q I r h
  obtain ⟨i, j, rfl, q⟩ := h
  obtain ⟨u, w', rfl, ⟨t, rfl⟩, ⟨t', rfl⟩⟩ := vals2 r
  refine min_two_strs (I.ok.hd hc) fun h' tk k => ⟨_, H, I.kept k, ?_, q⟩
  by_cases hj : ltS j i = true
  · rw [if_pos hj, if_pos hj]; exact ⟨_, rfl⟩
  · rw [if_neg hj, if_neg hj]; exact ⟨_, rfl⟩
theorem min_ok (hc : X.calm = true) : CallP X (.builtin "min") minD := by
  intro pins s σ H xs us Q I r h
  obtain ⟨ds, d, rs, e, q⟩ := h
  unfold minD at e
  split at e
  · obtain ⟨x, y, rfl, hx, hy⟩ := reps2 rs
    cases hx; cases hy; cases e
    exact call_min2 hc pins s σ H _ us Q I r ⟨_, _, rfl, q _ _ (Same.refl H) (.int _)⟩
  · obtain ⟨x, y, rfl, hx, hy⟩ := reps2 rs
    cases hx; cases hy; cases e
    exact call_min2S hc pins s σ H _ us Q I r ⟨_, _, rfl, q _ _ (Same.refl H) (.str _)⟩
  · rename_i z zs
    obtain ⟨x, rfl, a, vs, rfl, h1, r1⟩ := reps1 rs
    cases e1 : intsD (z :: zs) with
    | none => rw [e1] at e; cases e
    | some ns =>
      rw [e1] at e; cases e
      have ev := ints_reps r1 e1
      subst ev
      have hl := intsD_len e1
      have h0 : 0 < ns.length := by rw [hl]; simp
      refine cr_min hc pins s σ H _ us Q I r ⟨a, ns, rfl, .inl h1, h0, fun m k1 k2 => ?_⟩
      rw [minI_spec h0 m k1 k2]
      exact q _ _ (Same.refl H) (.int _)
  · cases e
theorem max_ok (hc : X.calm = true) : CallP X (.builtin "max") maxD := by
  intro pins s σ H xs us Q I r h
  obtain ⟨ds, d, rs, e, q⟩ := h
  unfold maxD at e
  split at e
  · obtain ⟨x, y, rfl, hx, hy⟩ := reps2 rs
    cases hx; cases hy; cases e
    exact call_max2 hc pins s σ H _ us Q I r ⟨_, _, rfl, q _ _ (Same.refl H) (.int _)⟩
  · rename_i z zs
    obtain ⟨x, rfl, a, vs, rfl, h1, r1⟩ := reps1 rs
    cases e1 : intsD (z :: zs) with
    | none => rw [e1] at e; cases e
    | some ns =>
      rw [e1] at e; cases e
      have ev := ints_reps r1 e1
      subst ev
      have hl := intsD_len e1
      have h0 : 0 < ns.length := by rw [hl]; simp
      refine cr_max hc pins s σ H _ us Q I r ⟨a, ns, rfl, .inl h1, h0, fun m k1 k2 => ?_⟩
      rw [maxI_spec h0 m k1 k2]
      exact q _ _ (Same.refl H) (.int _)
  · cases e

/-! ### isinstance -/
theorem ty_rep {K : PySem.W.Frag} {H : Hp} {v : V} {d : D} {a : String} (r : RepR K H v d) (e : tyName d = some a) : TyX K H v (.type a) := by
  unfold tyName at e
  split at e <;> try cases e
  · cases r; exact .base .non
  · cases r; exact .base (.bl _)
  · cases r; exact .base (.int _)
  · cases r; exact .base (.str _)
  · cases r with
    | tup h _ => exact .base (.tup h)
  · obtain ⟨p, vs, rfl, h | ⟨o, h⟩, _⟩ := r
    · exact .base (.lst h)
    · exact .base (.frz h)
  · cases r with
    | dct h _ =>
      obtain ⟨o, h, _⟩ := h.nil
      exact .fDict h
theorem kit_all : ∀ (d : D) (t : Ty) (a b : String), tyName d = some a → t.name = some b → kitB a b = some (subTy a b) := by
  have k : ∀ a ∈ ["NoneType", "bool", "int", "str", "tuple", "list", "dict"], ∀ b ∈ ["str", "int", "bool", "tuple", "list", "dict"], kitB a b = some (subTy a b) := by decide +kernel
  intro d t a b ha hb
  refine k a ?_ b ?_
  · unfold tyName at ha
    split at ha <;> cases ha <;> decide
  · cases t <;> simp only [Ty.name] at hb <;> cases hb <;> decide
theorem isi1_read {K : PySem.W.Frag} {σ : L2.St} {H : Hp} {Q : VK} {m : Env' → M D} {t : Ty} {b : String} (hb : t.name = some b) (h : tE K xc W (fun env => m env >>= fun x => op1 (isiD [t]) x) σ H Q) :
    tE K xc W m σ H fun x H1 => rIsi K [x, .ty b] H1 Q := by
  obtain ⟨w, env, s, rel, p⟩ := h
  refine (tE_of rel p).imp2 fun v H1 ⟨w1, d, s1, g, rel1, r, p1⟩ => ?_
  unfold op1 at p1
  have rr := r.rd rel1.st
  generalize vw s1 d = y at p1 rr
  unfold isiD at p1
  cases e : tyName y with
  | none => simp only [e] at p1; exact p1.elim
  | some a =>
    simp only [e, List.all_cons, List.all_nil, hb, List.any_cons, List.any_nil, Option.isSome_some, Bool.and_true, if_true, Bool.or_false] at p1
    exact ⟨v, .ty b, .type a, .type b, subTy a b, rfl, .ty b, ty_rep rr e, kit_ty (kit_all y t a b e hb), Post.new p1 rel1.st _ _ (Same.refl _) (.bl _)⟩
theorem pd_isi {a te : Expr} {p pos : Pos} {m : Env' → M D} {t : Ty} {b : String} (hg : Gl X "isinstance") (hm : X.mg "isinstance" = none) (hb : t.name = some b) (ha : PE X a (tE X.K xc W m)) (ht : PE X te (tC (.ty b)))
    (he : starEach [a, te] X.env = (false, eval a X.env) :: starEach [te] X.env) (he2 : starEach [te] X.env = [(false, eval te X.env)]) :
    PE X (.Call (.Name "isinstance" p) [a, te] [] pos) (tE X.K xc W fun env => m env >>= fun x => op1 (isiD [t]) x) := by
  have hp : (backTo pos (starEach [te] X.env)).any (·.1) = false := by rw [he2]; rfl
  refine pimp (pe_callB call_isi hg hm (by decide +kernel) (pa_cons ha (pa_cons ht pa_nil he2) he) (by decide) (by decide) he hp) fun σ H Q h => ?_
  exact (isi1_read hb h).imp2 fun v H1 q => q
/-- the types of a tuple of types -/
def tysOf : List Ty → List V
  | [] => []
  | t :: r => .ty (t.name.getD "") :: tysOf r
theorem kit_any {K : PySem.W.Frag} {d : D} {a : String} (e : tyName d = some a) : ∀ {ts : List Ty}, ts.all (fun t => t.name.isSome) = true →
    ∃ us, Paired ClsV (tysOf ts) us ∧ PySem.W.kitAny K (.type a) us = some (ts.any fun t => match t.name with | some b => subTy a b | none => false)
  | [], _ => ⟨[], .nil, rfl⟩
  | t :: ts, h => by
    rw [List.all_cons, Bool.and_eq_true] at h
    obtain ⟨b, hb⟩ := Option.isSome_iff_exists.mp h.1
    obtain ⟨us, h1, h2⟩ := kit_any e h.2
    refine ⟨.type b :: us, ?_, ?_⟩
    · unfold tysOf
      rw [hb]
      exact .cons (.ty b) h1
    · refine kitAny_cons (kit_ty (kit_all d t a b e hb)) (fun z => ?_) fun z => ?_
      · rw [h2, List.any_cons, hb]
        simp only [z, Bool.false_or]
      · rw [List.any_cons, hb]
        simp only [z, Bool.true_or]
theorem pd_isiT {a : Expr} {tes : List Expr} {k : Nat} {p pos pt : Pos} {m : Env' → M D} {ts : List Ty} (hg : Gl X "isinstance") (hm : X.mg "isinstance" = none) (ha : PE X a (tE X.K xc W m)) (ht : PA X tes (fun _ H Q => Q (tysOf ts) H))
    (hl : (tysOf ts).length ≤ sizeLine) (he : starEach [a, .Tuple tes k pt] X.env = (false, eval a X.env) :: starEach [.Tuple tes k pt] X.env) :
    PE X (.Call (.Name "isinstance" p) [a, .Tuple tes k pt] [] pos) (tE X.K xc W fun env => m env >>= fun x => op1 (isiD ts) x) := by
  have he2 : starEach [.Tuple tes k pt] X.env = [(false, eval (.Tuple tes k pt) X.env)] := rfl
  have hp : (backTo pos (starEach [.Tuple tes k pt] X.env)).any (·.1) = false := by rw [he2]; rfl
  refine pimp (pe_callB call_isiT hg hm (by decide +kernel) (pa_cons ha (pa_cons (pe_tup ht) pa_nil he2) he) (by decide) (by decide) he hp) fun σ H Q h => ?_
  obtain ⟨w, env, s, rel, pp⟩ := h
  refine (tE_of rel pp).imp2 fun v H1 ⟨w1, d, s1, g, rel1, r, p1⟩ => ?_
  refine ⟨hl, fun q hq => ?_⟩
  unfold op1 at p1
  have rr := r.rd rel1.st
  generalize vw s1 d = y at p1 rr
  unfold isiD at p1
  cases e : tyName y with
  | none => simp only [e] at p1; exact p1.elim
  | some a =>
    simp only [e] at p1
    by_cases hall : ts.all (fun t => t.name.isSome) = true
    · rw [if_pos hall] at p1
      have sm : Same H1 (upd H1 q (.tup (tysOf ts))) := snew hq
      obtain ⟨us, k1, k2⟩ := kit_any (K := X.K) e hall
      have ty : TyX X.K (upd H1 q (.tup (tysOf ts))) v (.type a) := by
        have rr2 : RepR X.K (upd H1 q (.tup (tysOf ts))) v y := by
          cases y with
          | lst ds =>
            obtain ⟨z, vs, rfl, h, hr⟩ := rr
            exact ⟨z, vs, rfl, h.imp (sm _ _) (fun ⟨o, h⟩ => ⟨o, sm _ _ h⟩), hr.mono (sext sm)⟩
          | own _ => trivial
          | drw => trivial
          | non => exact Rep.mono (sext sm) rr
          | bl _ => exact Rep.mono (sext sm) rr
          | int _ => exact Rep.mono (sext sm) rr
          | str _ => exact Rep.mono (sext sm) rr
          | tup _ => exact Rep.mono (sext sm) rr
          | dct _ _ => exact Rep.mono (sext sm) rr
          | obj _ _ _ => exact Rep.mono (sext sm) rr
          | exn _ _ _ _ => exact Rep.mono (sext sm) rr
        exact ty_rep rr2 e
      exact ⟨v, q, tysOf ts, .type a, us, _, rfl, upd_same, k1, ty, k2, Post.new p1 rel1.st _ _ sm (.bl _)⟩
    · rw [if_neg hall] at p1; exact p1.elim
end
end PI

set_option maxHeartbeats 1000000
/-! PI, part oa: dicts made. -/
namespace PI
open PySem L2
/-! ### data: a key stored -/
def putDk : List D → D → List D
  | [], x => [x]
  | k :: ks, x => if eqB k x then k :: ks else k :: putDk ks x
def putDv : List D → List D → D → D → List D
  | k :: ks, v :: vs, x, d => if eqB k x then d :: vs else v :: putDv ks vs x d
  | _, _, _, d => [d]
def mergeD : List D → List D → List (D × D) → List D × List D
  | ks, vs, [] => (ks, vs)
  | ks, vs, (x, d) :: r => mergeD (putDk ks x) (putDv ks vs x d) r
def pairsD : List D → Option (List (D × D))
  | [] => some []
  | .tup [k, v] :: r => (pairsD r).map ((k, v) :: ·)
  | _ => none
section
variable {κ : Type} [DecidableEq κ] {K : PySem.W.Frag} {H : Hp} {f : κ → D}
/-- one dict, told both ways -/
structure DRel (K : PySem.W.Frag) (H : Hp) (f : κ → D) (kvs : List (κ × V)) (ks vs : List D) : Prop where
  k : ks = kvs.map fun p => f p.1
  v : Reps K H (kvs.map (·.2)) vs
theorem repl_other {k : κ} {v : V} : ∀ {kvs : List (κ × V)}, valV kvs k = none → (kvs.map fun kv => if kv.1 = k then (kv.1, v) else kv) = kvs
  | [], _ => rfl
  | p :: kvs, h => by
    by_cases e : p.1 = k
    · rw [valV_pos e] at h; cases h
    · rw [valV_neg e] at h
      rw [List.map_cons, if_neg e, repl_other h]
theorem putK_cons {p : κ × V} {kvs : List (κ × V)} {k : κ} {v : V} (nd : ((p :: kvs).map (·.1)).Nodup) : putK (p :: kvs) k v = if p.1 = k then (p.1, v) :: kvs else p :: putK kvs k v := by
  unfold putK
  by_cases e : p.1 = k
  · have hn : valV kvs k = none := by
      rw [List.map_cons, List.nodup_cons] at nd
      cases h : valV kvs k with
      | none => rfl
      | some u =>
        exfalso
        have h1 : (kvs.any fun kv => decide (kv.1 = k)) = true := by rw [valV_any, h]; rfl
        obtain ⟨q, hq, hq2⟩ := List.any_eq_true.mp h1
        exact nd.1 (List.mem_map.mpr ⟨q, hq, (of_decide_eq_true hq2).trans e.symm⟩)
    rw [if_pos e, if_pos (by simp [e]), List.map_cons, if_pos e, repl_other hn]
  · rw [if_neg e]
    have h2 : ((p :: kvs).any fun kv => decide (kv.1 = k)) = kvs.any fun kv => decide (kv.1 = k) := by simp [e]
    rw [h2]
    split
    · rw [List.map_cons, if_neg e]
    · rfl
theorem DRel.put (hf : ∀ a b, eqB (f a) (f b) = decide (a = b)) {k : κ} {v : V} {d : D} (rv : Rep K H v d) : ∀ {kvs : List (κ × V)} {ks vs : List D}, (kvs.map (·.1)).Nodup → DRel K H f kvs ks vs → DRel K H f (putK kvs k v) (putDk ks (f k)) (putDv ks vs (f k) d)
  | [], _, _, _, ⟨rfl, .nil⟩ => ⟨rfl, .cons rv .nil⟩
  | p :: kvs, _, _, nd, ⟨rfl, r⟩ => by
    cases r with
    | cons h t =>
    rename_i d' vs'
    rw [putK_cons nd]
    show DRel K H f _ (if eqB (f p.1) (f k) then _ else _) (if eqB (f p.1) (f k) then _ else _)
    rw [hf]
    by_cases e : p.1 = k
    · rw [decide_eq_true e, if_pos e, if_pos rfl, if_pos rfl]
      exact ⟨rfl, .cons rv t⟩
    · rw [decide_eq_false e, if_neg e, if_neg (by decide), if_neg (by decide)]
      rw [List.map_cons, List.nodup_cons] at nd
      obtain ⟨z1, z2⟩ := DRel.put hf rv (kvs := kvs) nd.2 ⟨rfl, t⟩
      exact ⟨by rw [List.map_cons]; congr 1, .cons h z2⟩
theorem putK_nodup {kvs : List (κ × V)} {k : κ} {v : V} (nd : (kvs.map (·.1)).Nodup) : ((putK kvs k v).map (·.1)).Nodup := by
  unfold putK
  split
  · have e : ((kvs.map fun kv => if kv.1 = k then (kv.1, v) else kv).map (·.1)) = kvs.map (·.1) := by
      rw [List.map_map]
      refine List.map_congr_left fun p _ => ?_
      show (if p.1 = k then (p.1, v) else p).1 = p.1
      split <;> rfl
    rw [e]; exact nd
  · rename_i h
    rw [List.map_append, List.nodup_append]
    refine ⟨nd, by simp, fun a ha b hb => ?_⟩
    obtain ⟨q, hq, rfl⟩ := List.mem_map.mp ha
    have hb : b = k := by simpa using hb
    subst hb
    intro z
    exact h (List.any_eq_true.mpr ⟨q, hq, decide_eq_true z⟩)
theorem DRel.merge (hf : ∀ a b, eqB (f a) (f b) = decide (a = b)) : ∀ {more : List (κ × V)} {ds : List (D × D)} {kvs : List (κ × V)} {ks vs : List D}, (kvs.map (·.1)).Nodup → DRel K H f kvs ks vs → ds.map (·.1) = more.map (fun p => f p.1) → Reps K H (more.map (·.2)) (ds.map (·.2)) →
    DRel K H f (more.foldl (fun acc kv => putK acc kv.1 kv.2) kvs) (mergeD ks vs ds).1 (mergeD ks vs ds).2
  | [], [], _, _, _, _, h, _, _ => h
  | [], _ :: _, _, _, _, _, _, e, _ => by simp at e
  | _ :: _, [], _, _, _, _, _, e, _ => by simp at e
  | p :: more, (x, d) :: ds, kvs, ks, vs, nd, h, e, r => by
    rw [List.map_cons, List.map_cons] at e
    obtain ⟨e1, e2⟩ := List.cons.inj e
    cases r with
    | cons rh rt =>
    have e1 : x = f p.1 := e1
    subst e1
    show DRel K H f (more.foldl (fun acc kv => putK acc kv.1 kv.2) (putK kvs p.1 p.2)) (mergeD (putDk ks (f p.1)) (putDv ks vs (f p.1) d) ds).1 (mergeD (putDk ks (f p.1)) (putDv ks vs (f p.1) d) ds).2
    exact DRel.merge hf (kvs := putK kvs p.1 p.2) (putK_nodup nd) (DRel.put hf (k := p.1) rh nd h) e2 rt
end
/-! ### dict(pairs) -/
def keyAll (ps : List (D × D)) : Bool := ps.all fun p => keyB p.1
def tkeyAll (ps : List (D × D)) : Bool := !ps.isEmpty && ps.all fun p => tkeyB p.1
def mkDict (ps : List (D × D)) : Option D :=
  if (keyAll ps || tkeyAll ps) && decide (ps.length ≤ LIM) then some (.dct (mergeD [] [] ps).1 (mergeD [] [] ps).2) else none
/-- the pairs of a list of pairs, in the heap -/
theorem pairs_rep {K : PySem.W.Frag} {H : Hp} : ∀ {vs : List V} {ds : List D} {ps : List (D × D)}, Reps K H vs ds → pairsD ds = some ps →
    ∃ as : List (Addr × V × V), vs = as.map (fun a => V.ref a.1) ∧ as.length = ps.length ∧ (∀ a ∈ as, H a.1 = some (.tup [a.2.1, a.2.2])) ∧ Reps K H (as.map (·.2.1)) (ps.map (·.1)) ∧ Reps K H (as.map (·.2.2)) (ps.map (·.2))
  | _, [], _, .nil, e => by cases e; exact ⟨[], rfl, rfl, (fun _ h => nomatch h), .nil, .nil⟩
  | _, d :: ds, ps, .cons h r, e => by
    unfold pairsD at e
    split at e
    · rename_i e0; cases e0
    · rename_i k v r' e0
      cases e0
      cases h with
      | tup ht hr =>
      cases hr with
      | cons h1 hr =>
      cases hr with
      | cons h2 hr =>
      cases hr
      cases z : pairsD ds with
      | none => rw [z] at e; cases e
      | some q =>
        rw [z] at e
        cases e
        obtain ⟨as, e1, e2, e3, e4, e5⟩ := pairs_rep r z
        refine ⟨(_, _, _) :: as, by rw [e1]; rfl, by simp [e2], fun a ha => ?_, .cons h1 e4, .cons h2 e5⟩
        rcases List.mem_cons.mp ha with rfl | ha
        · exact ht
        · exact e3 a ha
    · cases e
/-! ### dict(pairs), keys that are tuples -/
section
variable {X : Cx}
abbrev Ent := Addr × List Key × Addr × V
/-- the entries' own values in the heap -/
theorem ents_of {pins : List (Addr × Obj)} {σ : L2.St} {H : Hp} {s : Shared} (I : Inv X pins σ H s) : ∀ {L : List Ent}, (∀ q ∈ L, H q.1 = some (.tup [.ref q.2.2.1, q.2.2.2])) →
    ∃ us : List Value, us.length = L.length ∧ ∀ (j : Nat) (q : Ent), L[j]? = some q → ∃ u, us[j]? = some u ∧ RelV q.2.2.2 u ∧ s.heap.IsTuple q.1 #[.ref q.2.2.1, u]
  | [], _ => ⟨[], rfl, fun j q e => by simp at e⟩
  | q :: L, h => by
    obtain ⟨us, hl, hu⟩ := ents_of I (L := L) fun z hz => h z (List.mem_cons_of_mem _ hz)
    obtain ⟨_, its, rv, ht⟩ := (show ObjOk X.prog X.w H s.heap q.1 (.tup [.ref q.2.2.1, q.2.2.2]) from I.hok _ _ (h q List.mem_cons_self))
    obtain ⟨u0, u, ei, r0, r1⟩ := vals2 rv
    subst ei
    cases (show u0 = Value.ref q.2.2.1 from r0)
    refine ⟨u :: us, by simp [hl], fun j p e => ?_⟩
    cases j with
    | zero =>
      cases (show q = p from Option.some.inj e)
      exact ⟨u, rfl, r1, ht⟩
    | succ j =>
      obtain ⟨u', e1, e2⟩ := hu j p (by simpa using e)
      exact ⟨u', by simpa using e1, e2⟩
theorem KT_fold {H : Hp} : ∀ {L : List (Ent × Value)} {kvs : List (List Key × V)} {xs : List (List Key × Addr × Value)}, KT H kvs xs → (∀ q ∈ L, H q.1.2.2.1 = some (.tup (q.1.2.1.map kV)) ∧ RelV q.1.2.2.2 q.2) →
    KT H ((L.map fun q => (q.1.2.1, q.1.2.2.2)).foldl (fun acc kv => putK acc kv.1 kv.2) kvs) ((L.map fun q => (q.1.2.1, q.1.2.2.1, q.2)).foldl (fun acc p => storedH acc p.1 p.2.1 p.2.2) xs)
  | [], _, _, h, _ => h
  | q :: L, kvs, xs, h, hq => by
    obtain ⟨h1, h2⟩ := hq q List.mem_cons_self
    exact KT_fold (L := L) (h.put q.1.2.1 h1 h2) fun z hz => hq z (List.mem_cons_of_mem _ hz)
theorem call_dictT (hcalm : X.calm = true) (hu : X.A.units + 65 < cLine) : CallR X (.type "dict") (fun xs H Q => ∃ (a : Addr) (L : List Ent), xs = [.ref a] ∧ SqL X.K H a (L.map fun q => V.ref q.1) ∧ (∀ q ∈ L, H q.1 = some (.tup [.ref q.2.2.1, q.2.2.2]) ∧ H q.2.2.1 = some (.tup (q.2.1.map kV))) ∧
    ∀ p, H p = none → Q (.ref p) (upd H p (.dT ((L.map fun q => (q.2.1, q.2.2.2)).foldl (fun acc kv => putK acc kv.1 kv.2) [])))) := by
  intro pins s σ H xs us Q I r q
  obtain ⟨a, L, ex, hq, hL, q⟩ := q
  subst ex
  obtain ⟨u, eu, rx⟩ := vals1 r
  subst eu
  cases rx
  obtain ⟨its, rv, pl, hz⟩ := I.list hq
  have ei : its = (L.map (·.1)).map Value.ref := refs_at (by rw [List.map_map]; exact rv)
  subst ei
  rw [List.length_map] at hz
  obtain ⟨o, n, ho, hc, hd, hdat⟩ := pl
  obtain ⟨vs, hvl, hvs⟩ := ents_of I fun z hz => (hL z hz).1
  let ps : List (Value × Value) := (L.zip vs).map fun z => (.ref z.1.2.2.1, z.2)
  let es : List (List Key × Addr × Value) := (L.zip vs).map fun z => (z.1.2.1, z.1.2.2.1, z.2)
  have hps : ps.length = L.length := by simp [ps, hvl]
  let Ts : Nat → Addr := fun j => ((L[j]?).map (·.1)).getD 0
  have at_ : ∀ (j : Nat) (z : Ent × Value), (L.zip vs)[j]? = some z → L[j]? = some z.1 ∧ vs[j]? = some z.2 := fun j z e => by
    rw [List.getElem?_zip_eq_some] at e
    exact e
  have okS : PySem.PlainSeq "list" s.heap a ((L.map (·.1)).map Value.ref).toArray ∧ PySem.PairItems s.heap ((L.map (·.1)).map Value.ref).toArray Ts ps := by
    refine ⟨⟨o, n, ho, hc, hd, hdat⟩, by simp [hps], fun j k v e => ?_⟩
    have e' : ((L.zip vs).map fun z => (Value.ref z.1.2.2.1, z.2))[j]? = some (k, v) := e
    rw [List.getElem?_map, Option.map_eq_some_iff] at e'
    obtain ⟨z, hz1, hz2⟩ := e'
    cases hz2
    obtain ⟨h1, h2⟩ := at_ j z hz1
    obtain ⟨u, e1, _, e3⟩ := hvs j z.1 h1
    have eu : u = z.2 := by rw [h2] at e1; exact (Option.some.inj e1).symm
    subst eu
    have et : Ts j = z.1.1 := by show ((L[j]?).map (·.1)).getD 0 = _; rw [h1]; rfl
    refine ⟨?_, ?_⟩
    · rw [et]; simp [h1]
    · rw [et]; exact .inl e3
  have have_ : PySem.PairsHaveH (tupleKind (mixKind X.prog X.w)) ps.length (PySem.PairRel ps) es := by
    refine ⟨by simp [ps, es], fun j k v e => ?_⟩
    have e' : ((L.zip vs).map fun z => (Value.ref z.1.2.2.1, z.2))[j]? = some (k, v) := e
    rw [List.getElem?_map, Option.map_eq_some_iff] at e'
    obtain ⟨z, hz1, hz2⟩ := e'
    cases hz2
    exact ⟨z.1.2.1, z.1.2.2.1, by show ((L.zip vs).map _)[j]? = _; rw [List.getElem?_map, hz1]; rfl, rfl⟩
  have inL : ∀ z ∈ L.zip vs, z.1 ∈ L := fun z hz => (List.of_mem_zip (a := z.1) (b := z.2) hz).1
  have stay : PySem.KeysStay (tupleKind (mixKind X.prog X.w)) s.heap s.heap.objs.size [] es := by
    intro h' hk x hx
    obtain ⟨z, hz1, rfl⟩ := List.mem_map.mp hx
    obtain ⟨o1, i1, n1, k1, k2, k3, k4⟩ := key_of I.hok (hL z.1 (inL z hz1)).2
    exact ⟨o1, i1, n1, hk _ _ (Nat.ne_of_lt (Heap.lt_size k1)) (by simp) k1, k2, k3, k4⟩
  refine PySem.call_dict_pairsH (PySem.PairArg.list a ((L.map (·.1)).map Value.ref).toArray Ts ps) (I.ok.hd hcalm) ?_ okS have_ stay (by rw [hps]; exact hz) fun h' tk hd' hk => ?_
  · show X.A.units + 1 + 1 < cLine
    omega
  · have hm : (s.heap.objs.size == sysModules) = false := beq_eq_false_iff_ne.mpr (Nat.ne_of_gt I.big)
    have kt := KT_fold (H := H) (L := L.zip vs) (kvs := []) (xs := []) .nil fun z hz1 => ⟨(hL z.1 (inL z hz1)).2, by
      obtain ⟨j, hj⟩ := List.getElem?_of_mem hz1
      obtain ⟨h1, h2⟩ := at_ j z hj
      obtain ⟨u, e1, e2, _⟩ := hvs j z.1 h1
      rw [h2] at e1
      cases e1
      exact e2⟩
    have ek : ((L.zip vs).map fun q => (q.1.2.1, q.1.2.2.2)) = L.map fun q => (q.2.1, q.2.2.2) := by
      have : ((L.zip vs).map Prod.fst) = L := List.map_fst_zip (by omega)
      calc ((L.zip vs).map fun q => (q.1.2.1, q.1.2.2.2)) = ((L.zip vs).map Prod.fst).map (fun q => (q.2.1, q.2.2.2)) := by rw [List.map_map]; rfl
        _ = _ := by rw [this]
    rw [ek] at kt
    obtain ⟨q1, es1, ep1, hq1, h2, h3, h4, _, h5⟩ := hd'
    refine ⟨.ref s.heap.objs.size, upd H s.heap.objs.size (.dT _), I.laid (t' := tk) (fun b o e => hk b o (by simp) e) (Nat.le_refl _) ⟨?_, hm, _, kt.keeps fun c ys ec => ?_, q1, es1, ep1, hq1, h2, h3, h4, h5⟩, rfl, q _ (I.hok.fresh (Nat.le_refl _))⟩
    · rw [Paired.length kt]
      refine Nat.le_trans (PySem.storedAllH_length _ []) ?_
      rw [List.length_nil, Nat.zero_add, List.length_map, List.length_zip, hvl]
      omega
    · rw [upd_ne (ne_of_none ec (I.hok.fresh (Nat.le_refl _)))]
      exact ec
end
/-! ### dict(pairs), as data -/
section
variable {X : Cx}
/-- any changeable thing, frozen -/
def FrD (Q : VK) : VK := fun v H => ∃ a u, v = .ref a ∧ H a = some u ∧ Mut (some u) ∧ ∀ o, Q v (upd H a (.frz o u))
theorem efrD {pins : List (Addr × Obj)} {σ : L2.St} {Q : VK} {u : Value} {s : Shared} (h : EP X pins σ (FrD Q) u s) : EP X pins σ Q u s := by
  obtain ⟨v, H, I, r, a, x, e, hH, mu, q⟩ := h
  obtain ⟨o, I'⟩ := I.lock hH mu
  exact ⟨v, _, I', r, q o⟩
theorem callfrD {f : Value} {r : List V → Hp → VK → Prop} (h : CallR X f r) : CallR X f fun xs H Q => r xs H (FrD Q) := by
  intro pins s σ H xs us Q I rv q
  exact thn (h pins s σ H xs us _ I rv q) fun _ _ z => efrD z
theorem frD_new {K : PySem.W.Frag} {H : Hp} {p : Addr} {u : HO} {d : D} {Q : VK} (hp : H p = none) (mu : Mut (some u)) (r : ∀ o, Rep K (upd H p (.frz o u)) (.ref p) d)
    (q : ∀ v H', Same H H' → Rep K H' v d → Q v H') : FrD Q (.ref p) (upd H p u) := by
  refine ⟨p, u, rfl, upd_same, mu, fun o => ?_⟩
  rw [upd_upd]
  exact q _ _ (snew hp) (r o)
def dictD : List D → Option D
  | [.lst ds] => (pairsD ds).bind mkDict
  | [.dct ks vs] => if ks.all keyB then some (.dct ks vs) else none
  | _ => none
theorem keyAll_of {K : PySem.W.Frag} {H : Hp} : ∀ {as : List (Addr × V × V)} {ps : List (D × D)}, keyAll ps = true → Reps K H (as.map (·.2.1)) (ps.map (·.1)) → as.length = ps.length →
    ∃ kvs : List (Key × V), kvs.map (·.2) = as.map (·.2.2) ∧ kvs.map (fun p => kV p.1) = as.map (·.2.1) ∧ ps.map (·.1) = kvs.map fun p => keyD p.1
  | [], [], _, _, _ => ⟨[], rfl, rfl, rfl⟩
  | [], _ :: _, _, _, h => by cases h
  | _ :: _, [], _, _, h => by cases h
  | a :: as, p :: ps, h, r, hl => by
    have h' : (keyB p.1 && keyAll ps) = true := h
    obtain ⟨h1, h2⟩ := Bool.and_eq_true_iff.mp h'
    cases r with
    | cons r1 r2 =>
    obtain ⟨kvs, e1, e2, e3⟩ := keyAll_of h2 r2 (by simpa using hl)
    obtain ⟨k, ek⟩ := Option.isSome_iff_exists.mp (show (keyOf p.1).isSome = true from h1)
    refine ⟨(k, a.2.2) :: kvs, by rw [List.map_cons, List.map_cons, e1], ?_, ?_⟩
    · have z : a.2.1 = kV k := rep_key r1.rd ek
      rw [List.map_cons, List.map_cons, e2, z]
    · rw [List.map_cons, List.map_cons, e3, keyD_of ek]
theorem tkeyAll_of {K : PySem.W.Frag} {H : Hp} : ∀ {as : List (Addr × V × V)} {ps : List (D × D)}, (ps.all fun p => tkeyB p.1) = true → (∀ a ∈ as, H a.1 = some (.tup [a.2.1, a.2.2])) → Reps K H (as.map (·.2.1)) (ps.map (·.1)) → as.length = ps.length →
    ∃ L : List Ent, L.map (fun q => V.ref q.1) = as.map (fun a => V.ref a.1) ∧ L.map (·.2.2.2) = as.map (·.2.2) ∧ (∀ q ∈ L, H q.1 = some (.tup [.ref q.2.2.1, q.2.2.2]) ∧ H q.2.2.1 = some (.tup (q.2.1.map kV))) ∧ ps.map (·.1) = L.map fun q => .tup (q.2.1.map keyD)
  | [], [], _, _, _, _ => ⟨[], rfl, rfl, (fun _ h => nomatch h), rfl⟩
  | [], _ :: _, _, _, _, h => by cases h
  | _ :: _, [], _, _, _, h => by cases h
  | a :: as, p :: ps, h, ha, r, hl => by
    rw [List.all_cons] at h
    obtain ⟨h1, h2⟩ := Bool.and_eq_true_iff.mp h
    cases r with
    | cons r1 r2 =>
    obtain ⟨L, e1, e2, e3, e4⟩ := tkeyAll_of h2 (fun z hz => ha z (List.mem_cons_of_mem _ hz)) r2 (by simpa using hl)
    obtain ⟨p1, p2⟩ := p
    cases p1 with
    | tup ds =>
      obtain ⟨k, ek⟩ := Option.isSome_iff_exists.mp (show (keysOf ds).isSome = true from h1)
      obtain ⟨b, eb, hb⟩ := rep_tkey r1.rd ek
      refine ⟨(a.1, k, b, a.2.2) :: L, by rw [List.map_cons, List.map_cons, e1], by rw [List.map_cons, List.map_cons, e2], fun q hq => ?_, ?_⟩
      · rcases List.mem_cons.mp hq with rfl | hq
        · have z := ha a List.mem_cons_self
          have eb : a.2.1 = V.ref b := eb
          rw [eb] at z
          exact ⟨z, hb⟩
        · exact e3 q hq
      · rw [List.map_cons, List.map_cons, e4, keysD_of ek]
    | _ => cases h1
theorem fold_ne {κ : Type} [DecidableEq κ] : ∀ {more kvs : List (κ × V)}, kvs ≠ [] → more.foldl (fun acc kv => putK acc kv.1 kv.2) kvs ≠ []
  | [], _, h => h
  | p :: more, kvs, h => by
    refine fold_ne (more := more) ?_
    show putK kvs p.1 p.2 ≠ []
    unfold putK
    split
    · intro z; exact h (List.map_eq_nil_iff.mp z)
    · simp
theorem dict_ok (hcalm : X.calm = true) (hu : X.A.units + 65 < cLine) : CallP X (.type "dict") dictD := by
  intro pins s σ H xs us Q I r h
  obtain ⟨ds, d, rs, e, q⟩ := h
  unfold dictD at e
  split at e
  · rename_i ds
    obtain ⟨x, rfl, a, vs, rfl, h1, r1⟩ := reps1 rs
    obtain ⟨ps, hp, e⟩ := Option.bind_eq_some_iff.mp e
    obtain ⟨as, e1, e2, e3, e4, e5⟩ := pairs_rep r1 hp
    unfold mkDict at e
    split at e
    · rename_i hc
      rw [Bool.and_eq_true] at hc
      cases e
      by_cases hk : keyAll ps = true
      · obtain ⟨kvs, k1, k2, k3⟩ := keyAll_of hk e4 e2
        refine callfrD (call_dictP hcalm) pins s σ H _ us Q I r ⟨a, as.map (·.1), kvs, rfl, ?_, ?_, fun p hp => ?_⟩
        · have z : (as.map (·.1)).map V.ref = vs := by rw [e1, List.map_map]; rfl
          rw [z]; exact .inl h1
        · have pr : ∀ {as : List (Addr × V × V)} {kvs : List (Key × V)}, kvs.map (·.2) = as.map (·.2.2) → kvs.map (fun p => kV p.1) = as.map (·.2.1) → (∀ a ∈ as, H a.1 = some (.tup [a.2.1, a.2.2])) → Paired (fun p kv => SqT X.K H p [kV kv.1, kv.2]) (as.map (·.1)) kvs := by
            intro as
            induction as with
            | nil => intro kvs a1 _ _; have : kvs = [] := List.map_eq_nil_iff.mp a1; subst this; exact .nil
            | cons b as ih =>
              intro kvs a1 a2 a3
              cases kvs with
              | nil => simp at a1
              | cons kv kvs =>
                rw [List.map_cons, List.map_cons] at a1 a2
                obtain ⟨b1, b2⟩ := List.cons.inj a1
                obtain ⟨c1, c2⟩ := List.cons.inj a2
                refine .cons ?_ (ih b2 c2 fun z hz => a3 z (List.mem_cons_of_mem _ hz))
                have z := a3 b List.mem_cons_self
                rw [← b1, ← c1] at z
                exact .inl (.inl z)
          exact pr k1 k2 e3
        · have dr := DRel.merge (K := X.K) (H := H) (f := keyD) eq_keyD (more := kvs) (ds := ps) (kvs := []) (ks := []) (vs := []) List.nodup_nil ⟨rfl, .nil⟩ k3 (by rw [k1]; exact e5)
          refine frD_new hp trivial (fun o => ?_) q
          refine .dct (.inl ⟨o, _, upd_same, dr.k, rfl⟩) (dr.v.mono (sext (snew hp)))
      · have ht : tkeyAll ps = true := by
          have := hc.1
          rw [Bool.or_eq_true] at this
          exact this.resolve_left hk
        unfold tkeyAll at ht
        rw [Bool.and_eq_true] at ht
        obtain ⟨L, l1, l2, l3, l4⟩ := tkeyAll_of ht.2 e3 e4 e2
        refine callfrD (call_dictT hcalm hu) pins s σ H _ us Q I r ⟨a, L, rfl, ?_, l3, fun p hp => ?_⟩
        · rw [l1, ← e1]; exact .inl h1
        · have dr := DRel.merge (K := X.K) (H := H) (f := fun k : List Key => D.tup (k.map keyD)) eq_keysD (more := L.map fun q => (q.2.1, q.2.2.2)) (ds := ps) (kvs := []) (ks := []) (vs := []) List.nodup_nil ⟨rfl, .nil⟩ (by rw [List.map_map]; exact l4) (by rw [List.map_map, show ((fun x : List Key × V => x.2) ∘ fun q : Ent => (q.2.1, q.2.2.2)) = (·.2.2.2) from rfl, l2]; exact e5)
          refine frD_new hp trivial (fun o => ?_) q
          refine .dct (.inr ⟨o, _, upd_same, ?_, dr.k, rfl⟩) (dr.v.mono (sext (snew hp)))
          cases L with
          | nil =>
            have : ps = [] := List.map_eq_nil_iff.mp l4
            rw [this] at ht
            exact absurd ht.1 (by decide)
          | cons z L =>
            show (L.map fun q => (q.2.1, q.2.2.2)).foldl (fun acc kv => putK acc kv.1 kv.2) (putK [] z.2.1 z.2.2.2) ≠ []
            exact fold_ne (by simp [putK])
    · cases e
  · rename_i ks vs
    split at e
    · rename_i hk
      cases e
      obtain ⟨x, rfl, hx⟩ := reps1 rs
      cases hx with
      | dct h rr =>
      rcases h with ⟨o, kvs, e1, e2, e3⟩ | ⟨o, kvs, e1, hne, e2, e3⟩
      · refine callfrD (fun pins s σ H xs us Q I r ⟨a, kvs, ex, hr, q⟩ => by
          subst ex
          obtain ⟨u, eu, rx⟩ := vals1 r
          subst eu
          cases rx
          exact d_copyOf I hr fun p s' hp I' => ⟨.ref p, _, I', rfl, q p hp⟩ : CallR X (.type "dict") fun xs H Q => ∃ (a : Addr) (kvs : List (Key × V)), xs = [.ref a] ∧ Rd H a (.dK kvs) ∧ ∀ p, H p = none → Q (.ref p) (upd H p (.dK kvs))) pins s σ H _ us Q I r ⟨_, kvs, rfl, .inr ⟨o, e1⟩, fun p hp => ?_⟩
        refine frD_new hp trivial (fun o => ?_) q
        refine .dct (.inl ⟨o, kvs, upd_same, e2, e3⟩) (rr.mono (sext (snew hp)))
      · exfalso
        cases kvs with
        | nil => exact hne rfl
        | cons p kvs => rw [e2] at hk; rw [List.map_cons, List.all_cons, keyB_tup] at hk; exact absurd hk (by simp)
    · cases e
  · cases e
end
end PI

set_option maxHeartbeats 1000000
/-! PI, part ob: dict(zip(a, b)). -/
namespace PySem
section
variable {prog : Program} {w : World} {A : Around} {E : Value → Shared → Prop} {s : Shared} {z TI TO T i1 i2 : Addr} {f : Bool} {oT : Obj} {fp1 fp2 : List Addr} {n1 n2 i : Nat} {P1 P2 : Nat → Value → Prop} {St1 St2 : Nat → Heap → Prop}
theorem piZipItemHeld {Q : Value → Shared → Prop} (S : ZipSep2 z TI TO i1 i2 fp1 fp2) (D1 : Draws prog w A i1 fp1 n1 P1 St1) (D2 : Draws prog w A i2 fp2 n2 P2 St2)
    (hz : IsZipHeld s.heap z TI TO T f) (hT : s.heap.get? T = some oT) (hTI : IsTupOf2 s.heap TI (.ref i1) (.ref i2)) (st1 : St1 i s.heap) (st2 : St2 i s.heap) (hlt1 : i < n1) (hlt2 : i < n2)
    (hQ : ∀ x1 x2 h' tk, P1 i x1 → P2 i x2 → IsZipHeld h' z TI TO T true → St1 (i + 1) h' → St2 (i + 1) h' → IsTupOf2 h' s.heap.objs.size x1 x2 → h'.objs.size = s.heap.objs.size + 1 →
      (∀ c o, c ≠ z → c ≠ i1 → c ≠ i2 → s.heap.get? c = some o → h'.get? c = some o) → Q (.ref s.heap.objs.size) { s with heap := h', toks := tk }) :
    wpAny (model prog w) A (Builtin.«zip.__next__» ⟨[.ref z], []⟩) (fun fin s' => ∃ v, fin = .done (.ret v) ∧ Q v s') E s := by
  obtain ⟨hp, g, d, tk0, os⟩ := s
  show wpAny _ _ (field (.ref z) 2 >>= _) _ _ _
  refine wpAny_bind (wpAny_field hz rfl (x := .bool false) rfl ?_)
  show wpAny _ _ (field (.ref z) 3 >>= _) _ _ _
  refine wpAny_bind (wpAny_field hz rfl (x := .ref TI) rfl ?_)
  refine wpAny_bind (wpAny_seqItems hTI rfl ?_)
  show wpAny _ _ (Builtin.SmallTypes.ownedTupleIsFree (.ref z) >>= _) _ _ _
  refine wpAny_bind (wpAny_tupleHeld_zip hz hT fun h₁ hz₁ hs₁ => ?_)
  simp only [Bool.false_eq_true, if_false]
  refine wpAny_bind ?_
  rw [← Array.forIn_toList]
  simp only [List.forIn_cons, List.forIn_nil]
  refine wpAny_bind (wpAny_bind (wpAny_holding ?_))
  show wpAny _ _ (Builtin.SmallTypes.nextOf (.ref i1) >>= _) _ _ ⟨h₁, g, d, tk0, os⟩
  refine wpAny_bind (D1.item i _ _ _ hlt1 (D1.over st1 hs₁ S.zf1) fun x1 h₂ tk1 hx1 sn1 hs₂ => wpAny_pure ?_)
  refine wpAny_pure ?_
  refine wpAny_bind (wpAny_bind (wpAny_holding ?_))
  show wpAny _ _ (Builtin.SmallTypes.nextOf (.ref i2) >>= _) _ _ ⟨h₂, g, d, tk1, os⟩
  refine wpAny_bind (D2.item i _ _ _ hlt2 (D2.over (D2.over st2 hs₁ S.zf2) hs₂ S.sep1_2) fun x2 h₃ tk2 hx2 sn2 hs₃ => wpAny_pure ?_)
  refine wpAny_pure (wpAny_pure ?_)
  show wpAny _ _ (newTuple [x1, x2] >>= _) _ _ _
  refine wpAny_bind (wpAny_newTuple ?_)
  replace hs₁ : Heap.SameBut z hp h₁ := hs₁
  replace hs₂ : Heap.SameBut i1 h₁ h₂ := hs₂
  replace hs₃ : Heap.SameBut i2 h₂ h₃ := hs₃
  have hsz : h₃.objs.size = hp.objs.size := by rw [hs₃.1, hs₂.1, hs₁.1]
  have hz₃ : IsZipHeld h₃ z TI TO T true := hs₃.extBut _ _ S.zi2 (hs₂.extBut _ _ S.zi1 hz₁)
  have hk : ∀ c o, c ≠ z → c ≠ i1 → c ≠ i2 → hp.get? c = some o → h₃.get? c = some o := fun c o c1 c2 c3 e => hs₃.extBut _ _ c3 (hs₂.extBut _ _ c2 (hs₁.extBut _ _ c1 e))
  have h1₃ : St1 (i + 1) h₃ := D1.over sn1 hs₃ S.sep2_1
  refine wpAny_pure ⟨_, rfl, ?_⟩
  show Q (.ref h₃.objs.size) _
  have hq : IsTupOf2 (h₃.push { cls := .type "tuple", data := .seq #[x1, x2] }) h₃.objs.size x1 x2 := Heap.get?_push_size _ rfl
  have hz4 : (h₃.push { cls := .type "tuple", data := .seq #[x1, x2] }).objs.size = h₃.objs.size + 1 := Heap.size_push ..
  rw [hsz] at hq hz4 ⊢
  exact hQ x1 x2 _ tk2 hx1 hx2 (Heap.get?_push_of_some _ hz₃) (D1.frame _ _ _ h1₃ fun b _ o e => Heap.get?_push_of_some _ e) (D2.frame _ _ _ sn2 fun b _ o e => Heap.get?_push_of_some _ e) hq hz4 fun c o c1 c2 c3 e => Heap.get?_push_of_some _ (hk c o c1 c2 c3 e)
theorem piZipEndHeld {Q : Fin → Shared → Prop} (S : ZipSep2 z TI TO i1 i2 fp1 fp2) (D1 : Draws prog w A i1 fp1 n1 P1 St1) (D2 : Draws prog w A i2 fp2 n2 P2 St2)
    (hz : IsZipHeld s.heap z TI TO T f) (hT : s.heap.get? T = some oT) (hTI : IsTupOf2 s.heap TI (.ref i1) (.ref i2)) (st1 : St1 i s.heap) (st2 : St2 i s.heap) (hle1 : i ≤ n1) (hle2 : i ≤ n2) (hend : i = n1 ∨ i = n2)
    (hE : ∀ h' tk e, (∀ c o, c ≠ z → c ≠ i1 → c ≠ i2 → s.heap.get? c = some o → h'.get? c = some o) → (∃ o, h'.get? e = some o ∧ o.cls = .type "StopIteration") → E (.ref e) { s with heap := h', toks := tk }) :
    wpAny (model prog w) A (Builtin.«zip.__next__» ⟨[.ref z], []⟩) Q E s := by
  obtain ⟨hp, g, d, tk0, os⟩ := s
  show wpAny _ _ (field (.ref z) 2 >>= _) _ _ _
  refine wpAny_bind (wpAny_field hz rfl (x := .bool false) rfl ?_)
  show wpAny _ _ (field (.ref z) 3 >>= _) _ _ _
  refine wpAny_bind (wpAny_field hz rfl (x := .ref TI) rfl ?_)
  refine wpAny_bind (wpAny_seqItems hTI rfl ?_)
  show wpAny _ _ (Builtin.SmallTypes.ownedTupleIsFree (.ref z) >>= _) _ _ _
  refine wpAny_bind (wpAny_tupleHeld_zip hz hT fun h₁ hz₁ hs₁ => ?_)
  simp only [Bool.false_eq_true, if_false]
  refine wpAny_bind ?_
  rw [← Array.forIn_toList]
  simp only [List.forIn_cons, List.forIn_nil]
  refine wpAny_bind (wpAny_bind (wpAny_holding ?_))
  show wpAny _ _ (Builtin.SmallTypes.nextOf (.ref i1) >>= _) _ _ ⟨h₁, g, d, tk0, os⟩
  replace hs₁ : Heap.SameBut z hp h₁ := hs₁
  by_cases hx : i = n1
  · subst hx
    refine wpAny_bind (D1.done _ _ _ (D1.over st1 hs₁ S.zf1) fun h₂ e hs₂ he => ?_)
    exact hE h₂ tk0 e (fun c o c1 c2 _ x => hs₂ _ _ c2 (hs₁.extBut _ _ c1 x)) he
  · have hy : i = n2 := hend.resolve_left hx
    refine wpAny_bind (D1.item i _ _ _ (by omega) (D1.over st1 hs₁ S.zf1) fun x1 h₂ tk1 hx1 sn1 hs₂ => wpAny_pure ?_)
    replace hs₂ : Heap.SameBut i1 h₁ h₂ := hs₂
    refine wpAny_pure ?_
    refine wpAny_bind (wpAny_bind (wpAny_holding ?_))
    show wpAny _ _ (Builtin.SmallTypes.nextOf (.ref i2) >>= _) _ _ ⟨h₂, g, d, tk1, os⟩
    subst hy
    refine wpAny_bind (D2.done _ _ _ (D2.over (D2.over st2 hs₁ S.zf2) hs₂ S.sep1_2) fun h₃ e hs₃ he => ?_)
    exact hE h₃ tk1 e (fun c o c1 c2 c3 x => hs₃ _ _ c3 (hs₂.extBut _ _ c2 (hs₁.extBut _ _ c1 x))) he
end
section
variable {prog : Program} {w : World}
theorem piNextItemHeld {A : Around} {E : Value → Shared → Prop} {s : Shared} {z TI TO T i1 i2 : Addr} {f : Bool} {oT : Obj} {fp1 fp2 : List Addr} {n1 n2 i : Nat} {P1 P2 : Nat → Value → Prop} {St1 St2 : Nat → Heap → Prop} {Q : Option Value → Shared → Prop} (S : ZipSep2 z TI TO i1 i2 fp1 fp2) (D1 : Draws prog w A.in1 i1 fp1 n1 P1 St1) (D2 : Draws prog w A.in1 i2 fp2 n2 P2 St2)
    (hz : IsZipHeld s.heap z TI TO T f) (hT : s.heap.get? T = some oT) (hTI : IsTupOf2 s.heap TI (.ref i1) (.ref i2)) (st1 : St1 i s.heap) (st2 : St2 i s.heap) (hlt1 : i < n1) (hlt2 : i < n2)
    (hQ : ∀ x1 x2 h' tk, P1 i x1 → P2 i x2 → IsZipHeld h' z TI TO T true → St1 (i + 1) h' → St2 (i + 1) h' → IsTupOf2 h' s.heap.objs.size x1 x2 → h'.objs.size = s.heap.objs.size + 1 →
      (∀ c o, c ≠ z → c ≠ i1 → c ≠ i2 → s.heap.get? c = some o → h'.get? c = some o) → Q (some (.ref s.heap.objs.size)) { s with heap := h', toks := tk }) :
    wpAny (model prog w) A (pyNext (.ref z)) Q E s := by
  have hTy : s.TypeIs (.ref z) "zip" := ⟨_, hz, rfl⟩
  unfold pyNext
  exact wpAny_bind (wpAny_attempt (wpAny_callSpecial?_slot (name := Str.ofString "__next__") hTy F.slot_zip_next
    (wpAny_call_entry F.slot_zip_next hTy F.entry_zip_next
      (piZipItemHeld S D1 D2 hz hT hTI st1 st2 hlt1 hlt2 fun x1 x2 h' tk a1 a2 a3 a4 a5 a6 a7 a8 => wpAny_pure (hQ x1 x2 h' tk a1 a2 a3 a4 a5 a6 a7 a8)) (F.args_zip_next_1 _))))
theorem piNextEndHeld {A : Around} {E : Value → Shared → Prop} {s : Shared} {z TI TO T i1 i2 : Addr} {f : Bool} {oT : Obj} {fp1 fp2 : List Addr} {n1 n2 i : Nat} {P1 P2 : Nat → Value → Prop} {St1 St2 : Nat → Heap → Prop} {Q : Option Value → Shared → Prop} (S : ZipSep2 z TI TO i1 i2 fp1 fp2) (D1 : Draws prog w A.in1 i1 fp1 n1 P1 St1) (D2 : Draws prog w A.in1 i2 fp2 n2 P2 St2)
    (hz : IsZipHeld s.heap z TI TO T f) (hT : s.heap.get? T = some oT) (hTI : IsTupOf2 s.heap TI (.ref i1) (.ref i2)) (st1 : St1 i s.heap) (st2 : St2 i s.heap) (hle1 : i ≤ n1) (hle2 : i ≤ n2) (hend : i = n1 ∨ i = n2)
    (hQ : ∀ h' tk, (∀ c o, c ≠ z → c ≠ i1 → c ≠ i2 → s.heap.get? c = some o → h'.get? c = some o) → Q none { s with heap := h', toks := tk }) : wpAny (model prog w) A (pyNext (.ref z)) Q E s := by
  have hTy : s.TypeIs (.ref z) "zip" := ⟨_, hz, rfl⟩
  unfold pyNext
  refine wpAny_bind (wpAny_attempt (wpAny_callSpecial?_slot (name := Str.ofString "__next__") hTy F.slot_zip_next
    (wpAny_call_entry F.slot_zip_next hTy F.entry_zip_next (piZipEndHeld S D1 D2 hz hT hTI st1 st2 hle1 hle2 hend fun h' tk e hk he => ?_) (F.args_zip_next_1 _))))
  obtain ⟨o, ho, hc⟩ := he
  refine wpAny_bind (wpAny_isInstance (T := "StopIteration") (b := true) ⟨o, ho, hc⟩ isSubtype_stop ?_)
  exact wpAny_pure (hQ _ _ hk)
/-- zip over two iterators of any kind, as the argument of dict() -/
theorem PairArg.zipD {z TI TO i1 i2 : Addr} {fp1 fp2 : List Addr} {n1 n2 : Nat} {P1 P2 : Nat → Value → Prop} {St1 St2 : Nat → Heap → Prop} (S : ZipSep2 z TI TO i1 i2 fp1 fp2)
    (D1 : ∀ A : Around, A.handled = none → Draws prog w A i1 fp1 n1 P1 St1) (D2 : ∀ A : Around, A.handled = none → Draws prog w A i2 fp2 n2 P2 St2)
    (f1 : ∀ i h h', St1 i h → (∀ b ∈ fp1, ∀ o, h.get? b = some o → h'.get? b = some o) → St1 i h') (f2 : ∀ i h h', St2 i h → (∀ b ∈ fp2, ∀ o, h.get? b = some o → h'.get? b = some o) → St2 i h')
    (v1 : ∀ i h, St1 i h → ∀ b ∈ fp1, ∃ o, h.get? b = some o) (v2 : ∀ i h, St2 i h → ∀ b ∈ fp2, ∃ o, h.get? b = some o) :
    PairArg prog w "zip" z (z :: TI :: TO :: (fp1 ++ fp2)) [z, TO, i1, i2] (min n1 n2) (fun i k v => P1 i k ∧ P2 i v)
      (fun h => IsZip h z TI TO .none ∧ IsTupOf2 h TI (.ref i1) (.ref i2) ∧ (∃ a b, IsTupOf2 h TO a b) ∧ St1 0 h ∧ St2 0 h) where
  type := fun s ok => ⟨_, ok.1, rfl⟩
  notDict := by decide
  keep := fun h h' ok hk => by
    obtain ⟨hz, hTI, ⟨a, b, hTO⟩, h1, h2⟩ := ok
    exact ⟨hk _ _ hz, hk _ _ hTI, ⟨a, b, hk _ _ hTO⟩, f1 _ _ _ h1 fun b _ o e => hk b o e, f2 _ _ _ h2 fun b _ o e => hk b o e⟩
  there := fun h ok b hb => by
    obtain ⟨hz, hTI, ⟨a, c, hTO⟩, h1, h2⟩ := ok
    rcases List.mem_cons.mp hb with rfl | hb
    · exact ⟨_, hz⟩
    rcases List.mem_cons.mp hb with rfl | hb
    · exact ⟨_, hTI⟩
    rcases List.mem_cons.mp hb with rfl | hb
    · exact ⟨_, hTO⟩
    rcases List.mem_append.mp hb with hb | hb
    · exact v1 _ _ h1 b hb
    · exact v2 _ _ h2 b hb
  sub := fun b hb => by
    have hb' : b = z ∨ b = TO ∨ b = i1 ∨ b = i2 := by simpa using hb
    rcases hb' with rfl | rfl | rfl | rfl
    · exact List.mem_cons_self ..
    · exact List.mem_cons_of_mem _ (List.mem_cons_of_mem _ (List.mem_cons_self ..))
    · exact List.mem_cons_of_mem _ (List.mem_cons_of_mem _ (List.mem_cons_of_mem _ (List.mem_append_left _ S.mem1)))
    · exact List.mem_cons_of_mem _ (List.mem_cons_of_mem _ (List.mem_cons_of_mem _ (List.mem_append_right _ S.mem2)))
  noKeys := fun A s Q E hA ok h => getAttrOr_miss_zip ok.1 rfl rfl rfl zip_no_keys (by decide +kernel) hA h
  iter := fun A s d Q E hA ok hd hdf h => by
    obtain ⟨hz, hTI, ⟨a, b, hTO⟩, h1, h2⟩ := ok
    simp only [List.mem_cons, List.mem_append, not_or] at hdf
    obtain ⟨dz, dTI, dTO, d1, d2⟩ := hdf
    have D1' := D1 A.in1 hA
    have D2' := D2 A.in1 hA
    refine wpAny_pyIter_zip hz (h z [z, TO, i1, i2] (fun i h => IsTupOf2 h TI (.ref i1) (.ref i2) ∧ St1 i h ∧ St2 i h ∧
      ((IsZip h z TI TO .none ∧ ∃ a b, IsTupOf2 h TO a b) ∨ ∃ T f oT, IsZipHeld h z TI TO T f ∧ h.get? T = some oT ∧ T ≠ z ∧ T ≠ i1 ∧ T ≠ i2 ∧ T ≠ d)) s.heap s.toks ?_
      ⟨hTI, h1, h2, .inl ⟨hz, a, b, hTO⟩⟩ (fun _ _ e => e) fun b hb => .inl hb)
    have ne1 : d ≠ i1 := fun e => d1 (e ▸ S.mem1)
    have ne2 : d ≠ i2 := fun e => d2 (e ▸ S.mem2)
    exact {
      off := fun hm => by
        simp only [List.mem_cons, List.not_mem_nil, or_false] at hm
        rcases hm with e | e | e | e
        · exact dz e
        · exact dTO e
        · exact ne1 e
        · exact ne2 e
      frame := fun i h₁ h₂ st hk => by
        obtain ⟨hTI, h1, h2, hz⟩ := st
        refine ⟨hk _ _ (Ne.symm dTI) hTI, f1 _ _ _ h1 fun b hb o e => hk b o (fun q => d1 (q ▸ hb)) e, f2 _ _ _ h2 fun b hb o e => hk b o (fun q => d2 (q ▸ hb)) e, ?_⟩
        rcases hz with ⟨hz, a, b, hTO⟩ | ⟨T, f, oT, hz, hT, r1, r2, r3, r4⟩
        · exact .inl ⟨hk _ _ (Ne.symm dz) hz, a, b, hk _ _ (Ne.symm dTO) hTO⟩
        · exact .inr ⟨T, f, oT, hk _ _ (Ne.symm dz) hz, hk _ _ r4 hT, r1, r2, r3, r4⟩
      item := fun i s₁ Q₁ E₁ hi st hds hQ => by
        obtain ⟨hTI, h1, h2, hz⟩ := st
        have hi1 : i < n1 := by omega
        have hi2 : i < n2 := by omega
        have lt : ∀ {c o}, s₁.heap.get? c = some o → s₁.heap.objs.size ≠ c := fun e => Nat.ne_of_gt (Heap.lt_size e)
        have l1 : s₁.heap.objs.size ≠ i1 := by obtain ⟨_, e⟩ := v1 _ _ h1 _ S.mem1; exact lt e
        have l2 : s₁.heap.objs.size ≠ i2 := by obtain ⟨_, e⟩ := v2 _ _ h2 _ S.mem2; exact lt e
        rcases hz with ⟨hz, a, b, hTO⟩ | ⟨T, f, oT, hz, hT, r1, r2, r3, r4⟩
        · refine wpAny_pyNext_zipD2_item S D1' D2' hz hTI hTO h1 h2 hi1 hi2 fun x1 x2 h' tk y1 y2 b1 b2 e1 e2 b5 b6 hk => ?_
          exact hQ s₁.heap.objs.size x1 x2 h' tk ⟨y1, y2⟩ (.inl ⟨_, b5, rfl, _, rfl⟩)
            ⟨hk _ _ S.TIz S.TITO S.TIi1 S.TIi2 hTI, e1, e2, .inr ⟨s₁.heap.objs.size, false, _, b1, b5, lt hz, l1, l2, Nat.ne_of_gt hds⟩⟩
            fun c o hc e => hk c o (fun x => hc (by simp [x])) (fun x => hc (by simp [x])) (fun x => hc (by simp [x])) (fun x => hc (by simp [x])) e
        · refine piNextItemHeld S D1' D2' hz hT hTI h1 h2 hi1 hi2 fun x1 x2 h' tk y1 y2 b1 e1 e2 b5 b6 hk => ?_
          exact hQ s₁.heap.objs.size x1 x2 h' tk ⟨y1, y2⟩ (.inl ⟨_, b5, rfl, _, rfl⟩)
            ⟨hk _ _ S.TIz S.TIi1 S.TIi2 hTI, e1, e2, .inr ⟨T, true, oT, b1, hk _ _ r1 r2 r3 hT, r1, r2, r3, r4⟩⟩
            fun c o hc e => hk c o (fun x => hc (by simp [x])) (fun x => hc (by simp [x])) (fun x => hc (by simp [x])) e
      done := fun s₁ Q₁ E₁ st hQ => by
        obtain ⟨hTI, h1, h2, hz⟩ := st
        rcases hz with ⟨hz, a, b, hTO⟩ | ⟨T, f, oT, hz, hT, r1, r2, r3, r4⟩
        · exact wpAny_pyNext_zipD2_end S D1' D2' hz hTI hTO h1 h2 (by omega) (by omega) (by omega) fun h' tk hk => hQ h' tk fun c o hc e => hk c o (fun x => hc (by simp [x])) (fun x => hc (by simp [x])) (fun x => hc (by simp [x])) (fun x => hc (by simp [x])) e
        · exact piNextEndHeld S D1' D2' hz hT hTI h1 h2 (by omega) (by omega) (by omega) fun h' tk hk => hQ h' tk fun c o hc e => hk c o (fun x => hc (by simp [x])) (fun x => hc (by simp [x])) (fun x => hc (by simp [x])) e }
end
end PySem

set_option maxHeartbeats 1000000
/-! PI, part oc: zip of a tuple and a list; dict(zip(..)) as an expression. -/
namespace PI
open PySem PySem.Spec PyProof.Rows L2
abbrev zmH1 (h : Heap) (l1 : Addr) : Heap := h.push { cls := .type "tuple_iterator", data := .fields #[.ref l1, .int 0 0] }
abbrev zmH2 (h : Heap) (l1 l2 : Addr) : Heap := (zmH1 h l1).push { cls := .type "list_iterator", data := .fields #[.ref l2, .int 0 0] }
abbrev zmH3 (h : Heap) (l1 l2 : Addr) : Heap := (zmH2 h l1 l2).push { cls := .type "tuple", data := .seq #[.ref h.objs.size, .ref (zmH1 h l1).objs.size] }
abbrev zmH4 (h : Heap) (l1 l2 : Addr) : Heap := (zmH3 h l1 l2).push { cls := .type "tuple", data := .seq #[.none, .none] }
abbrev zmH5 (h : Heap) (l1 l2 : Addr) : Heap := (zmH4 h l1 l2).push { cls := .type "zip", data := .fields #[.none, .bool false, .bool false, .ref (zmH2 h l1 l2).objs.size, .ref (zmH3 h l1 l2).objs.size] }
theorem meets_zm_new (l1 l2 : Addr) (xs ys : Array Value) :
    Meets (Builtin.«zip.__new__» ⟨[.type "zip", .ref l1, .ref l2], []⟩) (fun _ R s => s.heap.IsTuple l1 xs ∧ s.heap.IsList l2 ys ∧
      R (.ok (.ret (.ref (zmH4 s.heap l1 l2).objs.size))) { s with heap := zmH5 s.heap l1 l2 }) :=
  .of_wp fun prog w A R s h => by
    obtain ⟨hp, g, d, tk, os⟩ := s; obtain ⟨hl1, hl2, h⟩ := h
    have hsub := sub_zip
    have hL1 : Heap.IsTuple (Shared.heap ⟨hp, g, d, tk, os⟩) l1 xs := hl1
    have hL2 : Heap.IsList (Shared.heap ⟨hp.push { cls := .type "tuple_iterator", data := .fields #[.ref l1, .int 0 0] }, g, d, tk, os⟩) l2 ys := Heap.IsList.push hl2 _
    wp_walk using wpAny_pyIter_tuple hL1, wpAny_pyIter_list hL2
    exact ⟨_, rfl, h⟩
theorem call_zm {prog : Program} {w : World} {A : Around} {E : Value → Shared → Prop} {s : Shared} {l1 l2 : Addr} {xs ys : Array Value} {Q : Value → Shared → Prop} (hl1 : s.heap.IsTuple l1 xs) (hl2 : s.heap.IsList l2 ys)
    (h : ∀ h', IsZip h' (s.heap.objs.size + 4) (s.heap.objs.size + 2) (s.heap.objs.size + 3) .none → IsPair h' (s.heap.objs.size + 2) (.ref s.heap.objs.size) (.ref (s.heap.objs.size + 1)) →
      IsPair h' (s.heap.objs.size + 3) .none .none → h'.IsTupleIter s.heap.objs.size l1 0 → h'.IsListIter (s.heap.objs.size + 1) l2 0 → h'.objs.size = s.heap.objs.size + 5 →
      (∀ c o, s.heap.get? c = some o → h'.get? c = some o) → Q (.ref (s.heap.objs.size + 4)) { s with heap := h' }) :
    wpAny (model prog w) A (call (.type "zip") [.ref l1, .ref l2]) Q E s := by
  refine callType_new F.called_zip (by decide) (F.typeCall_zip_2 _ _) (F.newCall_zip_2 _ _) (fun obj => F.args_object_init_3 obj _ _) F.entry_zip_new
    (meets_zm_new l1 l2 xs ys) ⟨hl1, hl2, ?_⟩
  have z1 : (zmH1 s.heap l1).objs.size = s.heap.objs.size + 1 := Heap.size_push ..
  have z2 : (zmH2 s.heap l1 l2).objs.size = s.heap.objs.size + 2 := by rw [Heap.size_push, z1]
  have z3 : (zmH3 s.heap l1 l2).objs.size = s.heap.objs.size + 3 := by rw [Heap.size_push, z2]
  have z4 : (zmH4 s.heap l1 l2).objs.size = s.heap.objs.size + 4 := by rw [Heap.size_push, z3]
  have z5 : (zmH5 s.heap l1 l2).objs.size = s.heap.objs.size + 5 := by rw [Heap.size_push, z4]
  have g5 : (zmH5 s.heap l1 l2).get? (zmH4 s.heap l1 l2).objs.size = some _ := Heap.get?_push_size _ rfl
  have g4 : (zmH5 s.heap l1 l2).get? (zmH3 s.heap l1 l2).objs.size = some _ := Heap.get?_push_of_some _ (Heap.get?_push_size _ rfl)
  have g3 : (zmH5 s.heap l1 l2).get? (zmH2 s.heap l1 l2).objs.size = some _ := Heap.get?_push_of_some _ (Heap.get?_push_of_some _ (Heap.get?_push_size _ rfl))
  have g2 : (zmH5 s.heap l1 l2).get? (zmH1 s.heap l1).objs.size = some _ := Heap.get?_push_of_some _ (Heap.get?_push_of_some _ (Heap.get?_push_of_some _ (Heap.get?_push_size _ rfl)))
  have g1 : (zmH5 s.heap l1 l2).get? s.heap.objs.size = some _ := Heap.get?_push_of_some _ (Heap.get?_push_of_some _ (Heap.get?_push_of_some _ (Heap.get?_push_of_some _ (Heap.get?_push_size _ rfl))))
  show _ ∧ _
  rw [z2, z3, z4] at g5
  rw [z1, z2] at g3
  rw [z3] at g4
  rw [z1] at g2
  rw [z4]
  exact ⟨⟨_, g5, rfl⟩, h _ g5 g3 g4 ⟨_, g1, rfl, rfl⟩ ⟨_, g2, rfl, rfl⟩ z5 fun c o x =>
    Heap.get?_push_of_some _ (Heap.get?_push_of_some _ (Heap.get?_push_of_some _ (Heap.get?_push_of_some _ (Heap.get?_push_of_some _ x))))⟩
abbrev znH1 (h : Heap) (l1 : Addr) : Heap := h.push { cls := .type "list_iterator", data := .fields #[.ref l1, .int 0 0] }
abbrev znH2 (h : Heap) (l1 l2 : Addr) : Heap := (znH1 h l1).push { cls := .type "tuple_iterator", data := .fields #[.ref l2, .int 0 0] }
abbrev znH3 (h : Heap) (l1 l2 : Addr) : Heap := (znH2 h l1 l2).push { cls := .type "tuple", data := .seq #[.ref h.objs.size, .ref (znH1 h l1).objs.size] }
abbrev znH4 (h : Heap) (l1 l2 : Addr) : Heap := (znH3 h l1 l2).push { cls := .type "tuple", data := .seq #[.none, .none] }
abbrev znH5 (h : Heap) (l1 l2 : Addr) : Heap := (znH4 h l1 l2).push { cls := .type "zip", data := .fields #[.none, .bool false, .bool false, .ref (znH2 h l1 l2).objs.size, .ref (znH3 h l1 l2).objs.size] }
theorem meets_zn_new (l1 l2 : Addr) (xs ys : Array Value) :
    Meets (Builtin.«zip.__new__» ⟨[.type "zip", .ref l1, .ref l2], []⟩) (fun _ R s => s.heap.IsList l1 xs ∧ s.heap.IsTuple l2 ys ∧
      R (.ok (.ret (.ref (znH4 s.heap l1 l2).objs.size))) { s with heap := znH5 s.heap l1 l2 }) :=
  .of_wp fun prog w A R s h => by
    obtain ⟨hp, g, d, tk, os⟩ := s; obtain ⟨hl1, hl2, h⟩ := h
    have hsub := sub_zip
    have hL1 : Heap.IsList (Shared.heap ⟨hp, g, d, tk, os⟩) l1 xs := hl1
    have hL2 : Heap.IsTuple (Shared.heap ⟨hp.push { cls := .type "list_iterator", data := .fields #[.ref l1, .int 0 0] }, g, d, tk, os⟩) l2 ys := Heap.IsTuple.push hl2 _
    wp_walk using wpAny_pyIter_list hL1, wpAny_pyIter_tuple hL2
    exact ⟨_, rfl, h⟩
theorem call_zn {prog : Program} {w : World} {A : Around} {E : Value → Shared → Prop} {s : Shared} {l1 l2 : Addr} {xs ys : Array Value} {Q : Value → Shared → Prop} (hl1 : s.heap.IsList l1 xs) (hl2 : s.heap.IsTuple l2 ys)
    (h : ∀ h', IsZip h' (s.heap.objs.size + 4) (s.heap.objs.size + 2) (s.heap.objs.size + 3) .none → IsPair h' (s.heap.objs.size + 2) (.ref s.heap.objs.size) (.ref (s.heap.objs.size + 1)) →
      IsPair h' (s.heap.objs.size + 3) .none .none → h'.IsListIter s.heap.objs.size l1 0 → h'.IsTupleIter (s.heap.objs.size + 1) l2 0 → h'.objs.size = s.heap.objs.size + 5 →
      (∀ c o, s.heap.get? c = some o → h'.get? c = some o) → Q (.ref (s.heap.objs.size + 4)) { s with heap := h' }) :
    wpAny (model prog w) A (call (.type "zip") [.ref l1, .ref l2]) Q E s := by
  refine callType_new F.called_zip (by decide) (F.typeCall_zip_2 _ _) (F.newCall_zip_2 _ _) (fun obj => F.args_object_init_3 obj _ _) F.entry_zip_new
    (meets_zn_new l1 l2 xs ys) ⟨hl1, hl2, ?_⟩
  have z1 : (znH1 s.heap l1).objs.size = s.heap.objs.size + 1 := Heap.size_push ..
  have z2 : (znH2 s.heap l1 l2).objs.size = s.heap.objs.size + 2 := by rw [Heap.size_push, z1]
  have z3 : (znH3 s.heap l1 l2).objs.size = s.heap.objs.size + 3 := by rw [Heap.size_push, z2]
  have z4 : (znH4 s.heap l1 l2).objs.size = s.heap.objs.size + 4 := by rw [Heap.size_push, z3]
  have z5 : (znH5 s.heap l1 l2).objs.size = s.heap.objs.size + 5 := by rw [Heap.size_push, z4]
  have g5 : (znH5 s.heap l1 l2).get? (znH4 s.heap l1 l2).objs.size = some _ := Heap.get?_push_size _ rfl
  have g4 : (znH5 s.heap l1 l2).get? (znH3 s.heap l1 l2).objs.size = some _ := Heap.get?_push_of_some _ (Heap.get?_push_size _ rfl)
  have g3 : (znH5 s.heap l1 l2).get? (znH2 s.heap l1 l2).objs.size = some _ := Heap.get?_push_of_some _ (Heap.get?_push_of_some _ (Heap.get?_push_size _ rfl))
  have g2 : (znH5 s.heap l1 l2).get? (znH1 s.heap l1).objs.size = some _ := Heap.get?_push_of_some _ (Heap.get?_push_of_some _ (Heap.get?_push_of_some _ (Heap.get?_push_size _ rfl)))
  have g1 : (znH5 s.heap l1 l2).get? s.heap.objs.size = some _ := Heap.get?_push_of_some _ (Heap.get?_push_of_some _ (Heap.get?_push_of_some _ (Heap.get?_push_of_some _ (Heap.get?_push_size _ rfl))))
  show _ ∧ _
  rw [z2, z3, z4] at g5
  rw [z1, z2] at g3
  rw [z3] at g4
  rw [z1] at g2
  rw [z4]
  exact ⟨⟨_, g5, rfl⟩, h _ g5 g3 g4 ⟨_, g1, rfl, rfl⟩ ⟨_, g2, rfl, rfl⟩ z5 fun c o x =>
    Heap.get?_push_of_some _ (Heap.get?_push_of_some _ (Heap.get?_push_of_some _ (Heap.get?_push_of_some _ (Heap.get?_push_of_some _ x))))⟩
theorem nePI {a b : Nat} (h : a ≠ b) : (show Addr from a) ≠ (show Addr from b) := h
theorem ninPI {c x y : Nat} (h1 : c ≠ x) (h2 : c ≠ y) : (show Addr from c) ∉ [(show Addr from x), (show Addr from y)] := by
  intro h
  rcases List.mem_cons.mp h with e | h
  · exact h1 e
  · exact h2 (List.mem_singleton.mp h)
theorem zsep (I a b : Nat) (h1 : a < I) (h2 : b < I) : ZipSep2 (I + 4) (I + 2) (I + 3) I (I + 1) [I, a] [I + 1, b] :=
  ⟨nePI (by omega), nePI (by omega), nePI (by omega), nePI (by omega), List.mem_cons_self, ninPI (by omega) (by omega), ninPI (by omega) (by omega), nePI (by omega), List.mem_cons_self, ninPI (by omega) (by omega), ninPI (by omega) (by omega), ninPI (by omega) (by omega), ninPI (by omega) (by omega)⟩
section
variable {X : Cx}
/-- dict(z), z a new zip of keys that are tuples, and values -/
theorem zdict_core {pins : List (Addr × Obj)} {σ : L2.St} {H : Hp} {s : Shared} {h' : Heap} {a b : Addr} {its1 its2 : List Value} {ks : List (List Key × Addr)} {vs2 : List V} {St1 St2 : Nat → Heap → Prop} {Q : VK} (hcalm : X.calm = true) (hu : X.A.units + 65 < cLine) (I : Inv X pins σ H s)
    (hal : a < s.heap.objs.size) (hb : b < s.heap.objs.size) (e1 : its1 = ks.map fun p => Value.ref p.2) (hks : ∀ p ∈ ks, H p.2 = some (.tup (p.1.map kV))) (r2 : Vals vs2 its2) (hl1 : ks.length ≤ sizeLine)
    (hz : IsZip h' (s.heap.objs.size + 4) (s.heap.objs.size + 2) (s.heap.objs.size + 3) .none) (hTI : IsPair h' (s.heap.objs.size + 2) (.ref s.heap.objs.size) (.ref (s.heap.objs.size + 1))) (hTO : IsPair h' (s.heap.objs.size + 3) .none .none)
    (h1 : St1 0 h') (h2 : St2 0 h') (hk : ∀ c o, s.heap.get? c = some o → h'.get? c = some o) (hsz : h'.objs.size = s.heap.objs.size + 5)
    (D1 : ∀ A : Around, A.handled = none → Draws X.prog X.w A s.heap.objs.size [s.heap.objs.size, a] its1.length (fun i v => its1[i]? = some v) St1)
    (f1 : ∀ i h h', St1 i h → (∀ c ∈ [s.heap.objs.size, a], ∀ o, h.get? c = some o → h'.get? c = some o) → St1 i h') (v1 : ∀ i h, St1 i h → ∀ c ∈ [s.heap.objs.size, a], ∃ o, h.get? c = some o)
    (D2 : ∀ A : Around, A.handled = none → Draws X.prog X.w A (s.heap.objs.size + 1) [s.heap.objs.size + 1, b] its2.length (fun i v => its2[i]? = some v) St2)
    (f2 : ∀ i h h', St2 i h → (∀ c ∈ [s.heap.objs.size + 1, b], ∀ o, h.get? c = some o → h'.get? c = some o) → St2 i h') (v2 : ∀ i h, St2 i h → ∀ c ∈ [s.heap.objs.size + 1, b], ∃ o, h.get? c = some o)
    (q : ∀ p, H p = none → Q (.ref p) (upd H p (.dT (((ks.map (·.1)).zip vs2).foldl (fun acc kv => putK acc kv.1 kv.2) [])))) :
    wpAny (model X.prog X.w) X.A (call (.type "dict") [.ref (s.heap.objs.size + 4)]) (EP X pins σ Q) X.xe { s with heap := h' } := by
  have I2 : Inv X pins σ H { s with heap := h' } := I.kept (t' := s.toks) hk
  have S : ZipSep2 (s.heap.objs.size + 4) (s.heap.objs.size + 2) (s.heap.objs.size + 3) s.heap.objs.size (s.heap.objs.size + 1) [s.heap.objs.size, a] [s.heap.objs.size + 1, b] := zsep s.heap.objs.size a b hal hb
  let ps : List (List Key × Addr × Value) := (ks.zip its2).map fun z => (z.1.1, z.1.2, z.2)
  have hpl : ps.length = min ks.length its2.length := by simp [ps]
  have hl1' : its1.length = ks.length := by rw [e1]; simp
  have P := PairArg.zipD (prog := X.prog) (w := X.w) S (n1 := its1.length) (P1 := fun i v => its1[i]? = some v) (St1 := St1) (P2 := fun i v => its2[i]? = some v) (St2 := St2) (n2 := its2.length) D1 D2 f1 f2 v1 v2
  have hsz2 : min its1.length its2.length = ps.length := by rw [hpl, hl1']
  have hok : IsZip h' (s.heap.objs.size + 4) (s.heap.objs.size + 2) (s.heap.objs.size + 3) .none ∧ IsTupOf2 h' (s.heap.objs.size + 2) (.ref s.heap.objs.size) (.ref (s.heap.objs.size + 1)) ∧ (∃ a b, IsTupOf2 h' (s.heap.objs.size + 3) a b) ∧ St1 0 h' ∧ St2 0 h' :=
    ⟨hz, hTI, ⟨_, _, hTO⟩, h1, h2⟩
  have inK : ∀ z ∈ ks.zip its2, z.1 ∈ ks := fun z hz => (List.of_mem_zip (a := z.1) (b := z.2) hz).1
  refine call_dict_pairsH (knd := tupleKind (mixKind X.prog X.w)) (ps := ps) P (I2.ok.hd hcalm) (show X.A.units + 1 + 1 < cLine by omega) hok ⟨hsz2.symm, fun i key v hr => ?_⟩ (fun h2 hk2 x hx => ?_) (by rw [hsz2, hpl]; omega) fun h3 tk hd3 hk3 => ?_
  · obtain ⟨g1, g2⟩ := hr
    have g1 : its1[i]? = some key := g1
    rw [e1, List.getElem?_map, Option.map_eq_some_iff] at g1
    obtain ⟨p, hp1, hp2⟩ := g1
    refine ⟨p.1, p.2, ?_, hp2.symm⟩
    show ((ks.zip its2).map _)[i]? = _
    rw [List.getElem?_map, Option.map_eq_some_iff]
    exact ⟨(p, v), List.getElem?_zip_eq_some.mpr ⟨hp1, g2⟩, rfl⟩
  · obtain ⟨z, hz1, rfl⟩ := List.mem_map.mp hx
    obtain ⟨o1, i1, n1, k1, k2, k3, k4⟩ := key_of I.hok (hks z.1 (inK z hz1))
    have lt := Heap.lt_size k1
    have up : ∀ n : Nat, z.1.2 ≠ s.heap.objs.size + n := fun n => Nat.ne_of_lt (Nat.lt_of_lt_of_le lt (Nat.le_add_right _ _))
    refine ⟨o1, i1, n1, hk2 _ _ ?_ ?_ (hk _ _ k1), k2, k3, k4⟩
    · show z.1.2 ≠ h'.objs.size
      rw [hsz]
      exact up 5
    · simp only [List.mem_cons, List.not_mem_nil, or_false, not_or]
      exact ⟨up 4, up 3, up 0, up 1⟩
  · have hm : (h'.objs.size == sysModules) = false := beq_eq_false_iff_ne.mpr (Nat.ne_of_gt (by rw [hsz]; exact Nat.lt_of_lt_of_le I.big (Nat.le_add_right _ _)))
    have rel : ∀ {ks : List (List Key × Addr)} {vs2 : List V} {its2 : List Value}, Vals vs2 its2 → (∀ p ∈ ks, H p.2 = some (.tup (p.1.map kV))) → ∀ {kvs : List (List Key × V)} {xs : List (List Key × Addr × Value)}, KT H kvs xs →
        KT H (((ks.map (·.1)).zip vs2).foldl (fun acc kv => putK acc kv.1 kv.2) kvs) (((ks.zip its2).map fun z => (z.1.1, z.1.2, z.2)).foldl (fun acc p => storedH acc p.1 p.2.1 p.2.2) xs) := by
      intro ks
      induction ks with
      | nil => intro vs2 its2 _ _ kvs xs h; simpa using h
      | cons p ks ih =>
        intro vs2 its2 r hh kvs xs h
        cases r with
        | nil => simpa using h
        | cons r1 r2 =>
          simp only [List.map_cons, List.zip_cons_cons, List.foldl_cons]
          exact ih r2 (fun z hz => hh z (List.mem_cons_of_mem _ hz)) (h.put p.1 (hh p List.mem_cons_self) r1)
    have kt := rel r2 hks (kvs := []) (xs := []) .nil
    obtain ⟨q1, es1, ep1, hq1, g2, g3, g4, _, g5⟩ := hd3
    have fresh4 : ∀ c ∈ [s.heap.objs.size + 4, s.heap.objs.size + 3, s.heap.objs.size, s.heap.objs.size + 1], FpOk X pins H c := fun c hc => by
      have hle : s.heap.objs.size ≤ c := by
        simp only [List.mem_cons, List.not_mem_nil, or_false] at hc
        rcases hc with rfl | rfl | rfl | rfl
        · exact Nat.le_add_right _ _
        · exact Nat.le_add_right _ _
        · exact Nat.le_refl _
        · exact Nat.le_add_right _ _
      exact I.fpOk hle (I.hok.fresh hle)
    have hn : H h'.objs.size = none := I2.hok.fresh (Nat.le_refl _)
    refine ⟨.ref h'.objs.size, upd H h'.objs.size (.dT _), I2.turnedNew (t' := tk) (ch := [s.heap.objs.size + 4, s.heap.objs.size + 3, s.heap.objs.size, s.heap.objs.size + 1]) (fun c o hc e => hk3 c o hc e) fresh4 (Nat.le_refl _) ⟨?_, hm, _, kt.keeps fun c ys ec => ?_, q1, es1, ep1, hq1, g2, g3, g4, g5⟩, rfl, q _ hn⟩
    · rw [Paired.length kt]
      refine Nat.le_trans (storedAllH_length _ []) ?_
      rw [List.length_nil, Nat.zero_add, List.length_map, List.length_zip]
      omega
    · rw [upd_ne (ne_of_none ec hn)]
      exact ec
end
theorem efr_call {X : Cx} {pins : List (Addr × Obj)} {σ : L2.St} {Q : VK} {t : Sem Value} {s : Shared} (h : wpAny (model X.prog X.w) X.A t (EP X pins σ (FrD Q)) X.xe s) : wpAny (model X.prog X.w) X.A t (EP X pins σ Q) X.xe s :=
  thn h fun _ _ z => efrD z
def zipKeys (xs ys : List D) : Option D :=
  if xs.all tkeyB && !(xs.zip ys).isEmpty && decide (xs.length ≤ LIM) then some (.dct (mergeD [] [] (xs.zip ys)).1 (mergeD [] [] (xs.zip ys)).2) else none
def dzipL : List D → Option D
  | [.tup xs, .tup ys] => zipKeys xs ys
  | [.tup xs, .lst ys] => zipKeys xs ys
  | [.lst xs, .tup ys] => zipKeys xs ys
  | [.lst xs, .lst ys] => zipKeys xs ys
  | _ => none
section
variable {X : Cx} {xc : XC} {W : WX}
theorem tkeys_of {K : PySem.W.Frag} {H : Hp} : ∀ {vs : List V} {xs : List D}, Reps K H vs xs → xs.all tkeyB = true →
    ∃ ks : List (List Key × Addr), vs = ks.map (fun p => V.ref p.2) ∧ (∀ p ∈ ks, H p.2 = some (.tup (p.1.map kV))) ∧ xs = ks.map fun p => .tup (p.1.map keyD)
  | _, [], .nil, _ => ⟨[], rfl, (fun _ h => nomatch h), rfl⟩
  | _, x :: xs, .cons h r, hk => by
    rw [List.all_cons] at hk
    obtain ⟨h1, h2⟩ := Bool.and_eq_true_iff.mp hk
    obtain ⟨ks, e1, e2, e3⟩ := tkeys_of r h2
    cases x with
    | tup ds =>
      obtain ⟨k, ek⟩ := Option.isSome_iff_exists.mp (show (keysOf ds).isSome = true from h1)
      obtain ⟨b, eb, hb⟩ := rep_tkey h.rd ek
      refine ⟨(k, b) :: ks, by rw [eb, e1]; rfl, fun p hp => ?_, by rw [List.map_cons, ← e3, keysD_of ek]⟩
      rcases List.mem_cons.mp hp with rfl | hp
      · exact hb
      · exact e2 p hp
    | _ => cases h1
theorem reps_zip {K : PySem.W.Frag} {H : Hp} : ∀ {ks : List (List Key × Addr)} {xs : List D} {vs : List V} {ys : List D}, xs = ks.map (fun p => D.tup (p.1.map keyD)) → Reps K H vs ys →
    (xs.zip ys).map (·.1) = ((ks.map (·.1)).zip vs).map (fun p => D.tup (p.1.map keyD)) ∧ Reps K H (((ks.map (·.1)).zip vs).map (·.2)) ((xs.zip ys).map (·.2))
  | [], _, _, _, rfl, _ => by simp; exact .nil
  | k :: ks, _, _, _, rfl, .nil => by simp; exact .nil
  | k :: ks, _, _, _, rfl, .cons h r => by
    obtain ⟨e1, e2⟩ := reps_zip (ks := ks) rfl r
    refine ⟨?_, .cons h e2⟩
    simp only [List.map_cons, List.zip_cons_cons]
    rw [← e1]
theorem pd_dzip {p0 p1 p2 pos : Pos} {e : Expr} {es : List Expr} {ms : Env' → M (List D)} (hcalm : X.calm = true) (hu : X.A.units + 65 < cLine) (hg0 : Gl X "dict") (hm0 : X.mg "dict" = none) (hg1 : Gl X "zip") (hm1 : X.mg "zip" = none) (ha : PA X (e :: es) (tA X.K xc W ms))
    (he : starEach (e :: es) X.env = (false, eval e X.env) :: starEach es X.env) (hpl : (backTo p2 (starEach es X.env)).any (·.1) = false)
    (he0 : starEach [.Call (.Name "zip" p1) (e :: es) [] p2] X.env = [(false, eval (.Call (.Name "zip" p1) (e :: es) [] p2) X.env)]) :
    PE X (.Call (.Name "dict" p0) [.Call (.Name "zip" p1) (e :: es) [] p2] [] pos) (tE X.K xc W fun env => biM dzipL (ms env)) := by
  refine pimp (t := tCB (fun xs H Q => ∃ ds d, RepRs X.K H xs ds ∧ dzipL ds = some d ∧ ∀ v H', Same H H' → Rep X.K H' v d → Q v H') (tA X.K xc W ms)) ⟨fun pins s σ H Q I h => ?_⟩ fun σ H Q h => bi_read h
  refine wpAny_Call_Name_kw (ld_blt I hg0 hm0 PyProof.Rows.boot_dict ?_)
  refine PyProof.Rows.callWith_type1 ?_ he0 rfl
  rw [he0]
  show wpAny _ _ (spliced ((false, eval (.Call (.Name "zip" p1) (e :: es) [] p2) X.env) :: [])) _ _ s
  refine Calls.spliced_cons (wpAny_Call_Name_kw (ld_blt I hg1 hm1 PyProof.Rows.boot_zip (PyProof.Rows.callWith_type1 (thn (ha.run p2 pins s σ H _ I h) fun us s1 ⟨vs, H1, I1, r1, q1⟩ => ?_) he hpl)))
  obtain ⟨ds, d, rs, ed, q⟩ := q1
  have main : ∀ {x y : V} {a b : Addr} {xs ys : List D} {v1 v2 : List V} {its1 its2 : List Value} {St1 St2 : Nat → Heap → Prop} {h' : Heap}, Reps X.K H1 v1 xs → Reps X.K H1 v2 ys → zipKeys xs ys = some d → Vals v1 its1 → Vals v2 its2 → a < s1.heap.objs.size → b < s1.heap.objs.size →
      IsZip h' (s1.heap.objs.size + 4) (s1.heap.objs.size + 2) (s1.heap.objs.size + 3) .none → IsPair h' (s1.heap.objs.size + 2) (.ref s1.heap.objs.size) (.ref (s1.heap.objs.size + 1)) → IsPair h' (s1.heap.objs.size + 3) .none .none →
      St1 0 h' → St2 0 h' → (∀ c o, s1.heap.get? c = some o → h'.get? c = some o) → h'.objs.size = s1.heap.objs.size + 5 →
      (∀ A : Around, A.handled = none → Draws X.prog X.w A s1.heap.objs.size [s1.heap.objs.size, a] its1.length (fun i v => its1[i]? = some v) St1) →
      (∀ i h h', St1 i h → (∀ c ∈ [s1.heap.objs.size, a], ∀ o, h.get? c = some o → h'.get? c = some o) → St1 i h') → (∀ i h, St1 i h → ∀ c ∈ [s1.heap.objs.size, a], ∃ o, h.get? c = some o) →
      (∀ A : Around, A.handled = none → Draws X.prog X.w A (s1.heap.objs.size + 1) [s1.heap.objs.size + 1, b] its2.length (fun i v => its2[i]? = some v) St2) →
      (∀ i h h', St2 i h → (∀ c ∈ [s1.heap.objs.size + 1, b], ∀ o, h.get? c = some o → h'.get? c = some o) → St2 i h') → (∀ i h, St2 i h → ∀ c ∈ [s1.heap.objs.size + 1, b], ∃ o, h.get? c = some o) →
      wpAny (model X.prog X.w) X.A (spliced []) (fun vs s₂ => wpAny (model X.prog X.w) X.A (call (.type "dict") (.ref (s1.heap.objs.size + 4) :: vs)) (EP X pins σ Q) X.xe s₂) X.xe { s1 with heap := h' } := by
    intro x y a b xs ys v1 v2 its1 its2 St1 St2 h' R1 R2 ez V1 V2 ht hb hz hTI hTO h1 h2 hk hsz D1 f1 vv1 D2 f2 vv2
    unfold zipKeys at ez
    split at ez
    case isFalse => cases ez
    rename_i hc
    simp only [Bool.and_eq_true, decide_eq_true_eq, Bool.not_eq_true'] at hc
    obtain ⟨⟨hk1, hne⟩, hlen⟩ := hc
    cases ez
    obtain ⟨ks, k1, k2, k3⟩ := tkeys_of R1 hk1
    have e1 : its1 = ks.map fun p => Value.ref p.2 := by
      have := refs_at (ps := ks.map (·.2)) (us := its1) (by rw [List.map_map]; rw [k1] at V1; exact V1)
      rw [this, List.map_map]; rfl
    have hkl : ks.length = xs.length := by rw [k3]; simp
    obtain ⟨z1, z2⟩ := reps_zip k3 R2
    refine Calls.spliced_nil (efr_call (zdict_core hcalm hu I1 ht hb e1 k2 V2 (by rw [hkl]; exact lim_line hlen) hz hTI hTO h1 h2 hk hsz D1 f1 vv1 D2 f2 vv2 (Q := FrD Q) fun p hp => ?_))
    have dr := DRel.merge (K := X.K) (H := H1) (f := fun k : List Key => D.tup (k.map keyD)) eq_keysD (more := (ks.map (·.1)).zip v2) (ds := xs.zip ys) (kvs := []) (ks := []) (vs := []) List.nodup_nil ⟨rfl, .nil⟩ z1 z2
    refine frD_new hp trivial (fun o => ?_) q
    refine .dct (.inr ⟨o, _, upd_same, ?_, dr.k, rfl⟩) (dr.v.mono (sext (snew hp)))
    cases hL : (ks.map (·.1)).zip v2 with
    | nil =>
      rw [hL] at z1
      have : xs.zip ys = [] := List.map_eq_nil_iff.mp z1
      rw [this] at hne
      cases hne
    | cons z L =>
      show L.foldl (fun acc kv => putK acc kv.1 kv.2) (putK [] z.1 z.2) ≠ []
      exact fold_ne (by simp [putK])
  unfold dzipL at ed
  split at ed
  · obtain ⟨x, y, rfl, hx, hy⟩ := reps2 rs
    cases hx with
    | @tup b1 _ _ f1 R1 =>
    cases hy with
    | @tup b2 _ _ f2 R2 =>
    obtain ⟨u1, u2, eu, ru1, ru2⟩ := vals2 r1
    subst eu
    cases ru1
    cases ru2
    obtain ⟨its1, V1, t1, _⟩ := I1.tuple f1.sq
    have t1 : s1.heap.IsTuple b1 its1.toArray := t1
    have lt1 : b1 < s1.heap.objs.size := by obtain ⟨o, e, _⟩ := t1; exact Heap.lt_size e
    obtain ⟨its2, V2, t2, _⟩ := I1.tuple f2.sq
    have t2 : s1.heap.IsTuple b2 its2.toArray := t2
    have lt2 : b2 < s1.heap.objs.size := by obtain ⟨o, e, _⟩ := t2; exact Heap.lt_size e
    refine RZ.call_zipT t1 t2 fun h' hz hTI hTO h1 h2 hsz hk => ?_
    refine main (x := .non) (y := .non) R1 R2 ed V1 V2 lt1 lt2 hz hTI hTO (St1 := fun i h => h.IsTupleIter s1.heap.objs.size b1 i ∧ h.IsTuple b1 its1.toArray) (St2 := fun i h => h.IsTupleIter (s1.heap.objs.size + 1) b2 i ∧ h.IsTuple b2 its2.toArray) ⟨h1, t1.at fun o e => hk _ o e⟩ ⟨h2, t2.at fun o e => hk _ o e⟩ hk hsz (fun A hA => ?_) (fun i h h' st hk => ⟨st.1.at fun o e => hk _ (by simp) o e, st.2.at fun o e => hk _ (by simp) o e⟩) (fun i h st c hc => ?_) (fun A hA => ?_) (fun i h h' st hk => ⟨st.1.at fun o e => hk _ (by simp) o e, st.2.at fun o e => hk _ (by simp) o e⟩) (fun i h st c hc => ?_)
    · have := Draws.tuple (prog := X.prog) (w := X.w) hA s1.heap.objs.size b1 (Nat.ne_of_lt lt1) its1.toArray
      simpa using this
    · obtain ⟨⟨o1, g1, _⟩, ⟨o2, g2, _⟩⟩ := st
      simp only [List.mem_cons, List.not_mem_nil, or_false] at hc
      rcases hc with rfl | rfl
      · exact ⟨o1, g1⟩
      · exact ⟨o2, g2⟩
    · have := Draws.tuple (prog := X.prog) (w := X.w) hA (s1.heap.objs.size + 1) b2 (Nat.ne_of_lt (Nat.lt_succ_of_lt lt2)) its2.toArray
      simpa using this
    · obtain ⟨⟨o1, g1, _⟩, ⟨o2, g2, _⟩⟩ := st
      simp only [List.mem_cons, List.not_mem_nil, or_false] at hc
      rcases hc with rfl | rfl
      · exact ⟨o1, g1⟩
      · exact ⟨o2, g2⟩
  · obtain ⟨x, y, rfl, hx, hy⟩ := reps2 rs
    cases hx with
    | @tup b1 _ _ f1 R1 =>
    obtain ⟨b2, w2, rfl, f2, R2⟩ := hy
    obtain ⟨u1, u2, eu, ru1, ru2⟩ := vals2 r1
    subst eu
    cases ru1
    cases ru2
    obtain ⟨its1, V1, t1, _⟩ := I1.tuple f1.sq
    have t1 : s1.heap.IsTuple b1 its1.toArray := t1
    have lt1 : b1 < s1.heap.objs.size := by obtain ⟨o, e, _⟩ := t1; exact Heap.lt_size e
    obtain ⟨its2, V2, p2, _⟩ := I1.list (.inl f2)
    have t2 : s1.heap.IsList b2 its2.toArray := p2.isList
    have lt2 : b2 < s1.heap.objs.size := by obtain ⟨o, e, _⟩ := t2; exact Heap.lt_size e
    refine call_zm t1 t2 fun h' hz hTI hTO h1 h2 hsz hk => ?_
    refine main (x := .non) (y := .non) R1 R2 ed V1 V2 lt1 lt2 hz hTI hTO (St1 := fun i h => h.IsTupleIter s1.heap.objs.size b1 i ∧ h.IsTuple b1 its1.toArray) (St2 := fun i h => h.IsListIter (s1.heap.objs.size + 1) b2 i ∧ h.IsList b2 its2.toArray) ⟨h1, t1.at fun o e => hk _ o e⟩ ⟨h2, t2.at fun o e => hk _ o e⟩ hk hsz (fun A hA => ?_) (fun i h h' st hk => ⟨st.1.at fun o e => hk _ (by simp) o e, st.2.at fun o e => hk _ (by simp) o e⟩) (fun i h st c hc => ?_) (fun A hA => ?_) (fun i h h' st hk => ⟨st.1.at fun o e => hk _ (by simp) o e, st.2.at fun o e => hk _ (by simp) o e⟩) (fun i h st c hc => ?_)
    · have := Draws.tuple (prog := X.prog) (w := X.w) hA s1.heap.objs.size b1 (Nat.ne_of_lt lt1) its1.toArray
      simpa using this
    · obtain ⟨⟨o1, g1, _⟩, ⟨o2, g2, _⟩⟩ := st
      simp only [List.mem_cons, List.not_mem_nil, or_false] at hc
      rcases hc with rfl | rfl
      · exact ⟨o1, g1⟩
      · exact ⟨o2, g2⟩
    · have := Draws.list (prog := X.prog) (w := X.w) hA (s1.heap.objs.size + 1) b2 (Nat.ne_of_lt (Nat.lt_succ_of_lt lt2)) its2.toArray
      simpa using this
    · obtain ⟨⟨o1, g1, _⟩, ⟨o2, g2, _⟩⟩ := st
      simp only [List.mem_cons, List.not_mem_nil, or_false] at hc
      rcases hc with rfl | rfl
      · exact ⟨o1, g1⟩
      · exact ⟨o2, g2⟩
  · obtain ⟨x, y, rfl, hx, hy⟩ := reps2 rs
    obtain ⟨b1, w1, rfl, f1, R1⟩ := hx
    cases hy with
    | @tup b2 _ _ f2 R2 =>
    obtain ⟨u1, u2, eu, ru1, ru2⟩ := vals2 r1
    subst eu
    cases ru1
    cases ru2
    obtain ⟨its1, V1, p1, _⟩ := I1.list (.inl f1)
    have t1 : s1.heap.IsList b1 its1.toArray := p1.isList
    have lt1 : b1 < s1.heap.objs.size := by obtain ⟨o, e, _⟩ := t1; exact Heap.lt_size e
    obtain ⟨its2, V2, t2, _⟩ := I1.tuple f2.sq
    have t2 : s1.heap.IsTuple b2 its2.toArray := t2
    have lt2 : b2 < s1.heap.objs.size := by obtain ⟨o, e, _⟩ := t2; exact Heap.lt_size e
    refine call_zn t1 t2 fun h' hz hTI hTO h1 h2 hsz hk => ?_
    refine main (x := .non) (y := .non) R1 R2 ed V1 V2 lt1 lt2 hz hTI hTO (St1 := fun i h => h.IsListIter s1.heap.objs.size b1 i ∧ h.IsList b1 its1.toArray) (St2 := fun i h => h.IsTupleIter (s1.heap.objs.size + 1) b2 i ∧ h.IsTuple b2 its2.toArray) ⟨h1, t1.at fun o e => hk _ o e⟩ ⟨h2, t2.at fun o e => hk _ o e⟩ hk hsz (fun A hA => ?_) (fun i h h' st hk => ⟨st.1.at fun o e => hk _ (by simp) o e, st.2.at fun o e => hk _ (by simp) o e⟩) (fun i h st c hc => ?_) (fun A hA => ?_) (fun i h h' st hk => ⟨st.1.at fun o e => hk _ (by simp) o e, st.2.at fun o e => hk _ (by simp) o e⟩) (fun i h st c hc => ?_)
    · have := Draws.list (prog := X.prog) (w := X.w) hA s1.heap.objs.size b1 (Nat.ne_of_lt lt1) its1.toArray
      simpa using this
    · obtain ⟨⟨o1, g1, _⟩, ⟨o2, g2, _⟩⟩ := st
      simp only [List.mem_cons, List.not_mem_nil, or_false] at hc
      rcases hc with rfl | rfl
      · exact ⟨o1, g1⟩
      · exact ⟨o2, g2⟩
    · have := Draws.tuple (prog := X.prog) (w := X.w) hA (s1.heap.objs.size + 1) b2 (Nat.ne_of_lt (Nat.lt_succ_of_lt lt2)) its2.toArray
      simpa using this
    · obtain ⟨⟨o1, g1, _⟩, ⟨o2, g2, _⟩⟩ := st
      simp only [List.mem_cons, List.not_mem_nil, or_false] at hc
      rcases hc with rfl | rfl
      · exact ⟨o1, g1⟩
      · exact ⟨o2, g2⟩
  · obtain ⟨x, y, rfl, hx, hy⟩ := reps2 rs
    obtain ⟨b1, w1, rfl, f1, R1⟩ := hx
    obtain ⟨b2, w2, rfl, f2, R2⟩ := hy
    obtain ⟨u1, u2, eu, ru1, ru2⟩ := vals2 r1
    subst eu
    cases ru1
    cases ru2
    obtain ⟨its1, V1, p1, _⟩ := I1.list (.inl f1)
    have t1 : s1.heap.IsList b1 its1.toArray := p1.isList
    have lt1 : b1 < s1.heap.objs.size := by obtain ⟨o, e, _⟩ := t1; exact Heap.lt_size e
    obtain ⟨its2, V2, p2, _⟩ := I1.list (.inl f2)
    have t2 : s1.heap.IsList b2 its2.toArray := p2.isList
    have lt2 : b2 < s1.heap.objs.size := by obtain ⟨o, e, _⟩ := t2; exact Heap.lt_size e
    refine call_zip_2 t1 t2 fun h' hz hTI hTO h1 h2 hsz hk => ?_
    refine main (x := .non) (y := .non) R1 R2 ed V1 V2 lt1 lt2 hz hTI hTO (St1 := fun i h => h.IsListIter s1.heap.objs.size b1 i ∧ h.IsList b1 its1.toArray) (St2 := fun i h => h.IsListIter (s1.heap.objs.size + 1) b2 i ∧ h.IsList b2 its2.toArray) ⟨h1, t1.at fun o e => hk _ o e⟩ ⟨h2, t2.at fun o e => hk _ o e⟩ hk hsz (fun A hA => ?_) (fun i h h' st hk => ⟨st.1.at fun o e => hk _ (by simp) o e, st.2.at fun o e => hk _ (by simp) o e⟩) (fun i h st c hc => ?_) (fun A hA => ?_) (fun i h h' st hk => ⟨st.1.at fun o e => hk _ (by simp) o e, st.2.at fun o e => hk _ (by simp) o e⟩) (fun i h st c hc => ?_)
    · have := Draws.list (prog := X.prog) (w := X.w) hA s1.heap.objs.size b1 (Nat.ne_of_lt lt1) its1.toArray
      simpa using this
    · obtain ⟨⟨o1, g1, _⟩, ⟨o2, g2, _⟩⟩ := st
      simp only [List.mem_cons, List.not_mem_nil, or_false] at hc
      rcases hc with rfl | rfl
      · exact ⟨o1, g1⟩
      · exact ⟨o2, g2⟩
    · have := Draws.list (prog := X.prog) (w := X.w) hA (s1.heap.objs.size + 1) b2 (Nat.ne_of_lt (Nat.lt_succ_of_lt lt2)) its2.toArray
      simpa using this
    · obtain ⟨⟨o1, g1, _⟩, ⟨o2, g2, _⟩⟩ := st
      simp only [List.mem_cons, List.not_mem_nil, or_false] at hc
      rcases hc with rfl | rfl
      · exact ⟨o1, g1⟩
      · exact ⟨o2, g2⟩
  · cases ed
end
end PI

set_option maxHeartbeats 1000000
/-! PI, part od: instances: a field read. -/
namespace PI
open PySem L2
def attrL : List Str → List D → Str → Option D
  | n :: ns, v :: vs, f => if f == n then some v else attrL ns vs f
  | _, _, _ => none
def attrD (f : Str) : D → Option D
  | .obj _ fn vs => attrL fn vs f
  | _ => none
theorem attr_rep {K : PySem.W.Frag} {H : Hp} {f : Str} {d : D} : ∀ {fs : List (Str × V)} {vs : List D}, Reps K H (fs.map (·.2)) vs → attrL (fs.map (·.1)) vs f = some d → ∃ v, fs.lookup f = some v ∧ Rep K H v d ∧ f ∈ fs.map (·.1)
  | [], _, _, e => by
    cases ‹Reps K H _ _›
    cases e
  | p :: fs, _, .cons h r, e => by
    obtain ⟨n, v⟩ := p
    rw [List.map_cons] at e
    unfold attrL at e
    rw [List.lookup_cons]
    cases hb : f == n with
    | true =>
      rw [hb] at e
      rw [if_pos rfl] at e
      cases e
      refine ⟨v, rfl, h, ?_⟩
      rw [beq_iff_eq.mp hb]
      exact List.mem_cons_self
    | false =>
      rw [hb] at e
      rw [if_neg (by decide)] at e
      obtain ⟨u, h1, h2, h3⟩ := attr_rep r e
      exact ⟨u, h1, h2, List.mem_cons_of_mem _ h3⟩
section
variable {X : Cx} {xc : XC} {W : WX}
theorem pd_fld {e : Expr} {f : Str} {pos : Pos} {m : Env' → M D} (he : PE X e (tE X.K xc W m)) (hb : attributeBase e f X.env (eval e X.env) = eval e X.env) : PE X (.Attribute e f pos) (tE X.K xc W fun env => m env >>= fun x => op1 (attrD f) x) :=
  pimp (pe_fld he hb) fun σ H Q ⟨w, env, s, rel, p⟩ => by
    refine (tE_of rel p).imp2 fun v H1 ⟨w1, d, s1, g, rel1, r, p1⟩ => ?_
    unfold op1 at p1
    have rr := r.rd rel1.st
    generalize vw s1 d = y at p1 rr
    cases y with
    | obj C fn vs =>
      cases ea : attrL fn vs f with
      | none =>
        have e0 : attrD f (.obj C fn vs) = none := ea
        rw [e0] at p1
        exact p1.elim
      | some d' =>
        have e0 : attrD f (.obj C fn vs) = some d' := ea
        rw [e0] at p1
        cases rr with
        | obj h hl c en rs =>
          subst en
          obtain ⟨u, h1, h2, h3⟩ := attr_rep rs ea
          exact ⟨_, _, _, _, u, rfl, h, c.cls, c.noa f h3, h1, Post.new p1 rel1.st _ _ (Same.refl _) h2⟩
    | _ => exact p1.elim
end
end PI

set_option maxHeartbeats 1000000
/-! PI, part i: what is walked. -/
namespace PI
open PySem L2
/-- an iterator that hands out the things ds, whatever is laid meanwhile -/
structure ItOk (K : PySem.W.Frag) (J : It) (H : Hp) (ds : List D) : Prop where
  go : ∀ (i : Nat) (H' : Hp), Ext H H' → i < ds.length → J.go i H'
  yld : ∀ (i : Nat) (d : D) (H1 : Hp) (x : V) (H2 : Hp), Ext H H1 → ds[i]? = some d → J.yld i H1 x H2 → Same H1 H2 ∧ Rep K H2 x d
  stop : ∀ (i : Nat) (H' : Hp), Ext H H' → ds.length ≤ i → J.stop i H'
section
variable {X : Cx} {xc : XC} {W : WX}
def PostI (K : PySem.W.Frag) (xc : XC) (W : WX) (σ : L2.St) (w : Wd) (H : Hp) (Q : It → Hp → Prop) : R (List D) → Prop
  | .ok ds s' => ∀ J H' w', Go w H w' H' → Sto K w' s' H' → ItOk K J H' ds → Q J H'
  | .exc c f s' => ∀ x v H' w', Go w H w' H' → Sto K w' s' H' → H' x = some (.xd [(xc.fld c, v)]) → Rep K H' v f → W (.ref (xc.cls c)) (some x) σ H'
  | .stuck => False
def tI (K : PySem.W.Frag) (xc : XC) (W : WX) (m : Env' → M (List D)) : TI := fun σ H R => ∃ w env s, Rel K w env s σ H ∧ PostI K xc W σ w H R (m env s)
theorem PostI.mono {K : PySem.W.Frag} {σ : L2.St} {w w1 : Wd} {H H1 : Hp} {Q : It → Hp → Prop} (g : Go w H w1 H1) : ∀ {r : R (List D)}, PostI K xc W σ w H Q r → PostI K xc W σ w1 H1 Q r
  | .ok d s', h => fun v H' w' g' t r => h v H' w' (g.trans g') t r
  | .exc c f s', h => fun x v H' w' g' t e r => h x v H' w' (g.trans g') t e r
  | .stuck, h => h
theorem PostI.bind {K : PySem.W.Frag} {σ : L2.St} {w : Wd} {H : Hp} {Q : It → Hp → Prop} {x : M D} {f : D → M (List D)} {s : SS} (h : PostI K xc W σ w H Q ((x >>= f) s)) :
    Post K xc W σ w H (fun v H1 => ∃ w1 d s1, Go w H w1 H1 ∧ Sto K w1 s1 H1 ∧ RepT K w1 H1 v d ∧ PostI K xc W σ w1 H1 Q (f d s1)) (x s) := by
  rw [M_bind] at h
  unfold M.bnd at h
  cases q : x s with
  | ok d s' =>
    rw [q] at h
    intro v H' w' g t r
    exact ⟨w', d, s', g, t, r, h.mono g⟩
  | exc c f' s' => rw [q] at h; exact h
  | stuck => rw [q] at h; exact h
theorem PostI.bindA {K : PySem.W.Frag} {σ : L2.St} {w : Wd} {H : Hp} {Q : It → Hp → Prop} {x : M (List D)} {f : List D → M (List D)} {s : SS} (h : PostI K xc W σ w H Q ((x >>= f) s)) :
    PostA K xc W σ w H (fun vs H1 => ∃ w1 ds s1, Go w H w1 H1 ∧ Sto K w1 s1 H1 ∧ RepTs K w1 H1 vs ds ∧ PostI K xc W σ w1 H1 Q (f ds s1)) (x s) := by
  rw [M_bind] at h
  unfold M.bnd at h
  cases q : x s with
  | ok d s' =>
    rw [q] at h
    intro v H' w' g t r
    exact ⟨w', d, s', g, t, r, h.mono g⟩
  | exc c f' s' => rw [q] at h; exact h
  | stuck => rw [q] at h; exact h
theorem piimp {tg e : Expr} {t t' : TI} (h : PI X tg e t) (hi : ∀ σ H Q, t' σ H Q → t σ H Q) : PI X tg e t' :=
  ⟨fun pins s σ H Q I q => h.run pins s σ H Q I (hi σ H Q q)⟩

theorem it_list {K : PySem.W.Frag} {H : Hp} {a : Addr} {vs : List V} {ds : List D} (h : FzL H a vs) (r : Reps K H vs ds) : ItOk K (Itl K a) H ds where
  go := fun i H' x hi => by
    obtain ⟨v, e, _⟩ := r.get (List.getElem?_eq_getElem hi)
    exact ⟨vs, v, (h.mono x).sq, e⟩
  yld := fun i d H1 v H2 x e y => by
    obtain ⟨e1, y⟩ := y
    subst e1
    obtain ⟨u, e2, ru⟩ := r.get e
    have e3 := y vs (h.mono x).sq
    rw [e2] at e3
    cases e3
    exact ⟨Same.refl _, ru.mono x⟩
  stop := fun i H' x hi => ⟨vs, (h.mono x).sq, by rw [r.length]; exact hi⟩
theorem it_tup {K : PySem.W.Frag} {H : Hp} {a : Addr} {vs : List V} {ds : List D} (h : FzT K H a vs) (r : Reps K H vs ds) : ItOk K (Itt K a) H ds where
  go := fun i H' x hi => by
    obtain ⟨v, e, _⟩ := r.get (List.getElem?_eq_getElem hi)
    exact ⟨vs, v, (h.mono x).sq, e⟩
  yld := fun i d H1 v H2 x e y => by
    obtain ⟨e1, y⟩ := y
    subst e1
    obtain ⟨u, e2, ru⟩ := r.get e
    have e3 := y vs (h.mono x).sq
    rw [e2] at e3
    cases e3
    exact ⟨Same.refl _, ru.mono x⟩
  stop := fun i H' x hi => ⟨vs, (h.mono x).sq, by rw [r.length]; exact hi⟩
theorem it_str {K : PySem.W.Frag} {H : Hp} (z : Str) : ItOk K (Its z) H (z.cps.toList.map fun c => .str ⟨#[c]⟩) where
  go := fun i H' x hi => by
    show i < z.cps.size
    simpa using hi
  yld := fun i d H1 v H2 x e y => by
    obtain ⟨e1, c, e2, e3⟩ := y
    subst e1 e3
    rw [List.getElem?_map, Array.getElem?_toList, e2] at e
    cases e
    exact ⟨Same.refl _, .str _⟩
  stop := fun i H' x hi => by
    show z.cps.size ≤ i
    simpa using hi
theorem it_rng {K : PySem.W.Frag} {H : Hp} (lo hi : Int) : ItOk K (Itr lo (hi - lo).toNat) H (rangeL lo hi) where
  go := fun i H' x h => by
    show i < (hi - lo).toNat
    simpa [rangeL] using h
  yld := fun i d H1 v H2 x e y => by
    obtain ⟨e1, e2⟩ := y
    subst e1 e2
    unfold rangeL at e
    rw [List.getElem?_map] at e
    cases q : (List.range (hi - lo).toNat)[i]? with
    | none => rw [q] at e; cases e
    | some k =>
      rw [q] at e; cases e
      obtain ⟨h1, h2⟩ := List.getElem?_eq_some_iff.mp q
      rw [List.getElem_range] at h2
      subst h2
      exact ⟨Same.refl _, .int _⟩
  stop := fun i H' x h => by
    show (hi - lo).toNat ≤ i
    simpa [rangeL] using h
theorem zip_get {xs ys : List D} {i : Nat} {d : D} (e : ((xs.zip ys).map fun p : D × D => D.tup [p.1, p.2])[i]? = some d) : ∃ x y, xs[i]? = some x ∧ ys[i]? = some y ∧ d = .tup [x, y] := by
  rw [List.getElem?_map] at e
  cases q : (xs.zip ys)[i]? with
  | none => rw [q] at e; cases e
  | some p =>
    rw [q] at e; cases e
    obtain ⟨h1, h2⟩ := List.getElem?_zip_eq_some.mp q
    exact ⟨_, _, h1, h2, rfl⟩
theorem it_zipT {K : PySem.W.Frag} {H : Hp} {a b : Addr} {vs us : List V} {ds es : List D} (h : FzT K H a vs) (r : Reps K H vs ds) (h' : FzT K H b us) (r' : Reps K H us es) : ItOk K (RZ.ItzT K a b) H ((ds.zip es).map fun p => .tup [p.1, p.2]) where
  go := fun i H' x hi => by
    rw [List.length_map, List.length_zip] at hi
    obtain ⟨v, e, _⟩ := r.get (List.getElem?_eq_getElem (show i < ds.length by omega))
    obtain ⟨u, e', _⟩ := r'.get (List.getElem?_eq_getElem (show i < es.length by omega))
    exact ⟨vs, us, v, u, (h.mono x).sq, (h'.mono x).sq, e, e'⟩
  yld := fun i d H1 v H2 x e y => by
    obtain ⟨T, v1, v2, rfl, hT, rfl, y1, y2⟩ := y
    obtain ⟨d1, d2, q1, q2, rfl⟩ := zip_get e
    obtain ⟨u1, k1, ru1⟩ := r.get q1
    obtain ⟨u2, k2, ru2⟩ := r'.get q2
    have z1 := y1 vs (h.mono x).sq
    have z2 := y2 us (h'.mono x).sq
    rw [k1] at z1
    rw [k2] at z2
    cases z1; cases z2
    have sm : Same H1 (upd H1 T (.tup [v1, v2])) := snew hT
    exact ⟨sm, .tup upd_same (.cons ((ru1.mono x).mono (sext sm)) (.cons ((ru2.mono x).mono (sext sm)) .nil))⟩
  stop := fun i H' x hi => by
    rw [List.length_map, List.length_zip] at hi
    refine ⟨vs, us, (h.mono x).sq, (h'.mono x).sq, ?_⟩
    rw [r.length, r'.length]; omega
theorem it_zipL {K : PySem.W.Frag} {H : Hp} {a b : Addr} {vs us : List V} {ds es : List D} (h : FzL H a vs) (r : Reps K H vs ds) (h' : FzL H b us) (r' : Reps K H us es) : ItOk K (Itz K a b) H ((ds.zip es).map fun p => .tup [p.1, p.2]) where
  go := fun i H' x hi => by
    rw [List.length_map, List.length_zip] at hi
    obtain ⟨v, e, _⟩ := r.get (List.getElem?_eq_getElem (show i < ds.length by omega))
    obtain ⟨u, e', _⟩ := r'.get (List.getElem?_eq_getElem (show i < es.length by omega))
    exact ⟨vs, us, v, u, (h.mono x).sq, (h'.mono x).sq, e, e'⟩
  yld := fun i d H1 v H2 x e y => by
    obtain ⟨T, v1, v2, rfl, hT, rfl, y1, y2⟩ := y
    obtain ⟨d1, d2, q1, q2, rfl⟩ := zip_get e
    obtain ⟨u1, k1, ru1⟩ := r.get q1
    obtain ⟨u2, k2, ru2⟩ := r'.get q2
    have z1 := y1 vs (h.mono x).sq
    have z2 := y2 us (h'.mono x).sq
    rw [k1] at z1
    rw [k2] at z2
    cases z1; cases z2
    have sm : Same H1 (upd H1 T (.tup [v1, v2])) := snew hT
    exact ⟨sm, .tup upd_same (.cons ((ru1.mono x).mono (sext sm)) (.cons ((ru2.mono x).mono (sext sm)) .nil))⟩
  stop := fun i H' x hi => by
    rw [List.length_map, List.length_zip] at hi
    refine ⟨vs, us, (h.mono x).sq, (h'.mono x).sq, ?_⟩
    rw [r.length, r'.length]; omega
theorem enumL_len : ∀ (k : Nat) (xs : List D), (enumL k xs).length = xs.length
  | _, [] => rfl
  | k, x :: xs => by simp [enumL, enumL_len (k + 1) xs]
theorem enumL_get : ∀ (k : Nat) (xs : List D) (i : Nat) (d : D), (enumL k xs)[i]? = some d → ∃ x, xs[i]? = some x ∧ d = .tup [.int ((k + i : Nat) : Int), x]
  | _, [], _, _, e => by simp [enumL] at e
  | k, x :: xs, 0, d, e => by
    simp [enumL] at e
    exact ⟨x, rfl, e.symm⟩
  | k, x :: xs, i + 1, d, e => by
    simp only [enumL, List.getElem?_cons_succ] at e
    obtain ⟨y, h1, h2⟩ := enumL_get (k + 1) xs i d e
    refine ⟨y, by simpa using h1, ?_⟩
    rw [h2]
    have : k + 1 + i = k + (i + 1) := by omega
    rw [this]
theorem it_enum {K : PySem.W.Frag} {H : Hp} {a : Addr} {vs : List V} {ds : List D} (h : FzL H a vs) (r : Reps K H vs ds) : ItOk K (Ite K a) H (enumL 0 ds) where
  go := fun i H' x hi => by
    rw [enumL_len] at hi
    obtain ⟨v, e, _⟩ := r.get (List.getElem?_eq_getElem hi)
    exact ⟨vs, v, (h.mono x).sq, e⟩
  yld := fun i d H1 v H2 x e y => by
    obtain ⟨T, v1, rfl, hT, rfl, y1⟩ := y
    obtain ⟨d1, q1, rfl⟩ := enumL_get 0 ds i d e
    obtain ⟨u1, k1, ru1⟩ := r.get q1
    have z1 := y1 vs (h.mono x).sq
    rw [k1] at z1
    cases z1
    have sm : Same H1 (upd H1 T (.tup [.int (i : Nat), v1])) := snew hT
    refine ⟨sm, .tup upd_same (.cons ?_ (.cons ((ru1.mono x).mono (sext sm)) .nil))⟩
    rw [Nat.zero_add]; exact .int _
  stop := fun i H' x hi => by
    rw [enumL_len] at hi
    exact ⟨vs, (h.mono x).sq, by rw [r.length]; exact hi⟩

/-- a list, a tuple or a text is walked -/
theorem pdi_walk {tg e : Expr} {m : Env' → M D} (he : PE X e (tE X.K xc W m)) : PI X tg e (tI X.K xc W fun env => walkM (m env)) := by
  refine ⟨fun pins s σ H R I ⟨w, env, ss, rel, p⟩ => ?_⟩
  have key : PE X e fun σ H Q => tE X.K xc W m σ H (FrO Q) := pfro he
  refine thn (key.run pins s σ H (fun v H1 => ∃ w1 d s1, Go w H w1 H1 ∧ Sto X.K w1 s1 H1 ∧ RepT X.K w1 H1 v d ∧ PostI X.K xc W σ w1 H1 R (M.opt (itemsD d) s1)) I ?_) fun v s1 ⟨x, H1, I1, r1, w1, d, s2, g, t, r, p1⟩ => ?_
  · refine ⟨w, env, ss, rel, (PostI.bind p).imp fun v H1 ⟨w1, d, s1, g, t, r, p1⟩ => ?_⟩
    have q := frz_read (K := X.K) (PQ := fun w H r => PostI X.K xc W σ w H R r) (fun g h => h.mono g) (fun _ _ h => h) t r p1
    rcases q with ⟨w2, d2, s2, g2, rest⟩ | ⟨a, xs, e1, e2, mu, q⟩
    · exact .inl ⟨w2, d2, s2, g.trans g2, rest⟩
    · refine .inr ⟨a, xs, e1, e2, mu, fun o => ?_⟩
      obtain ⟨w2, d2, s2, g2, rest⟩ := q o
      exact ⟨w2, d2, s2, g.trans g2, rest⟩
  · cases d with
    | tup ds =>
      cases r with
      | @tup a vs _ h rs =>
      cases r1
      obtain ⟨its, rv, pt, hz⟩ := I1.tuple h.sq
      refine wpAny_pyIter_tuple (show s1.heap.IsTuple a its.toArray from pt) ?_
      refine ⟨s1.heap.objs.size, [s1.heap.objs.size], _, _, H1, rfl, I1.kept (t' := s1.toks) fun b o e => Heap.get?_push_of_some _ e, turn_tuple a _, ⟨_, Heap.get?_push_size _ rfl, rfl, rfl⟩, fun b hb => ?_, p1 _ H1 w1 (Go.refl _ _) t (it_tup h rs)⟩
      have e : b = s1.heap.objs.size := by simpa using hb
      subst e
      exact I1.fpOk (Nat.le_refl _) (I1.hok.fresh (Nat.le_refl _))
    | lst ds =>
      cases r with
      | @lst a vs _ h rs =>
      cases r1
      obtain ⟨its, rv, pl, hz⟩ := I1.list (show SqL X.K H1 a vs from h.sq)
      refine wpAny_pyIter_list pl.isList ?_
      refine ⟨s1.heap.objs.size, [s1.heap.objs.size], _, _, H1, rfl, I1.kept (t' := s1.toks) fun b o e => Heap.get?_push_of_some _ e, turn_list a _, ⟨_, Heap.get?_push_size _ rfl, rfl, rfl⟩, fun b hb => ?_, p1 _ H1 w1 (Go.refl _ _) t (it_list h rs)⟩
      have e : b = s1.heap.objs.size := by simpa using hb
      subst e
      exact I1.fpOk (Nat.le_refl _) (I1.hok.fresh (Nat.le_refl _))
    | str z =>
      cases r
      obtain ⟨tk, rfl⟩ := r1
      have q := p1 (Its z) H1 w1 (Go.refl _ _) t (it_str z)
      cases ha : z.cps.all (· < 128)
      · exact wpAny_pyIter_wide ha (pi_one (tk := s1.toks) I1 _ (turn_str _ z tk "str_iterator" (.inr rfl)) ⟨_, Heap.get?_push_size _ rfl, rfl, rfl⟩ q)
      · exact wpAny_pyIter_ascii ha (pi_one (tk := s1.toks) I1 _ (turn_str _ z tk "str_ascii_iterator" (.inl rfl)) ⟨_, Heap.get?_push_size _ rfl, rfl, rfl⟩ q)
    | _ => exact p1.elim
theorem inR_ok {i : Int} (h : inR i = true) : -(2 ^ 62) ≤ i ∧ i < 2 ^ 62 := by
  unfold inR at h
  rw [Bool.and_eq_true, decide_eq_true_eq, decide_eq_true_eq] at h
  exact h
theorem int_ts {K : PySem.W.Frag} {w : Wd} {H : Hp} {vs : List V} {i : Int} (r : RepTs K w H vs [.int i]) : vs = [.int i] := by
  cases r with
  | cons h r => cases r; cases h; rfl
theorem int_ts2 {K : PySem.W.Frag} {w : Wd} {H : Hp} {vs : List V} {i j : Int} (r : RepTs K w H vs [.int i, .int j]) : vs = [.int i, .int j] := by
  cases r with
  | cons h r => cases r with
    | cons h2 r => cases r; cases h; cases h2; rfl
theorem pdi_rng1 {tg a : Expr} {p pos : Pos} {ms : Env' → M (List D)} (hg : Gl X "range") (hm : X.mg "range" = none) (ha : PA X [a] (tA X.K xc W ms)) (hs : starEach [a] X.env = [(false, eval a X.env)]) (h1 : ∀ env s ds s', ms env s = .ok ds s' → ds.length = 1) :
    PI X tg (.Call (.Name "range" p) [a] [] pos) (tI X.K xc W fun env => rangeM (ms env)) :=
  piimp (pi_range1 hg hm ha hs) fun σ H R ⟨w, env, s, rel, p⟩ => by
    refine ⟨w, env, s, rel, ?_⟩
    have b := PostI.bindA p
    cases q : ms env s with
    | ok ds s' =>
      rw [q] at b
      have hl := h1 env s ds s' q
      match ds, hl with
      | [d], _ =>
        intro vs H1 w1 g t r
        obtain ⟨w2, ds2, s2, g2, t2, r2, p2⟩ := b vs H1 w1 g t r
        have p' : PostI X.K xc W σ w H R (M.bnd (ms env) _ s) := p
        unfold M.bnd at p'
        rw [q] at p'
        cases d with
        | int j =>
          dsimp only at p'
          by_cases hj : inR j = true
          · rw [if_pos hj] at p'
            have e := int_ts r
            subst e
            obtain ⟨k1, k2⟩ := inR_ok hj
            refine ⟨j, rfl, k1, k2, ?_⟩
            have z := it_rng (K := X.K) (H := H1) 0 j
            rw [Int.sub_zero] at z
            exact p' _ H1 w1 g t z
          · rw [if_neg hj] at p'; exact p'.elim
        | _ => exact p'.elim
    | exc c f s' => rw [q] at b; exact b
    | stuck => rw [q] at b; exact b
theorem pdi_rng2 {tg a c : Expr} {p pos : Pos} {ms : Env' → M (List D)} (hg : Gl X "range") (hm : X.mg "range" = none) (ha : PA X [a, c] (tA X.K xc W ms)) (hs : starEach [a, c] X.env = [(false, eval a X.env), (false, eval c X.env)])
    (hs2 : starEach [c] X.env = [(false, eval c X.env)]) (h1 : ∀ env s ds s', ms env s = .ok ds s' → ds.length = 2) :
    PI X tg (.Call (.Name "range" p) [a, c] [] pos) (tI X.K xc W fun env => rangeM (ms env)) :=
  piimp (pi_range2 hg hm ha hs hs2) fun σ H R ⟨w, env, s, rel, p⟩ => by
    refine ⟨w, env, s, rel, ?_⟩
    have p' : PostI X.K xc W σ w H R (M.bnd (ms env) _ s) := p
    unfold M.bnd at p'
    cases q : ms env s with
    | ok ds s' =>
      rw [q] at p'
      have hl := h1 env s ds s' q
      match ds, hl with
      | [d, d2], _ =>
        intro vs H1 w1 g t r
        cases d with
        | int i =>
          cases d2 with
          | int j =>
            dsimp only at p'
            by_cases hj : (inR i && inR j) = true
            · rw [if_pos hj] at p'
              rw [Bool.and_eq_true] at hj
              have e := int_ts2 r
              subst e
              obtain ⟨k1, k2⟩ := inR_ok hj.1
              obtain ⟨k3, k4⟩ := inR_ok hj.2
              exact ⟨i, j, rfl, ⟨k1, k2, k3, k4⟩, p' _ H1 w1 g t (it_rng i j)⟩
            · rw [if_neg hj] at p'; exact p'.elim
          | _ => exact p'.elim
        | _ => exact p'.elim
    | exc c f s' => rw [q] at p'; exact p'
    | stuck => rw [q] at p'; exact p'
theorem pdi_zip {a c : Expr} {p pos tpos : Pos} {elts : List Expr} {kk : Nat} {ms : Env' → M (List D)} (hg : Gl X "zip") (hm : X.mg "zip" = none) (ha : PA X [a, c] (tA X.K xc W ms)) (hs : starEach [a, c] X.env = (false, eval a X.env) :: starEach [c] X.env)
    (hpl : (backTo pos (starEach [c] X.env)).any (·.1) = false) : PI X (.Tuple elts kk tpos) (.Call (.Name "zip" p) [a, c] [] pos) (tI X.K xc W fun env => zipM (ms env)) :=
  piimp (RZ.pi_zipA hg hm ha hs hpl) fun σ H R ⟨w, env, s, rel, p⟩ => by
    refine ⟨w, env, s, rel, ?_⟩
    have p' : PostI X.K xc W σ w H R (M.bnd (ms env) _ s) := p
    unfold M.bnd at p'
    cases q : ms env s with
    | ok ds s' =>
      rw [q] at p'
      dsimp only at p'
      intro vs H1 w1 g t r
      split at p'
      · cases r with
        | cons h r => cases r with
          | cons h2 r => cases r; cases h with
            | tup h r1 => cases h2 with
              | tup h2 r2 => exact ⟨_, _, _, _, rfl, .inr ⟨h.sq, h2.sq, p' _ H1 w1 g t (it_zipT h r1 h2 r2)⟩⟩
      · cases r with
        | cons h r => cases r with
          | cons h2 r => cases r; cases h with
            | lst h r1 => cases h2 with
              | lst h2 r2 => exact ⟨_, _, _, _, rfl, .inl ⟨h.sq, h2.sq, p' _ H1 w1 g t (it_zipL h r1 h2 r2)⟩⟩
      · exact p'.elim
    | exc c f s' => rw [q] at p'; exact p'
    | stuck => rw [q] at p'; exact p'
theorem pdi_enum {a : Expr} {p pos tpos : Pos} {elts : List Expr} {kk : Nat} {ms : Env' → M (List D)} (hg : Gl X "enumerate") (hm : X.mg "enumerate" = none) (ha : PA X [a] (tA X.K xc W ms)) (hs : starEach [a] X.env = [(false, eval a X.env)]) :
    PI X (.Tuple elts kk tpos) (.Call (.Name "enumerate" p) [a] [] pos) (tI X.K xc W fun env => enumM (ms env)) :=
  piimp (pi_enum hg hm ha hs) fun σ H R ⟨w, env, s, rel, p⟩ => by
    refine ⟨w, env, s, rel, ?_⟩
    have p' : PostI X.K xc W σ w H R (M.bnd (ms env) _ s) := p
    unfold M.bnd at p'
    cases q : ms env s with
    | ok ds s' =>
      rw [q] at p'
      dsimp only at p'
      intro vs H1 w1 g t r
      split at p'
      · cases r with
        | cons h r => cases r; cases h with
          | lst h r1 => exact ⟨_, _, rfl, h.sq, p' _ H1 w1 g t (it_enum h r1)⟩
      · exact p'.elim
    | exc c f s' => rw [q] at p'; exact p'
    | stuck => rw [q] at p'; exact p'
end
end PI

set_option maxHeartbeats 1000000
/-! PI, part j: targets, comprehensions. -/
namespace PI
open PySem L2
/-- slots but those of l are kept -/
structure Frm (l : List Nat) (σ σ' : L2.St) : Prop where
  len : σ'.length = σ.length
  kp : ∀ j : Nat, j ∉ l → σ'[j]? = σ[j]?
theorem Frm.refl (l : List Nat) (σ : L2.St) : Frm l σ σ := ⟨rfl, fun _ _ => rfl⟩
theorem Frm.trans {l : List Nat} {σ σ1 σ2 : L2.St} (a : Frm l σ σ1) (b : Frm l σ1 σ2) : Frm l σ σ2 := ⟨b.len.trans a.len, fun j h => (b.kp j h).trans (a.kp j h)⟩
theorem Frm.mono {l l' : List Nat} {σ σ' : L2.St} (a : Frm l σ σ') (h : ∀ j ∈ l, j ∈ l') : Frm l' σ σ' := ⟨a.len, fun j hj => a.kp j fun z => hj (h j z)⟩
section
variable {X : Cx} {xc : XC} {W : WX}
def tG (K : PySem.W.Frag) (t : T) : TG := fun v σ H Q => ∃ w env s d env', Rel K w env s σ H ∧ RepT K w H v d ∧ asgT t d env = some env' ∧ ∀ σ', Rel K w env' s σ' H → Frm (slotsT t) σ σ' → Q σ' H
def tGs (K : PySem.W.Frag) (ts : List T) : TGs := fun vs σ H Q => ∃ w env s ds env', Rel K w env s σ H ∧ RepTs K w H vs ds ∧ asgTs ts ds env = some env' ∧ ∀ σ', Rel K w env' s σ' H → Frm (slotsTs ts) σ σ' → Q σ' H
theorem pgimp {e : Expr} {t t' : TG} (h : PG X e t) (hi : ∀ v σ H Q, t' v σ H Q → t v σ H Q) : PG X e t' :=
  ⟨fun pins s σ H v u Q I r q => h.run pins s σ H v u Q I r (hi v σ H Q q)⟩
theorem pgsimp {e : List Expr} {t t' : TGs} (h : PGs X e t) (hi : ∀ v σ H Q, t' v σ H Q → t v σ H Q) : PGs X e t' :=
  ⟨fun pins s σ H v u Q I r q => h.run pins s σ H v u Q I r (hi v σ H Q q)⟩
theorem Rel.set {K : PySem.W.Frag} {w : Wd} {env : Env'} {s : SS} {σ : L2.St} {H : Hp} {i : Nat} {v : V} {d : D} (r : Rel K w env s σ H) (q : RepT K w H v d) : Rel K w (env.set i (some d)) s (σ.set i (some v)) H := by
  refine ⟨by rw [List.length_set, List.length_set]; exact r.len, fun j e h => ?_, r.st⟩
  by_cases hj : i = j
  · subst hj
    have hi : i < env.length := by
      have := (List.getElem?_eq_some_iff.mp h).1
      rwa [List.length_set] at this
    rw [List.getElem?_set_self hi] at h
    cases h
    exact ⟨v, List.getElem?_set_self (by rw [← r.len]; exact hi), q⟩
  · rw [List.getElem?_set_ne hj] at h
    rw [List.getElem?_set_ne hj]
    exact r.sl j e h
theorem frm_set (σ : L2.St) (i : Nat) (v : Option V) : Frm [i] σ (σ.set i v) := ⟨List.length_set, fun j h => List.getElem?_set_ne fun z => h (by rw [z]; exact List.mem_singleton.mpr rfl)⟩
theorem pdg_nm {x : Str} {pos : Pos} {i : Nat} (h : PG X (.Name x pos) (gName i)) : PG X (.Name x pos) (tG X.K (.nm i)) :=
  pgimp h fun v σ H Q ⟨w, env, s, d, env', rel, r, e, q⟩ => by
    unfold asgT at e
    split at e
    · cases e
      exact q _ (rel.set r) (by unfold slotsT; exact frm_set σ i _)
    · cases e
theorem pdgs_nil : PGs X [] (tGs X.K []) :=
  pgsimp pgs_nil fun vs σ H Q ⟨w, env, s, ds, env', rel, r, e, q⟩ => by
    cases ds with
    | nil =>
      cases r
      unfold asgTs at e
      cases e
      exact ⟨rfl, q σ rel (Frm.refl _ σ)⟩
    | cons d ds => unfold asgTs at e; cases e
theorem pdgs_cons {e : Expr} {es : List Expr} {t : T} {ts : List T} (h1 : PG X e (tG X.K t)) (h2 : PGs X es (tGs X.K ts)) (hs : (assignEach (e :: es) X.env).map (·.2) = assign e X.env :: (assignEach es X.env).map (·.2)) : PGs X (e :: es) (tGs X.K (t :: ts)) :=
  pgsimp (pgs_cons h1 h2 hs) fun vs σ H Q ⟨w, env, s, ds, env', rel, r, e, q⟩ => by
    cases r with
    | nil => unfold asgTs at e; cases e
    | @cons v vs d ds rv rs =>
      unfold asgTs at e
      obtain ⟨env1, e1, e2⟩ := Option.bind_eq_some_iff.mp e
      refine ⟨v, vs, rfl, w, env, s, d, env1, rel, rv, e1, fun σ1 rel1 f1 => ?_⟩
      refine ⟨w, env1, s, ds, env', rel1, rs, e2, fun σ2 rel2 f2 => q σ2 rel2 ?_⟩
      unfold slotsTs
      exact (f1.mono fun j h => List.mem_append_left _ h).trans (f2.mono fun j h => List.mem_append_right _ h)
theorem asgTs_len : ∀ {ts : List T} {ds : List D} {env env' : Env'}, asgTs ts ds env = some env' → ds.length = ts.length
  | [], [], _, _, _ => rfl
  | [], _ :: _, _, _, e => by unfold asgTs at e; cases e
  | _ :: _, [], _, _, e => by unfold asgTs at e; cases e
  | t :: ts, d :: ds, env, env', e => by
    unfold asgTs at e
    obtain ⟨env1, e1, e2⟩ := Option.bind_eq_some_iff.mp e
    simp [asgTs_len e2]
theorem pdg_tup {es : List Expr} {k : Nat} {pos : Pos} {ts : List T} (hc : X.calm = true) (h : PGs X es (tGs X.K ts)) (hn : (assignEach es X.env).length = ts.length) (hst : (assignEach es X.env).findIdx? (·.1) = none) : PG X (.Tuple es k pos) (tG X.K (.tup ts)) :=
  pgimp (pg_tup hc h hn hst) fun v σ H Q ⟨w, env, s, d, env', rel, r, e, q⟩ => by
    cases d with
    | tup ds =>
      cases r with
      | tup hf rs =>
      unfold asgT at e
      refine ⟨_, _, rfl, hf.sq, ?_, w, env, s, ds, env', rel, rs.ts, e, fun σ' rel' f => q σ' rel' (by unfold slotsT; exact f)⟩
      rw [rs.length, asgTs_len e]
    | _ => unfold asgT at e; cases e

/-! ### the block of a comprehension -/
theorem wipeE_len (env : Env') : ∀ vs : List Nat, (wipeE env vs).length = env.length
  | [] => rfl
  | v :: vs => by unfold wipeE; rw [List.length_set, wipeE_len env vs]
theorem wipeE_some {env : Env'} {i : Nat} {d : D} : ∀ {vs : List Nat}, (wipeE env vs)[i]? = some (some d) → env[i]? = some (some d) ∧ i ∉ vs
  | [], h => ⟨h, by simp⟩
  | v :: vs, h => by
    unfold wipeE at h
    by_cases hi : v = i
    · subst hi
      by_cases hv : v < (wipeE env vs).length
      · rw [List.getElem?_set_self hv] at h; cases h
      · rw [List.getElem?_eq_none (by simpa using hv)] at h; cases h
    · rw [List.getElem?_set_ne hi] at h
      obtain ⟨h1, h2⟩ := wipeE_some h
      exact ⟨h1, by simp only [List.mem_cons, not_or]; exact ⟨fun e => hi e.symm, h2⟩⟩
theorem wipe_get {σ : L2.St} {i : Nat} : ∀ {vs : List Nat}, i ∉ vs → (wipe σ vs)[i]? = σ[i]?
  | [], _ => rfl
  | v :: vs, h => by
    simp only [List.mem_cons, not_or] at h
    unfold wipe
    rw [List.getElem?_set_ne (fun e => h.1 e.symm), wipe_get h.2]
theorem Rel.wipe {K : PySem.W.Frag} {w : Wd} {env : Env'} {s : SS} {σ : L2.St} {H : Hp} (r : Rel K w env s σ H) (vs : List Nat) : Rel K w (wipeE env vs) s (wipe σ vs) H := by
  refine ⟨by rw [wipeE_len, wipe_length]; exact r.len, fun i d h => ?_, r.st⟩
  obtain ⟨h1, h2⟩ := wipeE_some h
  rw [wipe_get h2]
  exact r.sl i d h1
theorem wipe_mem {σ : L2.St} {i : Nat} : ∀ {vs : List Nat}, i ∈ vs → i < σ.length → (wipe σ vs)[i]? = some none
  | v :: vs, h, hl => by
    unfold wipe
    by_cases hi : v = i
    · subst hi
      exact List.getElem?_set_self (by rw [wipe_length]; exact hl)
    · rw [List.getElem?_set_ne hi]
      rcases List.mem_cons.mp h with e | h
      · exact absurd e.symm hi
      · exact wipe_mem h hl
/-- the block's own slots alone have changed -/
theorem wipe_frm {vs : List Nat} {σ σ' : L2.St} (f : Frm vs σ σ') : wipe σ' vs = wipe σ vs := by
  apply List.ext_getElem?
  intro i
  by_cases hi : i ∈ vs
  · by_cases hl : i < σ.length
    · rw [wipe_mem hi hl, wipe_mem hi (by rw [f.len]; exact hl)]
    · rw [List.getElem?_eq_none (by rw [wipe_length, f.len]; omega), List.getElem?_eq_none (by rw [wipe_length]; omega)]
  · rw [wipe_get hi, wipe_get hi, f.kp i hi]
theorem wipe_wipe (σ : L2.St) (vs : List Nat) : wipe (wipe σ vs) vs = wipe σ vs :=
  wipe_frm ⟨wipe_length _ _, fun j h => wipe_get h⟩
/-- what may change is there -/
theorem ws_some {K : PySem.W.Frag} {w : Wd} {s : SS} {H : Hp} (t : Sto K w s H) {a : Addr} (h : a ∈ w.ws) : ∃ o, H a = some o := by
  unfold Wd.ws at h
  rcases List.mem_append.mp h with h | h
  · have hm := t.m
    cases em : w.m with
    | none => rw [em] at h; cases h
    | some p =>
      obtain ⟨am, al⟩ := p
      rw [em] at h hm
      cases es : s.m with
      | none => rw [es] at hm; exact hm.elim
      | some m =>
        rw [es] at hm
        obtain ⟨cc, h1, h2, h3, h4⟩ := hm
        simp at h
        rcases h with rfl | rfl
        · exact ⟨_, h1⟩
        · exact ⟨_, h3⟩
  · obtain ⟨i, hi, e⟩ := List.getElem_of_mem h
    have hs : i < s.cs.length := by rw [← t.len]; exact hi
    have hc := t.cs i a _ (by rw [← e]; exact List.getElem?_eq_getElem hi) (List.getElem?_eq_getElem hs)
    exact hc.there
/-- an address that is not among what may change stays outside -/
theorem Go.out {w w' : Wd} {H H' : Hp} (g : Go w H w' H') {a : Addr} {o : HO} (e : H a = some o) (n : a ∉ w.ws) : a ∉ w'.ws := fun h => by
  rcases g.gr a h with z | z
  · exact n z
  · rw [z] at e; cases e

/-- a turn's reading: the target, the test, the element -/
theorem turn_read {K : PySem.W.Frag} {σ : L2.St} {vs : List Nat} {t : T} {tst el : Env' → M D} {w : Wd} {env : Env'} {s : SS} {H : Hp} {x : V} {d : D} {QY : V → Hp → Prop} {QN : Hp → Prop}
    (hsub : ∀ j ∈ slotsT t, j ∈ vs) (rel : Rel K w env s (wipe σ vs) H) (rx : Rep K H x d)
    (p : match turnM t tst el env d s with
      | .ok (some y) s' => ∀ v H' w', Go w H w' H' → Sto K w' s' H' → Rep K H' v y → QY v H'
      | .ok none s' => ∀ H' w', Go w H w' H' → Sto K w' s' H' → QN H'
      | _ => False) :
    tG K t x (wipe σ vs) H fun σ2 H2 => wipe σ2 vs = wipe σ vs ∧ tTst K xc (fun _ _ _ _ => False) tst σ2 H2 fun b H3 =>
      if b = true then tE K xc (fun _ _ _ _ => False) (fun env => el env >>= frz) σ2 H3 fun y H4 => QY y H4
      else QN H3 := by
  unfold turnM at p
  cases e : asgT t d env with
  | none => simp only [e] at p; exact p.elim
  | some env' =>
    simp only [e] at p
    refine ⟨w, env, s, d, env', rel, .of rx, e, fun σ2 rel2 f => ⟨?_, ?_⟩⟩
    · rw [wipe_frm (f.mono hsub), wipe_wipe]
    · refine ⟨w, env', s, rel2, ?_⟩
      unfold iteM at p
      rw [M_bind] at p
      unfold M.bnd at p
      cases q : tst env' s with
      | ok b s1 =>
        rw [q] at p
        intro v H3 w3 g3 t3 r3
        cases b with
        | bl b =>
          refine ⟨b, bl_of r3, ?_⟩
          cases b with
          | true =>
            dsimp only at p
            rw [if_pos rfl]
            refine ⟨w3, env', s1, rel2.go g3 t3, ?_⟩
            show Post K xc (fun _ _ _ _ => False) σ2 w3 H3 _ (M.bnd (el env') frz s1)
            rw [M_bind] at p
            unfold M.bnd at p ⊢
            cases q2 : el env' s1 with
            | ok y s2 =>
              rw [q2] at p
              dsimp only at p ⊢
              rw [M_bind] at p
              unfold M.bnd at p
              cases q3 : frz y s2 with
              | ok z s3 =>
                rw [q3] at p
                dsimp only at p ⊢
                by_cases hz : pureB z = true
                · rw [if_pos hz] at p
                  intro u H4 w4 g4 t4 r4
                  have r4' := RepT.pure hz r4
                  exact p u H4 w4 (g3.trans g4) t4 r4'
                · rw [if_neg hz] at p; exact p.elim
              | exc _ _ _ => rw [q3] at p; exact p.elim
              | stuck => rw [q3] at p; exact p.elim
            | exc _ _ _ => rw [q2] at p; exact p.elim
            | stuck => rw [q2] at p; exact p.elim
          | false =>
            dsimp only at p
            rw [if_neg Bool.false_ne_true]
            exact p H3 w3 g3 t3
        | _ => exact p.elim
      | exc _ _ _ => rw [q] at p; exact p.elim
      | stuck => rw [q] at p; exact p.elim
theorem pd_frz {X : Cx} {W : WX} {e : Expr} {m : Env' → M D} (he : PE X e (tE X.K xc W m)) : PE X e (tE X.K xc W fun env => m env >>= frz) :=
  pimp (pfro he) fun σ H Q ⟨w, env, s, rel, p⟩ => by
    refine ⟨w, env, s, rel, (Post.bind p).imp fun v H1 ⟨w1, d, s1, g, t, r, p1⟩ => ?_⟩
    have e1 : frz d s1 = (frz d >>= M.ret) s1 := by
      rw [M_bind]
      unfold M.bnd
      cases frz d s1 <;> rfl
    rw [e1] at p1
    have q := frz_read (K := X.K) (PQ := fun w H r => Post X.K xc W σ w H Q r) (fun g h => h.mono g) (fun _ _ h => h) t r p1
    rcases q with ⟨w2, d2, s2, g2, t2, r2, p2⟩ | ⟨a, xs, e1, e2, mu, q⟩
    · exact .inl (Post.ret p2 t2 r2)
    · refine .inr ⟨a, xs, e1, e2, mu, fun o => ?_⟩
      obtain ⟨w2, d2, s2, g2, t2, r2, p2⟩ := q o
      exact Post.ret p2 t2 r2
/-- an address outside, that does not stay: it may be exchanged -/
theorem sto_out {K : PySem.W.Frag} {w : Wd} {s : SS} {H : Hp} {p : Addr} {o : HO} (t : Sto K w s H) (np : p ∉ w.ws) (nf : ∀ u, H p = some u → ¬ Fz u) : Ext H (upd H p o) ∧ Sto K w s (upd H p o) := by
  have x : Ext H (upd H p o) := ⟨fun b u e f => by
    have ne : b ≠ p := by rintro rfl; exact nf u e f
    rw [upd_ne ne]; exact e⟩
  refine ⟨x, ?_, t.len, fun i a c h1 h2 => ?_, t.nd⟩
  · have hm := t.m
    cases em : w.m with
    | none => rw [em] at hm; cases es : s.m with
      | none => trivial
      | some _ => rw [es] at hm; exact hm.elim
    | some q =>
      obtain ⟨am, al⟩ := q
      rw [em] at hm
      cases es : s.m with
      | none => rw [es] at hm; exact hm.elim
      | some m =>
        rw [es] at hm
        obtain ⟨cc, h1, h2, h3, h4⟩ := hm
        have n1 : am ≠ p := fun z => np (by unfold Wd.ws; rw [em, ← z]; simp)
        have n2 : al ≠ p := fun z => np (by unfold Wd.ws; rw [em, ← z]; simp)
        exact ⟨cc, by rw [upd_ne n1]; exact h1, h2.mono x, by rw [upd_ne n2]; exact h3, h4⟩
  · have ne : a ≠ p := fun z => np (by rw [← z]; exact mem_ws h1)
    exact (t.cs i a c h1 h2).at x (upd_ne ne)
theorem go_out {w w1 : Wd} {H0 H : Hp} {p : Addr} {o : HO} (g : Go w H0 w1 H) (h0 : H0 p = none) : Go w H0 w1 (upd H p o) :=
  ⟨fun b u e f => by
    have ne : b ≠ p := ne_of_none e h0
    rw [upd_ne ne]; exact g.kp b u e f, g.gr, g.pre, g.ms⟩
theorem compM_cons {f : D → M (Option D)} {d : D} {ds : List D} {s : SS} : compM f (d :: ds) s = (f d >>= fun o => compM f ds >>= fun r => M.ret (match o with | some y => y :: r | none => r)) s := rfl
/-- the state between two turns: the list at l holds acc -/
structure CI (K : PySem.W.Frag) (w0 : Wd) (H0 : Hp) (l : Addr) (w : Wd) (s : SS) (acc : List D) (vs : List V) (H : Hp) : Prop where
  go : Go w0 H0 w H
  st : Sto K w s H
  out : l ∉ w.ws
  at_ : H l = some (.lst vs)
  rp : Reps K H vs acc
theorem CI.next {K : PySem.W.Frag} {w0 w w4 : Wd} {H0 H H4 : Hp} {l : Addr} {s s4 : SS} {acc : List D} {vs : List V} (c : CI K w0 H0 l w s acc vs H) (g : Go w H w4 H4) (t : Sto K w4 s4 H4) : CI K w0 H0 l w4 s4 acc vs H4 :=
  ⟨c.go.trans g, t, g.out c.at_ c.out, g.kp _ _ c.at_ (.inl c.out), c.rp.mono g.ext⟩
theorem CI.push {K : PySem.W.Frag} {w0 w : Wd} {H0 H : Hp} {l : Addr} {s : SS} {acc : List D} {vs : List V} {v : V} {y : D} (c : CI K w0 H0 l w s acc vs H) (hl : H0 l = none) (r : Rep K H v y) : CI K w0 H0 l w s (acc ++ [y]) (vs ++ [v]) (upd H l (.lst (vs ++ [v]))) := by
  obtain ⟨x5, t5⟩ := sto_out (o := .lst (vs ++ [v])) c.st c.out fun u e f => by rw [c.at_] at e; cases e; exact f
  exact ⟨go_out c.go hl, t5, c.out, upd_same, (c.rp.mono x5).append (.cons (r.mono x5) .nil)⟩
/-- a loop's turns: Rest i acc s says that what is left to be done from the i-th thing on comes to a good end -/
theorem turns {K : PySem.W.Frag} {J : It} {ds : List D} {own : List Nat} {t : T} {tst el : Env' → M D} {env : Env'} {w0 w1 : Wd} {s1 : SS} {σ : L2.St} {H0 H1 : Hp} {l : Addr} {N : Hp → Prop} {Rest : Nat → List D → SS → Prop} {acc0 : List D} {vs0 : List V}
    (jo : ItOk K J H1 ds) (hsub : ∀ j ∈ slotsT t, j ∈ own) (rel : Rel K w1 env s1 σ H1) (hl : H0 l = none) (c0 : CI K w0 H0 l w1 s1 acc0 vs0 H1) (h0 : Rest 0 acc0 s1)
    (step : ∀ (i : Nat) (d : D) (acc : List D) (s : SS), ds[i]? = some d → Rest i acc s → match turnM t tst el (wipeE env own) d s with
      | .ok (some y) s' => acc.length < LIM ∧ Rest (i + 1) (acc ++ [y]) s'
      | .ok none s' => Rest (i + 1) acc s'
      | _ => False)
    (fin : ∀ w s acc vs H, Gx w1 H1 w H → CI K w0 H0 l w s acc vs H → Rest ds.length acc s → N H) :
    ∃ W : Nat → Nat → Hp → Prop, (∃ m, W 0 m H1) ∧ ∀ i m H, W i m H → (J.stop i H ∧ N H) ∨
      (J.go i H ∧ ∃ Nx : Hp → Prop, (∀ H', Nx H' → ∃ m', m' < m ∧ W (i + 1) m' H') ∧ ∀ x H', J.yld i H x H' → tG K t x (wipe σ own) H' fun σ2 H2 => wipe σ2 own = wipe σ own ∧ tTst K xc (fun _ _ _ _ => False) tst σ2 H2 fun b H3 =>
        if b = true then tE K xc (fun _ _ _ _ => False) (fun env => el env >>= frz) σ2 H3 fun y H4 => ∃ acc, H4 l = some (.lst acc) ∧ acc.length < sizeLine ∧ Nx (upd H4 l (.lst (acc ++ [y]))) else Nx H3) := by
  let Iv : Nat → Hp → Prop := fun i H => ∃ w s acc vs, CI K w0 H0 l w s acc vs H ∧ Gx w1 H1 w H ∧ Rest i acc s
  refine ⟨fun i m H => m = ds.length - i ∧ i ≤ ds.length ∧ Iv i H, ⟨ds.length, by simp, Nat.zero_le _, w1, s1, acc0, vs0, c0, (Go.refl _ _).gx, h0⟩, ?_⟩
  rintro i m H ⟨rfl, hi, w, s, acc, vs, c, gg, rest⟩
  have xH : Ext H1 H := gg.ext
  by_cases hlt : i < ds.length
  · refine .inr ⟨jo.go i H xH hlt, Iv (i + 1), fun H' v => ⟨ds.length - (i + 1), by omega, rfl, hlt, v⟩, fun x H' y => ?_⟩
    have ed : ds[i]? = some ds[i] := List.getElem?_eq_getElem hlt
    obtain ⟨sm, rx⟩ := jo.yld i _ H x H' xH ed y
    have st' := c.st.same sm
    have g' : Gx w1 H1 w H' := gg.trans (sgo sm).gx
    have c' : CI K w0 H0 l w s acc vs H' := c.next (sgo sm) st'
    have rel' : Rel K w (wipeE env own) s (wipe σ own) H' := (rel.wipe own).goX g' st'
    refine turn_read (xc := xc) (QY := fun v H4 => ∃ a4, H4 l = some (.lst a4) ∧ a4.length < sizeLine ∧ Iv (i + 1) (upd H4 l (.lst (a4 ++ [v])))) (QN := fun H3 => Iv (i + 1) H3) hsub rel' rx ?_
    have st2 := step i ds[i] acc s ed rest
    cases q : turnM t tst el (wipeE env own) ds[i] s with
    | ok o s2 =>
      rw [q] at st2
      cases o with
      | some y =>
        obtain ⟨hlen, rest2⟩ := st2
        intro v H4 w4 g4 t4 r4
        have c4 := c'.next g4 t4
        have hv := c.rp.length
        refine ⟨vs, c4.at_, ?_, w4, s2, acc ++ [y], vs ++ [v], c4.push hl r4, ?_, rest2⟩
        · have : (LIM : Nat) ≤ sizeLine := by decide
          omega
        · have x5 : Ext H4 (upd H4 l (.lst (vs ++ [v]))) := (sto_out (o := .lst (vs ++ [v])) t4 c4.out fun u e f => by rw [c4.at_] at e; cases e; exact f).1
          exact (g'.trans g4.gx).trans ⟨x5, ⟨[], by simp⟩, fun _ => rfl⟩
      | none =>
        intro H4 w4 g4 t4
        exact ⟨w4, s2, acc, vs, c'.next g4 t4, g'.trans g4.gx, st2⟩
    | exc _ _ _ => rw [q] at st2; exact st2.elim
    | stuck => rw [q] at st2; exact st2.elim
  · have e : i = ds.length := by omega
    subst e
    exact .inl ⟨jo.stop _ H xH (Nat.le_refl _), fin w s acc vs H gg c rest⟩
/-- the start of a comprehension's list -/
theorem CI.start {K : PySem.W.Frag} {w : Wd} {s : SS} {H : Hp} {l : Addr} (t : Sto K w s H) (hl : H l = none) : CI K w H l w s [] [] (upd H l (.lst [])) :=
  ⟨go_out (Go.refl _ _) hl, t.same (snew hl), (fun h => by
    obtain ⟨o, e⟩ := ws_some t h
    rw [hl] at e
    cases e), upd_same, .nil⟩
theorem CI.done {K : PySem.W.Frag} {w0 w : Wd} {H0 H : Hp} {l : Addr} {s : SS} {acc : List D} {vs : List V} {Q : VK} (c : CI K w0 H0 l w s acc vs H) (hl : H0 l = none) (q : ∀ v H' w', Go w0 H0 w' H' → Sto K w' s H' → RepT K w' H' v (.lst acc) → Q v H') : FrQ Q (.ref l) H := by
  refine ⟨l, vs, rfl, c.at_, fun o => ?_⟩
  obtain ⟨x1, st1⟩ := sto_out (o := .frz o (.lst vs)) c.st c.out fun u e f => by rw [c.at_] at e; cases e; exact f
  exact q _ _ w (go_out c.go hl) st1 (.of (.lst ⟨o, upd_same⟩ (c.rp.mono x1)))
theorem it_ext {K : PySem.W.Frag} {J : It} {H H' : Hp} {ds : List D} (jo : ItOk K J H ds) (x : Ext H H') : ItOk K J H' ds :=
  ⟨fun i H2 y h => jo.go i H2 (x.trans y) h, fun i d H1 v H2 y e z => jo.yld i d H1 v H2 (x.trans y) e z, fun i H2 y h => jo.stop i H2 (x.trans y) h⟩
/-- what is left of a comprehension -/
def RestC (f : D → M (Option D)) (Fin : List D → SS → Prop) (ds : List D) (i : Nat) (acc : List D) (s : SS) : Prop :=
  match compM f (ds.drop i) s with
  | .ok r s' => Fin (acc ++ r) s'
  | _ => False
theorem restC_step {f : D → M (Option D)} {Fin : List D → SS → Prop} {ds : List D} (hf : ∀ r s, Fin r s → r.length ≤ LIM) {i : Nat} {d : D} {acc : List D} {s : SS} (e : ds[i]? = some d) (h : RestC f Fin ds i acc s) :
    match f d s with
      | .ok (some y) s' => acc.length < LIM ∧ RestC f Fin ds (i + 1) (acc ++ [y]) s'
      | .ok none s' => RestC f Fin ds (i + 1) acc s'
      | _ => False := by
  obtain ⟨hlt, e1⟩ := List.getElem?_eq_some_iff.mp e
  unfold RestC at h
  rw [List.drop_eq_getElem_cons hlt, e1, compM_cons, M_bind] at h
  unfold M.bnd at h
  cases q : f d s with
  | ok o s2 =>
    rw [q] at h
    dsimp only at h
    rw [M_bind] at h
    unfold M.bnd at h
    cases q2 : compM f (ds.drop (i + 1)) s2 with
    | ok r s3 =>
      rw [q2] at h
      cases o with
      | some y =>
        have h' : Fin (acc ++ y :: r) s3 := h
        have hl := hf _ _ h'
        rw [List.length_append, List.length_cons] at hl
        refine ⟨by omega, ?_⟩
        unfold RestC
        rw [q2]
        dsimp only
        rw [List.append_assoc]; exact h'
      | none =>
        show RestC f Fin ds (i + 1) acc s2
        unfold RestC
        rw [q2]; exact h
    | exc _ _ _ => rw [q2] at h; exact h.elim
    | stuck => rw [q2] at h; exact h.elim
  | exc _ _ _ => rw [q] at h; exact h.elim
  | stuck => rw [q] at h; exact h.elim
theorem restC_end {f : D → M (Option D)} {Fin : List D → SS → Prop} {ds : List D} {acc : List D} {s : SS} (h : RestC f Fin ds ds.length acc s) : Fin acc s := by
  unfold RestC at h
  rw [List.drop_length] at h
  have h' : Fin (acc ++ []) s := h
  rwa [List.append_nil] at h'
/-- [el for t in it if tst] -/
theorem lc_post {K : PySem.W.Frag} {σ : L2.St} {w : Wd} {env : Env'} {s : SS} {H : Hp} {Q : VK} {ds : List D} {vs : List Nat} {t : T} {tst el : Env' → M D} {l : Addr} {J : It} (jo : ItOk K J H ds) (hsub : ∀ j ∈ slotsT t, j ∈ vs) (rel : Rel K w env s σ H) (hl : H l = none)
    (p : Post K xc W σ w H Q ((M.calm (compM (turnM t tst el (wipeE env vs)) ds) >>= fun r => if r.length ≤ LIM then M.ret (.lst r) else M.stk) s)) :
    ∃ W : Nat → Nat → Hp → Prop, (∃ m, W 0 m (upd H l (.lst []))) ∧ ∀ i m H, W i m H → (J.stop i H ∧ FrQ Q (.ref l) H) ∨
      (J.go i H ∧ ∃ Nx : Hp → Prop, (∀ H', Nx H' → ∃ m', m' < m ∧ W (i + 1) m' H') ∧ ∀ x H', J.yld i H x H' → tG K t x (wipe σ vs) H' fun σ2 H2 => wipe σ2 vs = wipe σ vs ∧ tTst K xc (fun _ _ _ _ => False) tst σ2 H2 fun b H3 =>
        if b = true then tE K xc (fun _ _ _ _ => False) (fun env => el env >>= frz) σ2 H3 fun y H4 => ∃ acc, H4 l = some (.lst acc) ∧ acc.length < sizeLine ∧ Nx (upd H4 l (.lst (acc ++ [y]))) else Nx H3) := by
  have sm : Same H (upd H l (.lst [])) := snew hl
  let Fin : List D → SS → Prop := fun r s' => r.length ≤ LIM ∧ ∀ v H' w', Go w H w' H' → Sto K w' s' H' → RepT K w' H' v (.lst r) → Q v H'
  refine turns (xc := xc) (Rest := RestC (turnM t tst el (wipeE env vs)) Fin ds) (it_ext jo (sext sm)) hsub (rel.go (sgo sm) (rel.st.same sm)) hl (CI.start rel.st hl) ?_ (fun i d acc s e h => restC_step (fun _ _ z => z.1) e h) fun w' s' acc vs' H' _ c rest => ?_
  · unfold RestC
    rw [List.drop_zero]
    rw [M_bind] at p
    unfold M.bnd M.calm at p
    cases q2 : compM (turnM t tst el (wipeE env vs)) ds s with
    | ok r s2 =>
      rw [q2] at p
      dsimp only at p ⊢
      rw [List.nil_append]
      by_cases hr : r.length ≤ LIM
      · rw [if_pos hr] at p; exact ⟨hr, p⟩
      · rw [if_neg hr] at p; exact p.elim
    | exc _ _ _ => rw [q2] at p; exact p.elim
    | stuck => rw [q2] at p; exact p.elim
  · exact c.done hl (restC_end rest).2
theorem pd_lc {elt tg iter : Expr} {ifs : List Expr} {scope : Scope} {own : List (Str × Nat)} {pos : Pos} {t : T} {mi : Env' → M (List D)} {tst el : Env' → M D} (hc : X.calm = true) (hN : X.N.Nodup) (hi : PI X tg iter (tI X.K xc W mi)) (ok : BlkOk X.N X.env.scope scope own)
    (hg : ∀ (s : Shared) (H : Hp) (C : Addr) (cl : List (Str × Addr)) (fp : List Addr), PG (X.blk s H scope (compEnvC scope cl C X.env) fp) tg (tG X.K t))
    (ht : ∀ (s : Shared) (H : Hp) (C : Addr) (cl : List (Str × Addr)) (fp : List Addr), PTs (X.blk s H scope (compEnvC scope cl C X.env) fp) ifs (tTst X.K xc (fun _ _ _ _ => False) tst))
    (he : ∀ (s : Shared) (H : Hp) (C : Addr) (cl : List (Str × Addr)) (fp : List Addr), PE (X.blk s H scope (compEnvC scope cl C X.env) fp) elt (tE X.K xc (fun _ _ _ _ => False) el))
    (hs : ∀ x, foldedSetIterable iter X.env x = pure x) (hsub : ∀ j ∈ slotsT t, j ∈ own.map (·.2)) :
    PE X (.ListComp elt [⟨tg, iter, ifs, 0⟩] scope pos) (tE X.K xc W fun env => lcM (own.map (·.2)) t (mi env) tst el env) := by
  refine pimp (pfrz (pe_lc (te := tE X.K xc (fun _ _ _ _ => False) fun env => el env >>= frz) hc hN hi ok hg ht (fun s H C cl fp => pd_frz (he s H C cl fp)) hs)) fun σ H Q ⟨w, env, s, rel, p⟩ => ?_
  refine ⟨w, env, s, rel, ?_⟩
  have p' : Post X.K xc W σ w H Q (M.bnd (mi env) _ s) := p
  unfold M.bnd at p'
  cases q : mi env s with
  | ok ds s1 =>
    rw [q] at p'
    intro J H1 w1 g t1 jo l hl
    exact lc_post (W := W) jo hsub (rel.go g t1) hl (p'.mono g)
  | exc c f s' => rw [q] at p'; exact p'
  | stuck => rw [q] at p'; exact p'

/-! ### two clauses -/
def RestK (f : D → M (List D)) (Fin : List D → SS → Prop) (ds : List D) (i : Nat) (acc : List D) (s : SS) : Prop :=
  match catM f (ds.drop i) s with
  | .ok r s' => Fin (acc ++ r) s'
  | _ => False
theorem catM_cons {f : D → M (List D)} {d : D} {ds : List D} {s : SS} : catM f (d :: ds) s = (f d >>= fun l => catM f ds >>= fun r => M.ret (l ++ r)) s := rfl
theorem restK_step {f : D → M (List D)} {Fin : List D → SS → Prop} {ds : List D} {i : Nat} {d : D} {acc : List D} {s : SS} (e : ds[i]? = some d) (h : RestK f Fin ds i acc s) :
    match f d s with
      | .ok l s' => RestK f Fin ds (i + 1) (acc ++ l) s'
      | _ => False := by
  obtain ⟨hlt, e1⟩ := List.getElem?_eq_some_iff.mp e
  unfold RestK at h
  rw [List.drop_eq_getElem_cons hlt, e1, catM_cons, M_bind] at h
  unfold M.bnd at h
  cases q : f d s with
  | ok l s2 =>
    rw [q] at h
    dsimp only at h ⊢
    rw [M_bind] at h
    unfold M.bnd at h
    unfold RestK
    cases q2 : catM f (ds.drop (i + 1)) s2 with
    | ok r s3 =>
      rw [q2] at h
      have h' : Fin (acc ++ (l ++ r)) s3 := h
      dsimp only
      rw [List.append_assoc]; exact h'
    | exc _ _ _ => rw [q2] at h; exact h.elim
    | stuck => rw [q2] at h; exact h.elim
  | exc _ _ _ => rw [q] at h; exact h.elim
  | stuck => rw [q] at h; exact h.elim
theorem restK_end {f : D → M (List D)} {Fin : List D → SS → Prop} {ds : List D} {acc : List D} {s : SS} (h : RestK f Fin ds ds.length acc s) : Fin acc s := by
  unfold RestK at h
  rw [List.drop_length] at h
  have h' : Fin (acc ++ []) s := h
  rwa [List.append_nil] at h'
theorem restK_le {f : D → M (List D)} {Fin : List D → SS → Prop} {ds : List D} (hf : ∀ r s, Fin r s → r.length ≤ LIM) {i : Nat} {acc : List D} {s : SS} (h : RestK f Fin ds i acc s) : acc.length ≤ LIM := by
  unfold RestK at h
  cases q : catM f (ds.drop i) s with
  | ok r s' =>
    rw [q] at h
    have := hf _ _ h
    rw [List.length_append] at this
    omega
  | exc _ _ _ => rw [q] at h; exact h.elim
  | stuck => rw [q] at h; exact h.elim
theorem lc2_post {K : PySem.W.Frag} {σ : L2.St} {w : Wd} {env : Env'} {s : SS} {H : Hp} {Q : VK} {ds : List D} {vs vs1 : List Nat} {t t2 : T} {mi2 : Env' → M (List D)} {tst el : Env' → M D} {l : Addr} {J : It} (jo : ItOk K J H ds) (hsub : ∀ j ∈ slotsT t, j ∈ vs) (hsub2 : ∀ j ∈ slotsT t2, j ∈ vs1)
    (rel : Rel K w env s σ H) (hl : H l = none)
    (p : Post K xc W σ w H Q ((M.calm (catM (turn2M t mi2 vs1 t2 tst el (wipeE env vs)) ds) >>= fun r => if r.length ≤ LIM then M.ret (.lst r) else M.stk) s)) :
    ∃ W : Nat → Nat → Hp → Prop, (∃ m, W 0 m (upd H l (.lst []))) ∧ ∀ i m H, W i m H → (J.stop i H ∧ FrQ Q (.ref l) H) ∨
      (J.go i H ∧ ∃ Nx : Hp → Prop, (∀ H', Nx H' → ∃ m', m' < m ∧ W (i + 1) m' H') ∧ ∀ x H', J.yld i H x H' → tG K t x (wipe σ vs) H' fun σ2 H2 => wipe σ2 vs = wipe σ vs ∧ tYes σ2 H2 fun b H3 =>
        if b = true then tI K xc (fun _ _ _ _ => False) mi2 σ2 H3 fun J1 H4 => ∃ W1 : Nat → Nat → Hp → Prop, (∃ m, W1 0 m H4) ∧ ∀ j k H, W1 j k H →
          (J1.stop j H ∧ Nx H) ∨ (J1.go j H ∧ ∃ Nx1 : Hp → Prop, (∀ H', Nx1 H' → ∃ k', k' < k ∧ W1 (j + 1) k' H') ∧ ∀ x H', J1.yld j H x H' → tG K t2 x (wipe σ2 vs1) H' fun σ3 H5 => wipe σ3 vs1 = wipe σ2 vs1 ∧ tTst K xc (fun _ _ _ _ => False) tst σ3 H5 fun b H6 =>
            if b = true then tE K xc (fun _ _ _ _ => False) (fun env => el env >>= frz) σ3 H6 fun y H7 => ∃ acc, H7 l = some (.lst acc) ∧ acc.length < sizeLine ∧ Nx1 (upd H7 l (.lst (acc ++ [y]))) else Nx1 H6)
        else Nx H3) := by
  have sm : Same H (upd H l (.lst [])) := snew hl
  let Fin : List D → SS → Prop := fun r s' => r.length ≤ LIM ∧ ∀ v H' w', Go w H w' H' → Sto K w' s' H' → RepT K w' H' v (.lst r) → Q v H'
  let f := turn2M t mi2 vs1 t2 tst el (wipeE env vs)
  have hfin : ∀ r s, Fin r s → r.length ≤ LIM := fun _ _ z => z.1
  have rest0 : RestK f Fin ds 0 [] s := by
    unfold RestK
    rw [List.drop_zero]
    rw [M_bind] at p
    unfold M.bnd M.calm at p
    show match catM (turn2M t mi2 vs1 t2 tst el (wipeE env vs)) ds s with | .ok r s' => Fin ([] ++ r) s' | _ => False
    cases q2 : catM (turn2M t mi2 vs1 t2 tst el (wipeE env vs)) ds s with
    | ok r s2 =>
      rw [q2] at p
      dsimp only at p ⊢
      rw [List.nil_append]
      by_cases hr : r.length ≤ LIM
      · rw [if_pos hr] at p; exact ⟨hr, p⟩
      · rw [if_neg hr] at p; exact p.elim
    | exc _ _ _ => rw [q2] at p; exact p.elim
    | stuck => rw [q2] at p; exact p.elim
  let H1 := upd H l (.lst [])
  let Iv : Nat → Hp → Prop := fun i H2 => ∃ w2 s2 acc vs2, CI K w H l w2 s2 acc vs2 H2 ∧ Gx w H1 w2 H2 ∧ RestK f Fin ds i acc s2
  refine ⟨fun i m H2 => m = ds.length - i ∧ i ≤ ds.length ∧ Iv i H2, ⟨ds.length, by simp, Nat.zero_le _, w, s, [], [], CI.start rel.st hl, (Go.refl _ _).gx, rest0⟩, ?_⟩
  rintro i m H2 ⟨rfl, hi, w2, s2, acc, vs2, c, gg, rest⟩
  have xH : Ext H H2 := (sext sm).trans gg.ext
  by_cases hlt : i < ds.length
  · refine .inr ⟨jo.go i H2 xH hlt, Iv (i + 1), fun H' v => ⟨ds.length - (i + 1), by omega, rfl, hlt, v⟩, fun x H' y => ?_⟩
    have ed : ds[i]? = some ds[i] := List.getElem?_eq_getElem hlt
    obtain ⟨smy, rx⟩ := jo.yld i _ H2 x H' xH ed y
    have st' := c.st.same smy
    have g' : Gx w H1 w2 H' := gg.trans (sgo smy).gx
    have c' : CI K w H l w2 s2 acc vs2 H' := c.next (sgo smy) st'
    have rel1 : Rel K w env s σ H1 := rel.go (sgo sm) (rel.st.same sm)
    have rel' : Rel K w2 (wipeE env vs) s2 (wipe σ vs) H' := (rel1.wipe vs).goX g' st'
    have step := restK_step ed rest
    show tG K t x (wipe σ vs) H' _
    have ef : f ds[i] s2 = turn2M t mi2 vs1 t2 tst el (wipeE env vs) ds[i] s2 := rfl
    rw [ef] at step
    unfold turn2M at step
    cases e : asgT t ds[i] (wipeE env vs) with
    | none => simp only [e] at step; exact step.elim
    | some env1 =>
      simp only [e] at step
      refine ⟨w2, _, s2, ds[i], env1, rel', .of rx, e, fun σ2 rel2 fr => ⟨by rw [wipe_frm (fr.mono hsub), wipe_wipe], ?_⟩⟩
      unfold tYes
      dsimp only
      rw [if_pos rfl]
      refine ⟨w2, env1, s2, rel2, ?_⟩
      rw [M_bind] at step
      unfold M.bnd at step
      cases q : mi2 env1 s2 with
      | ok ys s3 =>
        rw [q] at step
        intro J1 H4 w4 g4 t4 jo4
        have c4 := c'.next g4 t4
        refine turns (xc := xc) (Rest := RestC (turnM t2 tst el (wipeE env1 vs1)) (fun r s' => RestK f Fin ds (i + 1) r s') ys) jo4 hsub2 (rel2.go g4 t4) hl c4 ?_ (fun j d acc s e h => restC_step (fun _ _ z => restK_le hfin z) e h) fun w5 s5 acc5 vs5 H5 gx5 c5 rest5 => ?_
        · unfold RestC
          rw [List.drop_zero]
          cases q5 : compM (turnM t2 tst el (wipeE env1 vs1)) ys s3 with
          | ok r s4 => simp only [q5] at step; exact step
          | exc _ _ _ => simp only [q5] at step
          | stuck => simp only [q5] at step
        · exact ⟨w5, s5, acc5, vs5, c5, (g'.trans g4.gx).trans gx5, restC_end rest5⟩
      | exc _ _ _ => rw [q] at step; exact step.elim
      | stuck => rw [q] at step; exact step.elim
  · have e : i = ds.length := by omega
    subst e
    exact .inl ⟨jo.stop _ H2 xH (Nat.le_refl _), c.done hl (restK_end rest).2⟩
theorem pd_lc2 {elt tg iter tg1 iter1 : Expr} {ifs1 : List Expr} {scope : Scope} {own : List (Str × Nat)} {vs1 : List Nat} {pos : Pos} {t t2 : T} {mi mi2 : Env' → M (List D)} {tst el : Env' → M D} (hc : X.calm = true) (hN : X.N.Nodup) (hi : PI X tg iter (tI X.K xc W mi)) (ok : BlkOk X.N X.env.scope scope own) (hv : ∀ i ∈ vs1, i ∈ own.map (·.2))
    (hg : ∀ (s : Shared) (H : Hp) (C : Addr) (cl : List (Str × Addr)) (fp : List Addr), PG (X.blk s H scope (compEnvC scope cl C X.env) fp) tg (tG X.K t))
    (hi1 : ∀ (s : Shared) (H : Hp) (C : Addr) (cl : List (Str × Addr)) (fp : List Addr), PI (X.blk s H scope (compEnvC scope cl C X.env) fp) tg1 iter1 (tI X.K xc (fun _ _ _ _ => False) mi2))
    (hg1 : ∀ (s : Shared) (H : Hp) (C : Addr) (cl : List (Str × Addr)) (fp : List Addr), PG (X.blk s H scope (compEnvC scope cl C X.env) fp) tg1 (tG X.K t2))
    (ht1 : ∀ (s : Shared) (H : Hp) (C : Addr) (cl : List (Str × Addr)) (fp : List Addr), PTs (X.blk s H scope (compEnvC scope cl C X.env) fp) ifs1 (tTst X.K xc (fun _ _ _ _ => False) tst))
    (he : ∀ (s : Shared) (H : Hp) (C : Addr) (cl : List (Str × Addr)) (fp : List Addr), PE (X.blk s H scope (compEnvC scope cl C X.env) fp) elt (tE X.K xc (fun _ _ _ _ => False) el))
    (hs : ∀ x, foldedSetIterable iter X.env x = pure x) (hs1 : ∀ env x, foldedSetIterable iter1 env x = pure x) (hsub : ∀ j ∈ slotsT t, j ∈ own.map (·.2)) (hsub2 : ∀ j ∈ slotsT t2, j ∈ vs1) :
    PE X (.ListComp elt [⟨tg, iter, [], 0⟩, ⟨tg1, iter1, ifs1, 0⟩] scope pos) (tE X.K xc W fun env => lc2M (own.map (·.2)) t (mi env) mi2 vs1 t2 tst el env) := by
  refine pimp (pfrz (pe_lc2 (te := tE X.K xc (fun _ _ _ _ => False) fun env => el env >>= frz) hc hN hi ok hv hg (fun _ _ _ _ _ => pts_nil) hi1 hg1 ht1 (fun s H C cl fp => pd_frz (he s H C cl fp)) hs hs1)) fun σ H Q ⟨w, env, s, rel, p⟩ => ?_
  refine ⟨w, env, s, rel, ?_⟩
  have p' : Post X.K xc W σ w H Q (M.bnd (mi env) _ s) := p
  unfold M.bnd at p'
  cases q : mi env s with
  | ok ds s1 =>
    rw [q] at p'
    intro J H1 w1 g t1 jo l hl
    exact lc2_post (W := W) jo hsub hsub2 (rel.go g t1) hl (p'.mono g)
  | exc c f s' => rw [q] at p'; exact p'
  | stuck => rw [q] at p'; exact p'
end
end PI

set_option maxHeartbeats 1000000
/-! PI, part k: statements. -/
namespace PI
open PySem L2
/-- how a block of statements ends -/
inductive SR where
  | nx (env : Env') (s : SS)
  | rt (d : D) (s : SS)
  | brk (env : Env') (s : SS)
  | cont (env : Env') (s : SS)
  | exc (c : Nat) (f : D) (env : Env') (s : SS)
  | stuck
abbrev SM := Env' → SS → SR
def passS : SM := fun env s => .nx env s
def brkS : SM := fun env s => .brk env s
def contS : SM := fun env s => .cont env s
def seqS (a b : SM) : SM := fun env s => match a env s with
  | .nx env' s' => b env' s'
  | r => r
def exprS (m : Env' → M D) : SM := fun env s => match m env s with
  | .ok _ s' => .nx env s'
  | .exc c f s' => .exc c f env s'
  | .stuck => .stuck
def retS (m : Env' → M D) : SM := fun env s => match m env s with
  | .ok d s' => match frz d s' with
    | .ok d s'' => .rt d s''
    | _ => .stuck
  | .exc c f s' => .exc c f env s'
  | .stuck => .stuck
def retN : SM := fun _ s => .rt .non s
def asgS (t : T) (m : Env' → M D) : SM := fun env s => match m env s with
  | .ok d s' => match asgT t d env with
    | some env' => .nx env' s'
    | none => .stuck
  | .exc c f s' => .exc c f env s'
  | .stuck => .stuck
/-- a, b = x, y: names alone -/
def setsE (env : Env') : List Nat → List D → Option Env'
  | [], [] => some env
  | i :: is, d :: ds => if i < env.length then setsE (env.set i (some d)) is ds else none
  | _, _ => none
def parS (is : List Nat) (ms : Env' → M (List D)) : SM := fun env s => match ms env s with
  | .ok ds s' => match setsE env is ds with
    | some env' => .nx env' s'
    | none => .stuck
  | .exc c f s' => .exc c f env s'
  | .stuck => .stuck
def ifS (c : Env' → M D) (a b : SM) : SM := fun env s => match c env s with
  | .ok (.bl true) s' => a env s'
  | .ok (.bl false) s' => b env s'
  | .ok _ _ => .stuck
  | .exc c f s' => .exc c f env s'
  | .stuck => .stuck
def forL (t : T) (b : SM) : List D → SM
  | [], env, s => .nx env s
  | d :: ds, env, s => match asgT t d env with
    | none => .stuck
    | some env1 => match b env1 s with
      | .nx e s => forL t b ds e s
      | .cont e s => forL t b ds e s
      | .brk e s => .nx e s
      | r => r
def forS (t : T) (m : Env' → M (List D)) (b : SM) : SM := fun env s => match m env s with
  | .ok ds s' => forL t b ds env s'
  | .exc c f s' => .exc c f env s'
  | .stuck => .stuck
def whileL (c : Env' → M D) (b : SM) : Nat → SM
  | 0, _, _ => .stuck
  | n + 1, env, s => match c env s with
    | .ok (.bl true) s' => match b env s' with
      | .nx e s => whileL c b n e s
      | .cont e s => whileL c b n e s
      | .brk e s => .nx e s
      | r => r
    | .ok (.bl false) s' => .nx env s'
    | .ok _ _ => .stuck
    | .exc c f s' => .exc c f env s'
    | .stuck => .stuck
def whileS (n : Nat) (c : Env' → M D) (b : SM) : SM := fun env s => whileL c b n env s

section
variable {X : Cx} {xc : XC} {W : WX}
def PostS (K : PySem.W.Frag) (xc : XC) (W : WX) (E : Ends) (w : Wd) (H : Hp) : SR → Prop
  | .nx env' s' => ∀ σ' H' w', Go w H w' H' → Rel K w' env' s' σ' H' → E.nx σ' H'
  | .brk env' s' => ∀ σ' H' w', Go w H w' H' → Rel K w' env' s' σ' H' → E.bk σ' H'
  | .cont env' s' => ∀ σ' H' w', Go w H w' H' → Rel K w' env' s' σ' H' → E.ct σ' H'
  | .rt d s' => ∀ v H' w', Go w H w' H' → Sto K w' s' H' → RepT K w' H' v d → E.rt v H'
  | .exc c f env' s' => ∀ x v σ' H' w', Go w H w' H' → Rel K w' env' s' σ' H' → H' x = some (.xd [(xc.fld c, v)]) → Rep K H' v f → W (.ref (xc.cls c)) (some x) σ' H'
  | .stuck => False
def tS (K : PySem.W.Frag) (xc : XC) (W : WX) (m : SM) : TS := fun E σ H => ∃ w env s, Rel K w env s σ H ∧ PostS K xc W E w H (m env s)
theorem PostS.mono {K : PySem.W.Frag} {E : Ends} {w w1 : Wd} {H H1 : Hp} (g : Go w H w1 H1) : ∀ {r : SR}, PostS K xc W E w H r → PostS K xc W E w1 H1 r
  | .nx _ _, h => fun σ' H' w' g' r => h σ' H' w' (g.trans g') r
  | .brk _ _, h => fun σ' H' w' g' r => h σ' H' w' (g.trans g') r
  | .cont _ _, h => fun σ' H' w' g' r => h σ' H' w' (g.trans g') r
  | .rt _ _, h => fun v H' w' g' t r => h v H' w' (g.trans g') t r
  | .exc _ _ _ _, h => fun x v σ' H' w' g' t e r => h x v σ' H' w' (g.trans g') t e r
  | .stuck, h => h
theorem psimp {st : Stmt} {t t' : TS} (h : PS X st t) (hi : ∀ E σ H, t' E σ H → t E σ H) : PS X st t' :=
  ⟨fun pins s σ H E I q => h.run pins s σ H E I (hi E σ H q)⟩
theorem pssimp {st : List Stmt} {t t' : TS} (h : PSs X st t) (hi : ∀ E σ H, t' E σ H → t E σ H) : PSs X st t' :=
  ⟨fun pins s σ H E I q => h.run pins s σ H E I (hi E σ H q)⟩
theorem nx_here {K : PySem.W.Frag} {E : Ends} {w : Wd} {H : Hp} {env : Env'} {s : SS} {σ : L2.St} (p : PostS K xc W E w H (.nx env s)) (rel : Rel K w env s σ H) : E.nx σ H := p σ H w (Go.refl _ _) rel
theorem pds_pass {pos : Pos} : PS X (.Pass pos) (tS X.K xc W passS) := psimp ps_pass fun E σ H ⟨w, env, s, rel, p⟩ => nx_here p rel
theorem pds_brk {pos : Pos} : PS X (.Break pos) (tS X.K xc W brkS) := psimp ps_break fun E σ H ⟨w, env, s, rel, p⟩ => p σ H w (Go.refl _ _) rel
theorem pds_cont {pos : Pos} : PS X (.Continue pos) (tS X.K xc W contS) := psimp ps_continue fun E σ H ⟨w, env, s, rel, p⟩ => p σ H w (Go.refl _ _) rel
theorem pds_nil : PSs X [] (tS X.K xc W passS) := pssimp pss_nil fun E σ H ⟨w, env, s, rel, p⟩ => nx_here p rel
theorem pds_cons {st : Stmt} {rest : List Stmt} {a b : SM} (h1 : PS X st (tS X.K xc W a)) (h2 : PSs X rest (tS X.K xc W b)) : PSs X (st :: rest) (tS X.K xc W (seqS a b)) :=
  pssimp (pss_cons h1 h2) fun E σ H ⟨w, env, s, rel, p⟩ => by
    refine ⟨w, env, s, rel, ?_⟩
    unfold seqS at p
    cases q : a env s with
    | nx env' s' =>
      rw [q] at p
      intro σ' H' w' g rel'
      exact ⟨w', env', s', rel', p.mono g⟩
    | brk env' s' => rw [q] at p; exact p
    | cont env' s' => rw [q] at p; exact p
    | rt d s' => rw [q] at p; exact p
    | exc c f env' s' => rw [q] at p; exact p
    | stuck => rw [q] at p; exact p
theorem pds_one {st : Stmt} {a : SM} (h1 : PS X st (tS X.K xc W a)) : PSs X [st] (tS X.K xc W a) := pss_one h1
/-- an exception in an expression -/
theorem exc_post {K : PySem.W.Frag} {E : Ends} {w : Wd} {H : Hp} {env : Env'} {s s' : SS} {σ : L2.St} {c : Nat} {f : D} (rel : Rel K w env s σ H) (p : PostS K xc W E w H (.exc c f env s')) :
    ∀ x v H' w', Go w H w' H' → Sto K w' s' H' → H' x = some (.xd [(xc.fld c, v)]) → Rep K H' v f → W (.ref (xc.cls c)) (some x) σ H' :=
  fun x v H' w' g t e r => p x v σ H' w' g (rel.go g t) e r
theorem pds_expr {e : Expr} {pos : Pos} {m : Env' → M D} (he : PE X e (tE X.K xc W m)) (hs : swapsWith e none pos.line X.env = pure false) : PS X (.Expr e pos) (tS X.K xc W (exprS m)) :=
  psimp (ps_expr he hs) fun E σ H ⟨w, env, s, rel, p⟩ => by
    refine ⟨w, env, s, rel, ?_⟩
    unfold exprS at p
    cases q : m env s with
    | ok d s' =>
      rw [q] at p
      intro v H' w' g t r
      exact p σ H' w' g (rel.go g t)
    | exc c f s' => rw [q] at p; exact exc_post rel p
    | stuck => rw [q] at p; exact p
theorem pds_doc {x : Str} {j : Nat} {pos pos' : Pos} : PS X (.Expr (.Constant (.str x) j pos) pos') (tS X.K xc W passS) := psimp ps_doc fun E σ H ⟨w, env, s, rel, p⟩ => nx_here p rel
theorem pds_retN {pos : Pos} : PS X (.Return none pos) (tS X.K xc W retN) := psimp ps_retN fun E σ H ⟨w, env, s, rel, p⟩ => p .non H w (Go.refl _ _) rel.st (.of .non)
theorem pds_ret {e : Expr} {pos : Pos} {m : Env' → M D} (he : PE X e (tE X.K xc W m)) : PS X (.Return (some e) pos) (tS X.K xc W (retS m)) :=
  psimp (ps_ret (pd_frz he)) fun E σ H ⟨w, env, s, rel, p⟩ => by
    refine ⟨w, env, s, rel, ?_⟩
    unfold retS at p
    show Post X.K xc W σ w H E.rt (M.bnd (m env) frz s)
    unfold M.bnd
    cases q : m env s with
    | ok d s' =>
      rw [q] at p
      dsimp only at p ⊢
      cases q2 : frz d s' with
      | ok d2 s2 => rw [q2] at p; exact p
      | exc _ _ _ => rw [q2] at p; exact p.elim
      | stuck => rw [q2] at p; exact p.elim
    | exc c f s' => rw [q] at p; exact exc_post rel p
    | stuck => rw [q] at p; exact p
theorem pds_asg {tg e : Expr} {pos : Pos} {t : T} {m : Env' → M D} (he : PE X e (tE X.K xc W m)) (hg : PG X tg (tG X.K t)) (hs : swapsWithSole [tg] e pos.line X.env = pure false) (hw : swappedStores [tg] e X.env = pure none)
    (h1 : (assignEach [tg] X.env).map (·.2) = [assign tg X.env]) : PS X (.Assign [tg] e pos) (tS X.K xc W (asgS t m)) :=
  psimp (ps_asg he hg hs hw h1) fun E σ H ⟨w, env, s, rel, p⟩ => by
    refine ⟨w, env, s, rel, ?_⟩
    unfold asgS at p
    cases q : m env s with
    | ok d s' =>
      rw [q] at p
      dsimp only at p
      cases q2 : asgT t d env with
      | none => rw [q2] at p; exact p.elim
      | some env' =>
        rw [q2] at p
        intro v H' w' g st r
        exact ⟨w', env, s', d, env', rel.go g st, r, q2, fun σ' rel' _ => p σ' H' w' g rel'⟩
    | exc c f s' => rw [q] at p; exact exc_post rel p
    | stuck => rw [q] at p; exact p
theorem pds_set {x : Str} {i : Nat} {e : Expr} {pos pos' : Pos} {m : Env' → M D} (hN : X.N.Nodup) (hi : X.N[i]? = some x) (hx : Loc X.env.scope x) (he : PE X e (tE X.K xc W m)) (hs : swapsWith e (some (.Name x pos')) pos.line X.env = pure false) (hf : X.fn x = true ∨ X.env.scope.names.lookup x = some .local) :
    PS X (.Assign [.Name x pos'] e pos) (tS X.K xc W (asgS (.nm i) m)) :=
  psimp (ps_set hN hi hx he hs hf) fun E σ H ⟨w, env, s, rel, p⟩ => by
    refine ⟨w, env, s, rel, ?_⟩
    unfold asgS at p
    cases q : m env s with
    | ok d s' =>
      rw [q] at p
      dsimp only at p
      cases q2 : asgT (.nm i) d env with
      | none => rw [q2] at p; exact p.elim
      | some env' =>
        rw [q2] at p
        intro v H' w' g st r
        unfold asgT at q2
        split at q2
        · cases q2
          exact p _ H' w' g ((rel.go g st).set r)
        · cases q2
    | exc c f s' => rw [q] at p; exact exc_post rel p
    | stuck => rw [q] at p; exact p
theorem pds_if {c : Expr} {a b : List Stmt} {pos : Pos} {mc : Env' → M D} {ma mb : SM} (hc : PT X c (tTst X.K xc W mc)) (ha : PSs X a (tS X.K xc W ma)) (hb : PSs X b (tS X.K xc W mb)) : PS X (.If c a b pos) (tS X.K xc W (ifS mc ma mb)) :=
  psimp (ps_if hc ha hb) fun E σ H ⟨w, env, s, rel, p⟩ => by
    unfold ifS at p
    refine ⟨w, env, s, rel, ?_⟩
    cases q : mc env s with
    | ok d s' =>
      rw [q] at p
      intro v H' w' g t r
      cases d with
      | bl b =>
        refine ⟨b, bl_of r, ?_⟩
        cases b with
        | true => rw [if_pos rfl]; exact ⟨w', env, s', rel.go g t, PostS.mono g p⟩
        | false => rw [if_neg Bool.false_ne_true]; exact ⟨w', env, s', rel.go g t, PostS.mono g p⟩
      | _ => exact p.elim
    | exc c f s' => rw [q] at p; exact exc_post rel p
    | stuck => rw [q] at p; exact p
theorem it_ext' {K : PySem.W.Frag} {J : It} {H H' : Hp} {ds : List D} (j : ItOk K J H ds) (x : Ext H H') : ItOk K J H' ds :=
  ⟨fun i H2 y => j.go i H2 (x.trans y), fun i d H1 v H2 y => j.yld i d H1 v H2 (x.trans y), fun i H2 y => j.stop i H2 (x.trans y)⟩
theorem pds_for {tg iter : Expr} {body : List Stmt} {pos : Pos} {t : T} {mi : Env' → M (List D)} {mb : SM} (hp : PassesOwn (model X.prog X.w) X.A X.env X.xe) (hc : X.calm = true) (hi : PI X tg iter (tI X.K xc W mi)) (hg : PG X tg (tG X.K t)) (hb : PSs X body (tS X.K xc W mb))
    (hs : ∀ x, foldedSetIterable iter X.env x = pure x) : PS X (.For tg iter body [] pos) (tS X.K xc W (forS t mi mb)) :=
  psimp (ps_for hp hc hi hg hb hs) fun E σ H ⟨w, env, s, rel, p⟩ => by
    unfold forS at p
    refine ⟨w, env, s, rel, ?_⟩
    cases q : mi env s with
    | ok ds s1 =>
      rw [q] at p
      intro J H1 w1 g1 t1 jo
      have rel1 := rel.go g1 t1
      have p1 : PostS X.K xc W E w1 H1 (forL t mb ds env s1) := PostS.mono g1 p
      let Iv : Nat → L2.St → Hp → Prop := fun i σ H => ∃ w2 env s, Go w1 H1 w2 H ∧ Rel X.K w2 env s σ H ∧ PostS X.K xc W E w2 H (forL t mb (ds.drop i) env s)
      refine ⟨fun i m σ H => m = ds.length - i ∧ i ≤ ds.length ∧ Iv i σ H, ⟨ds.length, by simp, Nat.zero_le _, w1, env, s1, Go.refl _ _, rel1, by rw [List.drop_zero]; exact p1⟩, ?_⟩
      rintro i m σ2 H2 ⟨rfl, hi, w2, env2, s2, g2, rel2, p2⟩
      by_cases hlt : i < ds.length
      · refine .inr ⟨jo.go i H2 g2.ext hlt, Iv (i + 1), fun σ' H' v => ⟨ds.length - (i + 1), by omega, rfl, hlt, v⟩, fun x H' y => ?_⟩
        have ed : ds[i]? = some ds[i] := List.getElem?_eq_getElem hlt
        obtain ⟨smy, rx⟩ := jo.yld i _ H2 x H' g2.ext ed y
        rw [List.drop_eq_getElem_cons hlt] at p2
        unfold forL at p2
        cases e : asgT t ds[i] env2 with
        | none => rw [e] at p2; exact p2.elim
        | some env3 =>
          rw [e] at p2
          dsimp only at p2
          refine ⟨w2, env2, s2, ds[i], env3, rel2.go (sgo smy) (rel2.st.same smy), .of rx, e, fun σ3 rel3 _ => ?_⟩
          refine ⟨w2, env3, s2, rel3, ?_⟩
          have g3 : Go w1 H1 w2 H' := g2.trans (sgo smy)
          cases q3 : mb env3 s2 with
          | nx env4 s4 => rw [q3] at p2; exact fun σ' H4 w4 g4 rel4 => ⟨w4, env4, s4, g3.trans g4, rel4, p2.mono ((sgo smy).trans g4)⟩
          | cont env4 s4 => rw [q3] at p2; exact fun σ' H4 w4 g4 rel4 => ⟨w4, env4, s4, g3.trans g4, rel4, p2.mono ((sgo smy).trans g4)⟩
          | brk env4 s4 => rw [q3] at p2; exact PostS.mono (r := .nx env4 s4) (sgo smy) p2
          | rt d s4 => rw [q3] at p2; exact PostS.mono (r := .rt d s4) (sgo smy) p2
          | exc c f env4 s4 => rw [q3] at p2; exact PostS.mono (r := .exc c f env4 s4) (sgo smy) p2
          | stuck => rw [q3] at p2; exact p2
      · have e : i = ds.length := by omega
        subst e
        rw [List.drop_length] at p2
        exact .inl ⟨jo.stop _ H2 g2.ext (Nat.le_refl _), nx_here p2 rel2⟩
    | exc c f s' => rw [q] at p; exact exc_post rel p
    | stuck => rw [q] at p; exact p
theorem pds_while {c : Expr} {body : List Stmt} {pos : Pos} {n : Nat} {mc : Env' → M D} {mb : SM} (hp : PassesOwn (model X.prog X.w) X.A X.env X.xe) (hc : PT X c (tTst X.K xc W mc)) (hb : PSs X body (tS X.K xc W mb)) : PS X (.While c body [] pos) (tS X.K xc W (whileS n mc mb)) :=
  psimp (ps_while hp hc hb) fun E σ H ⟨w, env, s, rel, p⟩ => by
    refine ⟨fun m σ' H' => ∃ w' env' s', Rel X.K w' env' s' σ' H' ∧ PostS X.K xc W E w' H' (whileL mc mb m env' s'), ⟨n, w, env, s, rel, p⟩, ?_⟩
    rintro m σ1 H1 ⟨w1, env1, s1, rel1, p1⟩
    refine ⟨w1, env1, s1, rel1, ?_⟩
    cases m with
    | zero => exact False.elim p1
    | succ m =>
      unfold whileL at p1
      cases q : mc env1 s1 with
      | ok d s' =>
        rw [q] at p1
        intro v H' w' g t r
        cases d with
        | bl b =>
          refine ⟨b, bl_of r, ?_⟩
          cases b with
          | true =>
            dsimp only at p1 ⊢
            rw [if_pos rfl]
            refine ⟨fun σ' H' => ∃ w' env' s', Rel X.K w' env' s' σ' H' ∧ PostS X.K xc W E w' H' (whileL mc mb m env' s'), fun σ' H' z => ⟨m, Nat.lt_succ_self _, z⟩, w', env1, s', rel1.go g t, ?_⟩
            cases q3 : mb env1 s' with
            | nx env4 s4 => rw [q3] at p1; exact fun σ' H4 w4 g4 rel4 => ⟨w4, env4, s4, rel4, p1.mono (g.trans g4)⟩
            | cont env4 s4 => rw [q3] at p1; exact fun σ' H4 w4 g4 rel4 => ⟨w4, env4, s4, rel4, p1.mono (g.trans g4)⟩
            | brk env4 s4 => rw [q3] at p1; exact PostS.mono (r := .nx env4 s4) g p1
            | rt d s4 => rw [q3] at p1; exact PostS.mono (r := .rt d s4) g p1
            | exc c f env4 s4 => rw [q3] at p1; exact PostS.mono (r := .exc c f env4 s4) g p1
            | stuck => rw [q3] at p1; exact p1
          | false => dsimp only at p1 ⊢; rw [if_neg Bool.false_ne_true]; exact nx_here (PostS.mono (r := .nx env1 s') g p1) (rel1.go g t)
        | _ => exact p1.elim
      | exc c f s' => rw [q] at p1; exact exc_post rel1 p1
      | stuck => rw [q] at p1; exact p1
end
end PI

set_option maxHeartbeats 1000000
/-! PI, part l: names set to comprehensions; several names at once. -/
namespace PI
open PySem L2
section
variable {X : Cx} {xc : XC} {W : WX}
/-- what is stored is frozen behind the statement -/
def FrS (i : Nat) (σ : L2.St) (E : Ends) : L2.St → Hp → Prop := fun σ' H' => ∃ a xs, σ' = σ.set i (some (.ref a)) ∧ H' a = some (.lst xs) ∧ ∀ o, E.nx σ' (upd H' a (.frz o (.lst xs)))
theorem psfr {st : Stmt} {t : TS} {i : Nat} (h : PS X st t) : PS X st (fun E σ H => t { E with nx := FrS i σ E } σ H) := by
  refine ⟨fun pins s σ H E I hw => thn (h.run pins s σ H _ I hw) fun f s1 q => ?_⟩
  cases f with
  | next =>
    obtain ⟨σ', H', I', a, xs, e, hH, q⟩ := q
    obtain ⟨o, I2⟩ := I'.lock hH trivial
    exact ⟨σ', _, I2, q o⟩
  | ret v => exact q
  | brk => exact q
  | cont => exact q
theorem frs_of {K : PySem.W.Frag} {w : Wd} {H : Hp} {i : Nat} {env : Env'} {s s' : SS} {σ : L2.St} {E : Ends} {r : List D} {l : Addr} {H2 : Hp} (h : FrQ (fun v H' => E.nx (σ.set i (some v)) H') (.ref l) H2) : FrS i σ E (σ.set i (some (.ref l))) H2 := by
  obtain ⟨a, xs, e, h1, h2⟩ := h
  cases e
  exact ⟨l, xs, rfl, h1, h2⟩
theorem set_post {K : PySem.W.Frag} {E : Ends} {w : Wd} {H : Hp} {env : Env'} {s : SS} {σ : L2.St} {i : Nat} {m : Env' → M D} (rel : Rel K w env s σ H) (p : PostS K xc W E w H (asgS (.nm i) m env s)) :
    Post K xc W σ w H (fun v H' => E.nx (σ.set i (some v)) H') (m env s) := by
  unfold asgS at p
  cases q : m env s with
  | ok d s' =>
    rw [q] at p
    dsimp only at p
    cases q2 : asgT (.nm i) d env with
    | none => rw [q2] at p; exact p.elim
    | some env' =>
      rw [q2] at p
      intro v H' w' g st r
      unfold asgT at q2
      split at q2
      · cases q2
        exact p _ H' w' g ((rel.go g st).set r)
      · cases q2
  | exc c f s' => rw [q] at p; exact exc_post rel p
  | stuck => rw [q] at p; exact p
theorem pds_setLc {i : Nat} {y : Str} {py : Pos} {elt tg iter : Expr} {ifs : List Expr} {scope : Scope} {own : List (Str × Nat)} {pos spos : Pos} {t : T} {mi : Env' → M (List D)} {tst el : Env' → M D} (hc : X.calm = true) (hN : X.N.Nodup) (hy : X.N[i]? = some y) (hyl : X.env.scope.names.lookup y = some .local)
    (hsw : swapsWith (.ListComp elt [⟨tg, iter, ifs, 0⟩] scope pos) (some (.Name y py)) spos.line X.env = pure true) (hi : PI X tg iter (tI X.K xc W mi)) (ok : BlkOk X.N X.env.scope scope own)
    (hg : ∀ (s : Shared) (H : Hp) (C : Addr) (cl : List (Str × Addr)) (fp : List Addr), PG (X.blk s H scope (compEnvC scope cl C X.env) fp) tg (tG X.K t))
    (ht : ∀ (s : Shared) (H : Hp) (C : Addr) (cl : List (Str × Addr)) (fp : List Addr), PTs (X.blk s H scope (compEnvC scope cl C X.env) fp) ifs (tTst X.K xc (fun _ _ _ _ => False) tst))
    (he : ∀ (s : Shared) (H : Hp) (C : Addr) (cl : List (Str × Addr)) (fp : List Addr), PE (X.blk s H scope (compEnvC scope cl C X.env) fp) elt (tE X.K xc (fun _ _ _ _ => False) el))
    (hs : ∀ x, foldedSetIterable iter X.env x = pure x) (hsub : ∀ j ∈ slotsT t, j ∈ own.map (·.2)) :
    PS X (.Assign [.Name y py] (.ListComp elt [⟨tg, iter, ifs, 0⟩] scope pos) spos) (tS X.K xc W (asgS (.nm i) fun env => lcM (own.map (·.2)) t (mi env) tst el env)) := by
  refine psimp (psfr (i := i) (ps_setLc (te := tE X.K xc (fun _ _ _ _ => False) fun env => el env >>= frz) hc hN hy hyl hsw hi ok hg ht (fun s H C cl fp => pd_frz (he s H C cl fp)) hs)) fun E σ H ⟨w, env, s, rel, p⟩ => ?_
  refine ⟨w, env, s, rel, ?_⟩
  have p' : Post X.K xc W σ w H (fun v H' => E.nx (σ.set i (some v)) H') (M.bnd (mi env) _ s) := set_post rel p
  unfold M.bnd at p'
  cases q : mi env s with
  | ok ds s1 =>
    rw [q] at p'
    intro J H1 w1 g t1 jo l hl
    obtain ⟨Wv, h0, h1⟩ := lc_post (W := W) jo hsub (rel.go g t1) hl (p'.mono g)
    refine ⟨Wv, h0, fun j m H2 wj => ?_⟩
    rcases h1 j m H2 wj with ⟨z1, z2⟩ | z
    · exact .inl ⟨z1, frs_of (K := X.K) (w := w) (H := H) (env := env) (s := s) (s' := s) (r := []) z2⟩
    · exact .inr z
  | exc c f s' => rw [q] at p'; exact p'
  | stuck => rw [q] at p'; exact p'
theorem pds_setLc2 {i : Nat} {y : Str} {py : Pos} {elt tg iter tg1 iter1 : Expr} {ifs1 : List Expr} {scope : Scope} {own : List (Str × Nat)} {vs1 : List Nat} {pos spos : Pos} {t t2 : T} {mi mi2 : Env' → M (List D)} {tst el : Env' → M D} (hc : X.calm = true) (hN : X.N.Nodup) (hy : X.N[i]? = some y) (hyl : X.env.scope.names.lookup y = some .local)
    (hsw : swapsWith (.ListComp elt [⟨tg, iter, [], 0⟩, ⟨tg1, iter1, ifs1, 0⟩] scope pos) (some (.Name y py)) spos.line X.env = pure true) (hi : PI X tg iter (tI X.K xc W mi)) (ok : BlkOk X.N X.env.scope scope own) (hv : ∀ i ∈ vs1, i ∈ own.map (·.2))
    (hg : ∀ (s : Shared) (H : Hp) (C : Addr) (cl : List (Str × Addr)) (fp : List Addr), PG (X.blk s H scope (compEnvC scope cl C X.env) fp) tg (tG X.K t))
    (hi1 : ∀ (s : Shared) (H : Hp) (C : Addr) (cl : List (Str × Addr)) (fp : List Addr), PI (X.blk s H scope (compEnvC scope cl C X.env) fp) tg1 iter1 (tI X.K xc (fun _ _ _ _ => False) mi2))
    (hg1 : ∀ (s : Shared) (H : Hp) (C : Addr) (cl : List (Str × Addr)) (fp : List Addr), PG (X.blk s H scope (compEnvC scope cl C X.env) fp) tg1 (tG X.K t2))
    (ht1 : ∀ (s : Shared) (H : Hp) (C : Addr) (cl : List (Str × Addr)) (fp : List Addr), PTs (X.blk s H scope (compEnvC scope cl C X.env) fp) ifs1 (tTst X.K xc (fun _ _ _ _ => False) tst))
    (he : ∀ (s : Shared) (H : Hp) (C : Addr) (cl : List (Str × Addr)) (fp : List Addr), PE (X.blk s H scope (compEnvC scope cl C X.env) fp) elt (tE X.K xc (fun _ _ _ _ => False) el))
    (hs : ∀ x, foldedSetIterable iter X.env x = pure x) (hs1 : ∀ env x, foldedSetIterable iter1 env x = pure x) (hsub : ∀ j ∈ slotsT t, j ∈ own.map (·.2)) (hsub2 : ∀ j ∈ slotsT t2, j ∈ vs1) :
    PS X (.Assign [.Name y py] (.ListComp elt [⟨tg, iter, [], 0⟩, ⟨tg1, iter1, ifs1, 0⟩] scope pos) spos) (tS X.K xc W (asgS (.nm i) fun env => lc2M (own.map (·.2)) t (mi env) mi2 vs1 t2 tst el env)) := by
  refine psimp (psfr (i := i) (ps_setLc2 (te := tE X.K xc (fun _ _ _ _ => False) fun env => el env >>= frz) hc hN hy hyl hsw hi ok hv hg (fun _ _ _ _ _ => pts_nil) hi1 hg1 ht1 (fun s H C cl fp => pd_frz (he s H C cl fp)) hs hs1)) fun E σ H ⟨w, env, s, rel, p⟩ => ?_
  refine ⟨w, env, s, rel, ?_⟩
  have p' : Post X.K xc W σ w H (fun v H' => E.nx (σ.set i (some v)) H') (M.bnd (mi env) _ s) := set_post rel p
  unfold M.bnd at p'
  cases q : mi env s with
  | ok ds s1 =>
    rw [q] at p'
    intro J H1 w1 g t1 jo l hl
    obtain ⟨Wv, h0, h1⟩ := lc2_post (W := W) jo hsub hsub2 (rel.go g t1) hl (p'.mono g)
    refine ⟨Wv, h0, fun j m H2 wj => ?_⟩
    rcases h1 j m H2 wj with ⟨z1, z2⟩ | z
    · exact .inl ⟨z1, frs_of (K := X.K) (w := w) (H := H) (env := env) (s := s) (s' := s) (r := []) z2⟩
    · exact .inr z
  | exc c f s' => rw [q] at p'; exact p'
  | stuck => rw [q] at p'; exact p'
/-! ### a, b = x, y -/
theorem setsE_rel {K : PySem.W.Frag} {w : Wd} {s : SS} {H : Hp} : ∀ {is : List Nat} {ds : List D} {vs : List V} {env env' : Env'} {σ : L2.St}, Rel K w env s σ H → RepTs K w H vs ds → setsE env is ds = some env' →
    Rel K w env' s ((is.zip vs).foldl (fun σ p => σ.set p.1 (some p.2)) σ) H ∧ vs.length = is.length
  | [], [], _, env, env', σ, rel, r, e => by
    cases r
    unfold setsE at e
    cases e
    exact ⟨rel, rfl⟩
  | [], _ :: _, _, _, _, _, _, _, e => by unfold setsE at e; cases e
  | _ :: _, [], _, _, _, _, _, _, e => by unfold setsE at e; cases e
  | i :: is, d :: ds, _, env, env', σ, rel, r, e => by
    cases r with
    | @cons v vs _ _ rv rs =>
      unfold setsE at e
      split at e
      · obtain ⟨h1, h2⟩ := setsE_rel (rel.set (i := i) rv) rs e
        exact ⟨h1, by simp [h2]⟩
      · cases e
theorem par_post {K : PySem.W.Frag} {E : Ends} {w : Wd} {H : Hp} {env : Env'} {s : SS} {σ : L2.St} {is : List Nat} {ms : Env' → M (List D)} (rel : Rel K w env s σ H) (p : PostS K xc W E w H (parS is ms env s)) :
    PostA K xc W σ w H (fun vs H' => vs.length = is.length ∧ E.nx ((is.zip vs).foldl (fun σ p => σ.set p.1 (some p.2)) σ) H') (ms env s) := by
  unfold parS at p
  cases q : ms env s with
  | ok ds s' =>
    rw [q] at p
    dsimp only at p
    cases q2 : setsE env is ds with
    | none => rw [q2] at p; exact p.elim
    | some env' =>
      rw [q2] at p
      intro vs H' w' g st r
      obtain ⟨h1, h2⟩ := setsE_rel (rel.go g st) r q2
      exact ⟨h2, p _ H' w' g h1⟩
  | exc c f s' => rw [q] at p; exact exc_post rel p
  | stuck => rw [q] at p; exact p
theorem pds_par2 {i j : Nat} {x y : Str} {a b : Expr} {ms : Env' → M (List D)} {px py pt pos : Pos} {kt k2 pt2} (hc : X.calm = true) (hN : X.N.Nodup) (hi : X.N[i]? = some x) (hj : X.N[j]? = some y) (hij : i ≠ j)
    (hx : X.env.scope.names.lookup x = some .local) (hy : X.env.scope.names.lookup y = some .local) (ha : PA X [a, b] (tA X.K xc W ms))
    (hw : swappedStores [.Tuple [.Name x px, .Name y py] kt pt] (.Tuple [a, b] k2 pt2) X.env = pure (some [x, y]))
    (hs : swapsWithSole [.Tuple [.Name x px, .Name y py] kt pt] (.Tuple [a, b] k2 pt2) pos.line X.env = pure false) :
    PS X (.Assign [.Tuple [.Name x px, .Name y py] kt pt] (.Tuple [a, b] k2 pt2) pos) (tS X.K xc W (parS [i, j] ms)) :=
  psimp (ps_par hc hN hi hj hij hx hy ha hw hs) fun E σ H ⟨w, env, s, rel, p⟩ => by
    refine ⟨w, env, s, rel, (par_post rel p).imp fun vs H' ⟨hl, q⟩ => ?_⟩
    match vs, hl with
    | [v, u], _ => exact ⟨v, u, rfl, q⟩
theorem pds_par3 {i j l : Nat} {x y z : Str} {a b c : Expr} {ms : Env' → M (List D)} {px py pz pt pos : Pos} {kt k2 pt2} (hc : X.calm = true) (hN : X.N.Nodup) (hi : X.N[i]? = some x) (hj : X.N[j]? = some y) (hl : X.N[l]? = some z) (hij : i ≠ j) (hil : i ≠ l) (hjl : j ≠ l)
    (hx : X.env.scope.names.lookup x = some .local) (hy : X.env.scope.names.lookup y = some .local) (hz : X.env.scope.names.lookup z = some .local) (ha : PA X [a, b, c] (tA X.K xc W ms))
    (hw : swappedStores [.Tuple [.Name x px, .Name y py, .Name z pz] kt pt] (.Tuple [a, b, c] k2 pt2) X.env = pure (some [x, y, z]))
    (hs : swapsWithSole [.Tuple [.Name x px, .Name y py, .Name z pz] kt pt] (.Tuple [a, b, c] k2 pt2) pos.line X.env = pure false) :
    PS X (.Assign [.Tuple [.Name x px, .Name y py, .Name z pz] kt pt] (.Tuple [a, b, c] k2 pt2) pos) (tS X.K xc W (parS [i, j, l] ms)) :=
  psimp (ps_par3 hc hN hi hj hl hij hil hjl hx hy hz ha hw hs) fun E σ H ⟨w, env, s, rel, p⟩ => by
    refine ⟨w, env, s, rel, (par_post rel p).imp fun vs H' ⟨hl, q⟩ => ?_⟩
    match vs, hl with
    | [v, u, t], _ => exact ⟨v, u, t, rfl, q⟩
end
end PI

set_option maxHeartbeats 1000000
/-! PI, part m: defs and their calls. -/
namespace PI
open PySem L2 PyProof.Rows
/-- a def's promise, where no repr is under way -/
structure FnG (P : Program) (w : World) (K : PySem.W.Frag) (mg : Str → Option Value) (base : Heap) (CX : CXT) (k : Nat) (f : Addr) (fd : FuncData) (ps : List Str) (sp : Sp) : Prop where
  len : ∀ vs H Q E, sp vs H Q E → vs.length = ps.length
  run : ∀ (A : Around) (out : List Env) (s : Shared) (H : Hp) (args : Args) (us : List Value) (vs : List V) (Q : VK) (E : XK), Room k A → A.guards = some [] → Env0 P w K mg base A out s H → BindsTo s fd args (ps.zip us) →
    Vals vs us → sp vs H Q E → codeAny (model P w) A (.call (.ref f) args) (CR CX out P w H s Q E) s
theorem FnG.up {P : Program} {w : World} {K : PySem.W.Frag} {mg : Str → Option Value} {base : Heap} {CX : CXT} {j k : Nat} {f : Addr} {fd : FuncData} {ps : List Str} {sp : Sp} (F : FnG P w K mg base CX j f fd ps sp) (h : j ≤ k) : FnG P w K mg base CX k f fd ps sp :=
  ⟨F.len, fun A out s H args us vs Q E hr => F.run A out s H args us vs Q E (hr.mono h)⟩
theorem fnG_of {CX : CXT} {P : Program} {w : World} {K : PySem.W.Frag} {mg : Str → Option Value} {base : Heap} {k : Nat} {f : Addr} {name qual : Str} {params : Arguments} {body : List Stmt} {scope : Scope} {dV kV doc pm cdv ct oc : Value} {an od : Option Addr} {osl : Array (Option Value)} {N ps : List Str} {sp : Sp}
    (lk : K.lookup f = some ⟨oc, od, .func (PySem.W.fnOf name qual params body scope dV kV doc pm an cdv ct), osl⟩) (hcd : PySem.W.codeIn K cdv qual = true) (S : FnScope N ps scope)
    (len : ∀ vs H Q E, sp vs H Q E → vs.length = ps.length)
    (hb : ∀ (A : Around) (out : List Env) (s : Shared) (H : Hp) (vs : List V) (Q : VK) (E : XK), Room k (A.deeper (envOfC qual scope s.heap.objs.size f cdv)) → A.guards = some [] → sp vs H Q E →
      ∃ t, PSs (cxOf CX P w K mg base N qual scope f cdv A out s H E) body t ∧ t { nx := fun _ H' => Q .non H', rt := Q } (L2.start N vs) H) :
    FnG P w K mg base CX (k + 1) f (PySem.W.fnOf name qual params body scope dV kV doc pm an cdv ct) ps sp := by
  refine ⟨len, fun A out s H args us vs Q E hr hgd e0 bt r hsp => ?_⟩
  obtain ⟨t, pt, ht⟩ := hb A out s H vs Q E (hr.deeper _) hgd hsp
  have inK : K.In s.heap := e0.mod.kin.keeps fun b o e => (e0.bs b o e).1
  have noL : s.heap.NoLimit := e0.mod.nolimit.keeps fun b o e => (e0.bs b o e).1
  have kinds : ((ps.zip us).all fun y => scope.names.lookup y.1 == some .local || scope.names.lookup y.1 == some .cell) = true := by
    refine List.all_eq_true.mpr fun y hy => ?_
    rcases S.par y.1 (List.of_mem_zip (a := y.1) (b := y.2) hy).1 with z | z <;> rw [z] <;> rfl
  refine Att.call_fn inK noL lk hcd hr.depth bt kinds (fun s1 x => ?_) S.co S.gen S.kind
  have J := inv_start (CX := CX) (E := E) S hr.hd e0 (len _ _ _ _ hsp) r x
  refine wpAny_mono (pt.run [] s1 _ H _ J ht) (fun fl s2 z => ?_) fun _ _ z => z
  cases fl with
  | brk => exact z.elim fun _ z => z.elim fun _ z => z.2.elim
  | cont => exact z.elim fun _ z => z.elim fun _ z => z.2.elim
  | next =>
    obtain ⟨_, H2, J2, q⟩ := z
    exact ⟨.non, H2, J2.os, J2.bare, J2.base, J2.hok, rfl, q⟩
  | ret u =>
    obtain ⟨v, _, H2, J2, rv, q⟩ := z
    exact ⟨v, H2, J2.os, J2.bare, J2.base, J2.hok, rv, q⟩

/-! ### a def's meaning -/
def startE (n : Nat) (ds : List D) : Env' := ds.map some ++ List.replicate (n - ds.length) none
def cutS (n : Nat) (s : SS) : SS := { s with cs := s.cs.take n }
def fnM (n : Nat) (b : SM) (ds : List D) : M D := fun s => match b (startE n ds) s with
  | .nx _ s' => .ok .non (cutS s.cs.length s')
  | .rt d s' => if pureB d then .ok d (cutS s.cs.length s') else .stuck
  | .exc c f _ s' => .exc c f (cutS s.cs.length s')
  | _ => .stuck
abbrev wE (E : XK) : WX := fun c d _ H => E c d H
def spM (xc : XC) (K : PySem.W.Frag) (n : Nat) (m : List D → M D) : Sp := fun vs H Q E => vs.length = n ∧ ∃ w ds s, Sto K w s H ∧ RepTs K w H vs ds ∧ Post K xc (wE E) [] w H Q (m ds s)
theorem repTs_get {K : PySem.W.Frag} {w : Wd} {H : Hp} : ∀ {vs : List V} {ds : List D} {i : Nat} {d : D}, RepTs K w H vs ds → ds[i]? = some d → ∃ v, vs[i]? = some v ∧ RepT K w H v d
  | _, _, _, _, .nil, e => by simp at e
  | _, _, 0, _, .cons h _, e => by simp at e; subst e; exact ⟨_, rfl, h⟩
  | _, _, i + 1, d, .cons _ r, e => by
    obtain ⟨v, h1, h2⟩ := repTs_get (i := i) (d := d) r (by simpa using e)
    exact ⟨v, by simpa using h1, h2⟩
theorem rel_start {K : PySem.W.Frag} {w : Wd} {H : Hp} {s : SS} {N : List Str} {vs : List V} {ds : List D} (t : Sto K w s H) (r : RepTs K w H vs ds) : Rel K w (startE N.length ds) s (L2.start N vs) H := by
  have hl := r.length
  refine ⟨?_, fun i d e => ?_, t⟩
  · unfold startE L2.start
    simp [hl]
  · unfold startE at e
    unfold L2.start
    by_cases hi : i < ds.length
    · rw [List.getElem?_append_left (by simpa using hi), List.getElem?_map] at e
      cases q : ds[i]? with
      | none => rw [q] at e; cases e
      | some d' =>
        rw [q] at e
        cases e
        obtain ⟨v, h1, h2⟩ := repTs_get r q
        refine ⟨v, ?_, h2⟩
        rw [List.getElem?_append_left (by rw [List.length_map, hl]; exact hi), List.getElem?_map, h1]
        rfl
    · rw [List.getElem?_append_right (by simpa using hi), List.getElem?_replicate] at e
      split at e <;> cases e
/-- behind a call: what it made is forgotten -/
theorem cut_go {K : PySem.W.Frag} {w w' : Wd} {H H' : Hp} {s s' : SS} (t : Sto K w s H) (g : Go w H w' H') (t' : Sto K w' s' H') : ∃ w2, Go w H w2 H' ∧ Sto K w2 (cutS s.cs.length s') H' := by
  obtain ⟨ext, he⟩ := g.pre
  have hl := t.len
  have hl' := t'.len
  refine ⟨⟨w'.m, w.ρ⟩, ⟨g.kp, fun a ha => ?_, ⟨[], by simp⟩, g.ms⟩, t'.m, ?_, fun i a c h1 h2 => ?_, ?_⟩
  · refine g.gr a ?_
    unfold Wd.ws at ha ⊢
    rcases List.mem_append.mp ha with z | z
    · exact List.mem_append_left _ z
    · exact List.mem_append_right _ (by rw [he]; exact List.mem_append_left _ z)
  · show w.ρ.length = (s'.cs.take s.cs.length).length
    rw [List.length_take, ← hl', he, List.length_append]
    omega
  · have h1 : w.ρ[i]? = some a := h1
    have hi : i < w.ρ.length := (List.getElem?_eq_some_iff.mp h1).1
    have h2 : (s'.cs.take s.cs.length)[i]? = some c := h2
    rw [List.getElem?_take_of_lt (by omega)] at h2
    refine t'.cs i a c ?_ h2
    rw [he, List.getElem?_append_left hi]
    exact h1
  · have nd := t'.nd
    unfold Wd.ws at nd ⊢
    rw [he, ← List.append_assoc] at nd
    exact (List.nodup_append.mp nd).1
theorem fn_post {K : PySem.W.Frag} {xc : XC} {w : Wd} {H : Hp} {s : SS} {n : Nat} {ds : List D} {b : SM} {Q : VK} {E : XK} (t : Sto K w s H) (p : Post K xc (wE E) [] w H Q (fnM n b ds s)) :
    PostS K xc (wE E) { nx := fun _ H' => Q .non H', rt := Q } w H (b (startE n ds) s) := by
  unfold fnM at p
  cases q : b (startE n ds) s with
  | nx env' s' =>
    rw [q] at p
    intro σ' H' w' g rel
    obtain ⟨w2, g2, t2⟩ := cut_go t g rel.st
    exact p .non H' w2 g2 t2 (.of .non)
  | rt d s' =>
    rw [q] at p
    dsimp only at p
    intro v H' w' g t' r
    split at p
    · rename_i hp
      obtain ⟨w2, g2, t2⟩ := cut_go t g t'
      exact p v H' w2 g2 t2 (.of (r.pure hp))
    · exact p.elim
  | exc c f env' s' =>
    rw [q] at p
    intro x v σ' H' w' g rel e r
    obtain ⟨w2, g2, t2⟩ := cut_go t g rel.st
    exact p x v H' w2 g2 t2 e r
  | brk _ _ => rw [q] at p; exact p.elim
  | cont _ _ => rw [q] at p; exact p.elim
  | stuck => rw [q] at p; exact p.elim
/-- what a name of the module that is a def gives -/
structure FnAt (P : Program) (w : World) (K : PySem.W.Frag) (mg : Str → Option Value) (base : Heap) (xc : XC) (k : Nat) (x : Str) (ps : List Str) (m : List D → M D) : Prop where
  at_ : ∃ (f : Addr) (fd : FuncData), mg x = some (.ref f) ∧ PySem.W.keepIn K (.ref f) = true ∧ Binds K fd ps [] ∧ FnG P w K mg base (L2.CX P w) k f fd ps (spM xc K ps.length m)
theorem FnAt.up {P : Program} {w : World} {K : PySem.W.Frag} {mg : Str → Option Value} {base : Heap} {xc : XC} {j k : Nat} {x : Str} {ps : List Str} {m : List D → M D} (F : FnAt P w K mg base xc j x ps m) (h : j ≤ k) : FnAt P w K mg base xc k x ps m := by
  obtain ⟨f, fd, h1, h2, h3, h4⟩ := F.at_
  exact ⟨f, fd, h1, h2, h3, h4.up h⟩
section
variable {X : Cx} {xc : XC} {W : WX}
theorem call_post {K : PySem.W.Frag} {σ : L2.St} {w : Wd} {H : Hp} {Q : VK} : ∀ {r : R D}, Post K xc W σ w H Q r → Post K xc (wE (WE W σ)) [] w H Q r
  | .ok _ _, p => p
  | .exc _ _ _, p => p
  | .stuck, p => p
theorem callG {k : Nat} {f : Addr} {fd : FuncData} {ps : List Str} {sp : Sp} {pins : List (Addr × Obj)} {σ : L2.St} {H : Hp} {s : Shared} {Q : VK} {us : List Value} {vs : List V} (F : FnG X.prog X.w X.K X.mg X.base (L2.CX X.prog X.w) k f fd ps sp) (hr : Room k X.A) (hgd : X.A.guards = some []) (hb : Binds X.K fd ps []) (tk : Takes X W)
    (I : Inv X pins σ H s) (r : Vals vs us) (h : sp vs H Q (WE W σ)) : wpAny (model X.prog X.w) X.A (call (.ref f) us) (EP X pins σ Q) X.xe s := by
  have e : us ++ [] = us := List.append_nil us
  have b := hb s us I.kIn (by rw [e, ← r.length]; exact F.len _ _ _ _ h)
  rw [e] at b
  refine wpAny_call (codeAny_mono (F.run X.A X.stack s H ⟨us, []⟩ us vs Q (WE W σ) hr hgd I.env0 b r h) fun res s' z => ?_)
  cases res with
  | error x => exact passAt tk σ pins H s x s' I z
  | ok fl =>
    cases fl with
    | ret u => exact I.after z
    | next => exact z.elim
    | brk => exact z.elim
    | cont => exact z.elim
theorem pd_call {k : Nat} {x : Str} {ps : List Str} {p pos : Pos} {e : Expr} {es : List Expr} {m : List D → M D} {ms : Env' → M (List D)} (F : FnAt X.prog X.w X.K X.mg X.base xc k x ps m) (hr : Room k X.A) (hgd : X.A.guards = some []) (hg : Gl X x) (tk : Takes X W)
    (hn : ∀ env s ds s', ms env s = .ok ds s' → ds.length = ps.length) (ha : PA X (e :: es) (tA X.K xc W ms)) (hdb : (x == ("__debug__" : Str)) = false) (he : starEach (e :: es) X.env = (false, eval e X.env) :: starEach es X.env) (hpl : (backTo pos (starEach es X.env)).any (·.1) = false) :
    PE X (.Call (.Name x p) (e :: es) [] pos) (tE X.K xc W fun env => ms env >>= m) := by
  obtain ⟨f, fd, h1, h2, h3, h4⟩ := F.at_
  refine ⟨fun pins s σ H Q I ⟨w, env, s0, rel, q⟩ => wpAny_Call_Name_kw (ld_glob I hg h1 ?_ hdb)⟩
  have q1 : tA X.K xc W ms σ H fun vs H1 => spM xc X.K ps.length m vs H1 Q (WE W σ) := by
    have z := Post.bindA q
    refine ⟨w, env, s0, rel, ?_⟩
    cases em : ms env s0 with
    | ok ds s1 =>
      rw [em] at z
      have hlen := hn env s0 ds s1 em
      have q' : Post X.K xc W σ w H Q (M.bnd (ms env) m s0) := q
      unfold M.bnd at q'
      rw [em] at q'
      intro vs H1 w1 g t r
      exact ⟨by rw [r.length, hlen], w1, ds, s1, t, r, call_post (q'.mono g)⟩
    | exc c d s1 => rw [em] at z; exact z
    | stuck => rw [em] at z; exact z
  refine PySem.W.callWith_K (h₀ := X.base) I.ok.mod.kin h2 (thn (ha.run pos pins s σ H _ I q1) fun us s1 ⟨vs, H1, I1, r, z⟩ => ⟨I1.kIn, callG h4 hr hgd h3 tk I1 r z⟩) he hpl
theorem pd_call0 {k : Nat} {x : Str} {p pos : Pos} {m : List D → M D} (F : FnAt X.prog X.w X.K X.mg X.base xc k x [] m) (hr : Room k X.A) (hgd : X.A.guards = some []) (hg : Gl X x) (tk : Takes X W) (hdb : (x == ("__debug__" : Str)) = false) :
    PE X (.Call (.Name x p) [] [] pos) (tE X.K xc W fun _ => m []) := by
  obtain ⟨f, fd, h1, h2, h3, h4⟩ := F.at_
  refine ⟨fun pins s σ H Q I ⟨w, env, s0, rel, q⟩ => wpAny_Call_Name_kw (ld_glob I hg h1 ?_ hdb)⟩
  exact PySem.W.callWith_K0 I.kIn h2 (callG (us := []) (vs := []) h4 hr hgd h3 tk I .nil ⟨rfl, w, [], s0, rel.st, .nil, call_post q⟩)
/-- a def of the module, by its body -/
theorem fnAt_of {P : Program} {w : World} {K : PySem.W.Frag} {mg : Str → Option Value} {base : Heap} {k : Nat} {x : Str} {st : Stmt} {f : Addr} {fd : FuncData} {N ps : List Str} {b : SM} (F : Fun K x x st f fd) (hm : mg x = some (.ref f)) (S : FnScope N ps (defScope st))
    (hb : ∀ (kV doc pm : Value) (an : Option Addr) (cdv ct : Value) (us : List Value), us.length = ps.length → bindArgs (PySem.W.fnOf x x (defArgs st) (defBody st) (defScope st) .none kV doc pm an cdv ct) ⟨us, []⟩ = pure (ps.zip us))
    (body : ∀ (cdv : Value) (A : Around) (out : List Env) (s : Shared) (H : Hp) (E : XK), Room k (A.deeper (envOfC x (defScope st) s.heap.objs.size f cdv)) → A.guards = some [] →
      Takes (cxOf (L2.CX P w) P w K mg base N x (defScope st) f cdv A out s H E) (wE E) → PassesOwn (model P w) (A.deeper (envOfC x (defScope st) s.heap.objs.size f cdv)) (envOfC x (defScope st) s.heap.objs.size f cdv) (cxOf (L2.CX P w) P w K mg base N x (defScope st) f cdv A out s H E).xe →
      PSs (cxOf (L2.CX P w) P w K mg base N x (defScope st) f cdv A out s H E) (defBody st) (tS K xc (wE E) b)) :
    FnAt P w K mg base xc (k + 1) x ps (fnM N.length b) := by
  refine ⟨f, fd, hm, F.kp, F.binds hb, ?_⟩
  obtain ⟨oc, od, kV, doc, pm, an, cdv, ct, osl, rfl, lk, hcd⟩ := F.ex
  refine fnG_of lk hcd S (fun vs H Q E z => z.1) fun A out s H vs Q E hr hgd z => ?_
  obtain ⟨_, w0, ds, s0, t0, r0, p0⟩ := z
  refine ⟨_, body cdv A out s H E hr hgd (takes_of rfl rfl rfl rfl) (passes_of rfl), ?_⟩
  exact ⟨w0, startE N.length ds, s0, rel_start t0 r0, fn_post t0 p0⟩
end
end PI

set_option maxHeartbeats 1000000
/-! PI, part oe: instances made. -/
namespace PI
open PySem L2
section
variable {X : Cx} {W : WX} {C f : Addr} {fd : FuncData} {ps : List Str} {sp : Sp} {k : Nat}
theorem run_makeG {pins : List (Addr × Obj)} {σ : L2.St} {H : Hp} {s : Shared} {Q : VK} {us : List Value} {vs : List V} (M : Mk X.K C f) (F : FnG X.prog X.w X.K X.mg X.base (L2.CX X.prog X.w) k f fd ps sp) (hr : Room (k + 1) X.A) (hgd : X.A.guards = some []) (hb : Binds X.K fd ps [])
    (tk : Takes X W) (I : Inv X pins σ H s) (r : Vals vs us)
    (h : ∀ x dx, H x = none → H dx = none → dx ≠ x → sp (.ref x :: vs) (upd (upd H dx (.own x)) x (.ins C dx [])) (fun v H2 => v = .non ∧ Q (.ref x) H2) (WE W σ)) :
    wpAny (model X.prog X.w) X.A (call (.ref C) us) (EP X pins σ Q) X.xe s := by
  have hq := h (s.heap.objs.size + 1) s.heap.objs.size (I.hok.fresh (Nat.le_succ _)) (I.hok.fresh (Nat.le_refl _)) (Nat.ne_of_lt (Nat.lt_succ_self _))
  have I2 := Inv.made (C := C) I
  have r2 : Vals (V.ref (s.heap.objs.size + 1) :: vs) (Value.ref (s.heap.objs.size + 1) :: us) := .cons rfl r
  have hl : (Value.ref (s.heap.objs.size + 1) :: us ++ []).length = ps.length := by
    have e := r2.length
    rw [F.len _ _ _ _ hq] at e
    rw [List.append_nil]
    exact e.symm
  have b := hb _ (Value.ref (s.heap.objs.size + 1) :: us) I2.kIn hl
  rw [List.append_nil] at b
  refine wpAny_call (make_map (f := f) I.kIn M.makes M.init (beq_iff_eq.mp M.fn) (codeAny_mono (F.run _ X.stack _ _ ⟨Value.ref (s.heap.objs.size + 1) :: us, []⟩ (Value.ref (s.heap.objs.size + 1) :: us) _ _ (WE W σ) (hr.make C us [])
    hgd (I2.env0.make C us []) b r2 hq) fun r s' hq' => ?_))
  cases r with
  | error e => exact passAt tk σ pins _ _ e s' I2 hq'
  | ok fl =>
    cases fl with
    | ret u =>
      obtain ⟨v, H', I3, rv, ev, q3⟩ := I2.after hq'
      subst ev
      exact ⟨rv, ⟨V.ref (s.heap.objs.size + 1), H', I3, rfl, q3⟩⟩
    | next => exact False.elim hq'
    | brk => exact False.elim hq'
    | cont => exact False.elim hq'
end
/-! ### an instance, as data: its __init__ runs with self an own cell -/
def mkM (C : Addr) (fn : List Str) (n : Nat) (b : SM) (ds : List D) : M D := fun s => match b (startE n (.own s.cs.length :: ds)) { s with cs := s.cs ++ [(false, .ins C fn [])] } with
  | .nx _ s' => match s'.cs[s.cs.length]? with
    | some (false, .ins C' fn' fv) => if decide (fv.length = fn'.length) && decide (2 ≤ fn'.length) then .ok (.obj C' fn' fv) (cutS s.cs.length s') else .stuck
    | _ => .stuck
  | .exc c f _ s' => .exc c f (cutS s.cs.length s')
  | _ => .stuck
def spS (xc : XC) (K : PySem.W.Frag) (n N : Nat) (b : SM) : Sp := fun vs H Q E => vs.length = n ∧ ∃ w ds s, Sto K w s H ∧ RepTs K w H vs ds ∧ PostS K xc (wE E) { nx := fun _ H' => Q .non H', rt := Q } w H (b (startE N ds) s)
/-- what a name of the module that is a class gives -/
structure MkAt (P : Program) (w : World) (K : PySem.W.Frag) (mg : Str → Option Value) (base : Heap) (xc : XC) (k : Nat) (x : Str) (C : Addr) (ps fn : List Str) (N : Nat) (b : SM) : Prop where
  glob : mg x = some (.ref C)
  keep : PySem.W.keepIn K (.ref C) = true
  cls : ObjCls K C fn
  init : ∃ (f : Addr) (fd : FuncData), Mk K C f ∧ Binds K fd ("self" :: ps) [] ∧ FnG P w K mg base (L2.CX P w) k f fd ("self" :: ps) (spS xc K (ps.length + 1) N b)
theorem sto_push {K : PySem.W.Frag} {w : Wd} {s : SS} {H : Hp} {x : Addr} {c : Bool × OC} (t : Sto K w s H) (hx : x ∉ w.ws) (hc : CellAt K H x c) : Sto K ⟨w.m, w.ρ ++ [x]⟩ { s with cs := s.cs ++ [c] } H := by
  refine ⟨t.m, by simp [t.len], fun i a c' h1 h2 => ?_, ?_⟩
  · have h1 : (w.ρ ++ [x])[i]? = some a := h1
    have h2 : (s.cs ++ [c])[i]? = some c' := h2
    by_cases hi : i < w.ρ.length
    · rw [List.getElem?_append_left hi] at h1
      rw [List.getElem?_append_left (by rw [← t.len]; exact hi)] at h2
      exact t.cs i a c' h1 h2
    · have e : i = w.ρ.length := by
        have := (List.getElem?_eq_some_iff.mp h1).1
        simp at this; omega
      subst e
      rw [List.getElem?_append_right (Nat.le_refl _)] at h1
      rw [t.len, List.getElem?_append_right (Nat.le_refl _)] at h2
      simp at h1 h2
      subst h1 h2
      exact hc
  · have nd := t.nd
    unfold Wd.ws at nd hx ⊢
    rw [← List.append_assoc]
    exact List.nodup_append.mpr ⟨nd, by simp, fun a ha b hb e => by simp at hb; subst hb; subst e; exact hx ha⟩
section
variable {X : Cx} {xc : XC} {W : WX}
theorem mk_post {w : Wd} {H : Hp} {s : SS} {C : Addr} {fn : List Str} {N : Nat} {b : SM} {ds : List D} {vs : List V} {Q : VK} {σ : L2.St} (oc : ObjCls X.K C fn) (t : Sto X.K w s H) (r : RepTs X.K w H vs ds) (p : Post X.K xc W σ w H Q (mkM C fn N b ds s)) (x dx : Addr) (hx : H x = none) (hd : H dx = none) (ne : dx ≠ x) :
    spS xc X.K (vs.length + 1) N b (.ref x :: vs) (upd (upd H dx (.own x)) x (.ins C dx [])) (fun v H2 => v = .non ∧ Q (.ref x) H2) (WE W σ) := by
  have hx1 : upd H dx (.own x) x = none := by rw [upd_ne (Ne.symm ne)]; exact hx
  have sm : Same H (upd (upd H dx (.own x)) x (.ins C dx [])) := fun a o e => snew hx1 a o (snew hd a o e)
  have hxw : x ∉ w.ws := fun h => by obtain ⟨o, e⟩ := ws_some t h; rw [hx] at e; cases e
  have hxs : upd (upd H dx (.own x)) x (.ins C dx []) x = some (.ins C dx []) := upd_same
  have g0 : Go w H ⟨w.m, w.ρ ++ [x]⟩ (upd (upd H dx (.own x)) x (.ins C dx [])) := ⟨fun a o e _ => sm a o e, fun a ha => by
    unfold Wd.ws at ha ⊢
    rw [← List.append_assoc] at ha
    rcases List.mem_append.mp ha with z | z
    · exact .inl z
    · simp at z; subst z; exact .inr hx, ⟨[x], rfl⟩, fun _ => rfl⟩
  have t0 : Sto X.K ⟨w.m, w.ρ ++ [x]⟩ { s with cs := s.cs ++ [(false, .ins C fn [])] } (upd (upd H dx (.own x)) x (.ins C dx [])) := sto_push (t.same sm) hxw ⟨dx, [], hxs, rfl, oc, .nil⟩
  refine ⟨rfl, ⟨w.m, w.ρ ++ [x]⟩, .own s.cs.length :: ds, _, t0, .cons ⟨x, ?_, rfl⟩ (r.mono g0), ?_⟩
  · show (w.ρ ++ [x])[s.cs.length]? = some x
    rw [← t.len, List.getElem?_append_right (Nat.le_refl _)]; simp
  unfold mkM at p
  cases q : b (startE N (.own s.cs.length :: ds)) { s with cs := s.cs ++ [(false, .ins C fn [])] } with
  | stuck => rw [q] at p; exact p.elim
  | brk _ _ => rw [q] at p; exact p.elim
  | cont _ _ => rw [q] at p; exact p.elim
  | rt _ _ => rw [q] at p; exact p.elim
  | exc c f env' s' =>
    rw [q] at p
    intro y v σ' H' w' g rel e' r'
    obtain ⟨w2, g2, t2⟩ := cut_go t (g0.trans g) rel.st
    exact p y v H' w2 g2 t2 e' r'
  | nx env' s' =>
    rw [q] at p
    dsimp only at p
    intro σ' H' w' g rel
    refine ⟨rfl, ?_⟩
    split at p
    · rename_i C' fn' fv hcell
      split at p
      · rename_i hc
        rw [Bool.and_eq_true, decide_eq_true_iff, decide_eq_true_iff] at hc
        obtain ⟨w2, g2, t2⟩ := cut_go t (g0.trans g) rel.st
        obtain ⟨ext, he⟩ := g.pre
        have hi : w'.ρ[s.cs.length]? = some x := by
          rw [he]
          show (w.ρ ++ [x] ++ ext)[s.cs.length]? = some x
          rw [List.append_assoc, ← t.len, List.getElem?_append_right (Nat.le_refl _)]; simp
        obtain ⟨dx', fs, h1, h2, h3, h4⟩ := rel.st.cs _ x _ hi hcell
        rw [hc.1, List.take_length] at h2
        refine p (.ref x) H' w2 g2 t2 (.of (.obj h1 ?_ h3 h2 h4))
        rw [← List.length_map (f := (·.1)), h2]; exact hc.2
      · exact p.elim
    · exact p.elim
theorem pd_make {k : Nat} {x : Str} {C : Addr} {ps fn : List Str} {p pos : Pos} {e : Expr} {es : List Expr} {N : Nat} {b : SM} {ms : Env' → M (List D)} (F : MkAt X.prog X.w X.K X.mg X.base xc k x C ps fn N b) (hr : Room (k + 1) X.A) (hgd : X.A.guards = some []) (hg : Gl X x) (tk : Takes X W)
    (hn : ∀ env s ds s', ms env s = .ok ds s' → ds.length = ps.length) (ha : PA X (e :: es) (tA X.K xc W ms)) (hdb : (x == ("__debug__" : Str)) = false) (he : starEach (e :: es) X.env = (false, eval e X.env) :: starEach es X.env) (hpl : (backTo pos (starEach es X.env)).any (·.1) = false) :
    PE X (.Call (.Name x p) (e :: es) [] pos) (tE X.K xc W fun env => ms env >>= mkM C fn N b) := by
  obtain ⟨f, fd, h2, h3, h4⟩ := F.init
  refine ⟨fun pins s σ H Q I ⟨w, env, s0, rel, q⟩ => wpAny_Call_Name_kw (ld_glob I hg F.glob ?_ hdb)⟩
  have q1 : tA X.K xc W ms σ H fun vs H1 => ∀ x dx, H1 x = none → H1 dx = none → dx ≠ x → spS xc X.K (ps.length + 1) N b (.ref x :: vs) (upd (upd H1 dx (.own x)) x (.ins C dx [])) (fun v H2 => v = .non ∧ Q (.ref x) H2) (WE W σ) := by
    have z := Post.bindA q
    refine ⟨w, env, s0, rel, ?_⟩
    cases em : ms env s0 with
    | ok ds s1 =>
      rw [em] at z
      have hlen := hn env s0 ds s1 em
      have q' : Post X.K xc W σ w H Q (M.bnd (ms env) (mkM C fn N b) s0) := q
      unfold M.bnd at q'
      rw [em] at q'
      intro vs H1 w1 g t r x dx hx hd ne
      have e1 : vs.length = ps.length := by rw [r.length, hlen]
      rw [← e1]
      exact mk_post F.cls t r (q'.mono g) x dx hx hd ne
    | exc c d s1 => rw [em] at z; exact z
    | stuck => rw [em] at z; exact z
  refine PySem.W.callWith_K (h₀ := X.base) I.ok.mod.kin F.keep (thn (ha.run pos pins s σ H _ I q1) fun us s1 ⟨vs, H1, I1, r, z⟩ => ⟨I1.kIn, run_makeG h2 h4 hr hgd h3 tk I1 r z⟩) he hpl
end
end PI

set_option maxHeartbeats 1000000
/-! PI, part of: a field of self is laid. -/
namespace PI
open PySem L2
def fldS (i : Nat) (f : Str) (m : Env' → M D) : SM := fun env s => match m env s with
  | .ok d s' => match env[i]? with
    | some (some (.own j)) => match s'.cs[j]? with
      | some (false, .ins C fn fv) => if pureB d && decide (fv.length < 2) && decide (fn[fv.length]? = some f) && !(fn.take fv.length).contains f then .nx env { s' with cs := s'.cs.set j (false, .ins C fn (fv ++ [d])) } else .stuck
      | _ => .stuck
    | _ => .stuck
  | .exc c f s' => .exc c f env s'
  | .stuck => .stuck
theorem putF_new {f : Str} {y : V} : ∀ {fs : List (Str × V)}, (fs.map (·.1)).contains f = false → putF f y fs = fs ++ [(f, y)]
  | [], _ => rfl
  | (g, x) :: r, h => by
    have h' : (g :: r.map (·.1)).contains f = false := h
    rw [List.contains_cons, Bool.or_eq_false_iff] at h'
    have ne : ¬ g = f := fun e => by subst e; simp at h'
    show (if g = f then _ else _) = _
    rw [if_neg ne, putF_new h'.2]
    rfl
section
variable {X : Cx} {xc : XC} {W : WX}
theorem pds_fld {o value : Expr} {f : Str} {pos pos' : Pos} {i : Nat} {m : Env' → M D} (ha : PE X o (fun σ H Q => ∃ v, σ[i]? = some (some v) ∧ Q v H)) (hv : PE X value (tE X.K xc W m)) (hs : swapsWith value (some (.Attribute o f pos')) pos.line X.env = pure false) :
    PS X (.Assign [.Attribute o f pos'] value pos) (tS X.K xc W (fldS i f m)) :=
  psimp (ps_fld ha hv hs) fun E σ H ⟨w, env, s, rel, p⟩ => by
    refine ⟨w, env, s, rel, ?_⟩
    unfold fldS at p
    cases q : m env s with
    | exc c f s' => rw [q] at p; exact exc_post rel p
    | stuck => rw [q] at p; exact p
    | ok d s' =>
      rw [q] at p
      dsimp only at p
      intro v H' w' g t r
      split at p
      · rename_i j he
        split at p
        · rename_i C fn fv hc
          split at p
          · rename_i hk
            simp only [Bool.and_eq_true, decide_eq_true_iff, Bool.not_eq_true'] at hk
            obtain ⟨⟨⟨k1, k2⟩, k3⟩, k4⟩ := hk
            obtain ⟨u, hu, a, hj, rfl⟩ := (rel.go g t).sl i _ he
            obtain ⟨dx, fs, h1, h2, h3, h4⟩ := t.cs j a _ hj hc
            refine ⟨_, hu, a, C, dx, fs, rfl, h1, h3.cls, h3.noa f (List.mem_of_getElem? k3), ?_, ?_⟩
            · have := congrArg List.length h2
              simp at this; omega
            · rw [putF_new (by rw [h2]; exact k4)]
              have nf : ∀ u, H' a = some u → ¬ Fz u := fun u e z => by
                rw [h1] at e; cases e
                have z : 2 ≤ fs.length := z
                have := congrArg List.length h2
                simp at this; omega
              have ex : Ext H' (upd H' a (.ins C dx (fs ++ [(f, v)]))) := ⟨fun b u e z => by
                have ne : b ≠ a := by rintro rfl; exact nf u e z
                rw [upd_ne ne]; exact e⟩
              obtain ⟨g2, t2⟩ := sto_set (o := .ins C dx (fs ++ [(f, v)])) (c := (false, .ins C fn (fv ++ [d]))) t hj nf ⟨dx, fs ++ [(f, v)], upd_same, by
                rw [List.map_append, h2, List.length_append]
                show _ ++ [f] = fn.take (fv.length + 1)
                rw [List.take_succ, k3]; rfl, h3, by
                rw [List.map_append]
                exact (h4.mono ex).append (.cons ((r.pure k1).mono ex) .nil)⟩
              exact p σ _ w' (g.trans g2) (rel.go (g.trans g2) t2)
          · exact p.elim
        · exact p.elim
      · exact p.elim
end
end PI

set_option maxHeartbeats 1000000
/-! PI, part og: methods; own lists and dicts: made, added to, read. -/
namespace PI
open PySem L2
/-! ### methods -/
def methM (C : Addr) (m : Str) (mm : List D → M D) : List D → M D
  | .obj c fn fv :: ds => if decide (c = C) && !fn.contains m then mm (.obj c fn fv :: ds) else M.stk
  | _ => M.stk
structure MtAt (P : Program) (w : World) (K : PySem.W.Frag) (mg : Str → Option Value) (base : Heap) (xc : XC) (k : Nat) (C : Addr) (m : Str) (ps : List Str) (mm : List D → M D) : Prop where
  at_ : ∃ (f : Addr) (fd : FuncData), Meth K C m f ∧ Binds K fd ("self" :: ps) [] ∧ FnG P w K mg base (L2.CX P w) k f fd ("self" :: ps) (spM xc K (ps.length + 1) mm)
  cls : Cls K C
theorem lookup_none {m : Str} : ∀ {fs : List (Str × V)}, (fs.map (·.1)).contains m = false → fs.lookup m = none
  | [], _ => rfl
  | (g, x) :: r, h => by
    have h' : (g :: r.map (·.1)).contains m = false := h
    rw [List.contains_cons, Bool.or_eq_false_iff] at h'
    rw [List.lookup_cons, h'.1]
    exact lookup_none h'.2
section
variable {X : Cx} {xc : XC} {W : WX}
theorem meth_recv {w : Wd} {H : Hp} {x : D} {v : V} {C : Addr} {m : Str} {mm : List D → M D} {ys : List D} {s : SS} {σ : L2.St} {Q : VK} {w2 : Wd} {H2 : Hp} (r : RepT X.K w H v x) (p : Post X.K xc W σ w2 H2 Q (methM C m mm (x :: ys) s)) :
    ∃ a dx fs, v = .ref a ∧ H a = some (.ins C dx fs) ∧ fs.lookup m = none ∧ Post X.K xc W σ w2 H2 Q (mm (x :: ys) s) := by
  cases x with
  | obj c fn fv =>
    have p' : Post X.K xc W σ w2 H2 Q ((if (decide (c = C) && !fn.contains m) = true then mm (.obj c fn fv :: ys) else M.stk) s) := p
    clear p
    by_cases h : (decide (c = C) && !fn.contains m) = true
    · rw [if_pos h] at p'
      rw [Bool.and_eq_true, decide_eq_true_iff, Bool.not_eq_true'] at h
      obtain ⟨h1, h2⟩ := h
      subst h1
      have r : Rep X.K H v (.obj c fn fv) := r
      cases r with
      | obj ha hl cl en rs =>
        subst en
        exact ⟨_, _, _, rfl, ha, lookup_none h2, p'⟩
    · rw [if_neg h] at p'; exact p'.elim
  | _ => exact p.elim
theorem calm_ok {α : Type} {x : M α} {s : SS} {a : α} {s' : SS} (h : x s = .ok a s') : M.calm x s = .ok a s' := by unfold M.calm; rw [h]
theorem pd_meth {k : Nat} {C : Addr} {m : Str} {ps : List Str} {mm : List D → M D} {o e : Expr} {es : List Expr} {apos pos : Pos} {pl : Sem Bool} {mo : Env' → M D} {ms : Env' → M (List D)} (he : PE X o (tE X.K xc W mo)) (F : MtAt X.prog X.w X.K X.mg X.base xc k C m ps mm) (hr : Room k X.A) (hgd : X.A.guards = some []) (tk : Takes X W)
    (hn : ∀ env s ds s', ms env s = .ok ds s' → ds.length = ps.length) (ha : PA X (e :: es) (tA X.K xc W ms)) (hst : starEach (e :: es) X.env = (false, eval e X.env) :: starEach es X.env) (hpl : (backTo pos (starEach es X.env)).any (·.1) = false)
    (ht : eval (.Call (.Attribute o m apos) (e :: es) [] pos) X.env = (do
      let ov ← eval o X.env
      standAt apos.atName
      let (f, first) ← holding [ov] (getMethod ov m pl)
      callWith pos f first (backTo pos (starEach (e :: es) X.env)) (backToKw pos (keywordEach [] X.env)))) :
    PE X (.Call (.Attribute o m apos) (e :: es) [] pos) (tE X.K xc W fun env => mo env >>= fun x => M.calm (ms env) >>= fun ys => methM C m mm (x :: ys)) := by
  obtain ⟨f, fd, h1, h3, h4⟩ := F.at_
  refine ⟨fun pins s σ H Q I ⟨w, env, s0, rel, q⟩ => ?_⟩
  refine PySem.W.methodCall_KW (pl := pl) (thn (he.run pins s σ H _ I (tE_of rel q)) fun u s1 ⟨x, H1, I1, rx, w1, d, s1', g, rel1, r, p1⟩ => ?_) ht
  rw [M_bind] at p1
  unfold M.bnd M.calm at p1
  cases em : ms env s1' with
  | exc _ _ _ => rw [em] at p1; exact p1.elim
  | stuck => rw [em] at p1; exact p1.elim
  | ok ys s2' =>
    rw [em] at p1
    dsimp only at p1
    obtain ⟨a, dx, fs, ev, ea, el, p2⟩ := meth_recv r p1
    subst ev
    obtain rfl : u = Value.ref a := rx
    refine getmeth_ok I1 ea F.cls h1 el ?_
    have hlen := hn env s1' ys s2' em
    have q1 : tA X.K xc W ms σ H1 fun vs H2 => spM xc X.K (ps.length + 1) mm (.ref a :: vs) H2 Q (WE W σ) := by
      refine ⟨w1, env, s1', rel1, ?_⟩
      rw [em]
      intro vs H2 w2 g2 t2 r2
      exact ⟨by rw [List.length_cons, r2.length, hlen], w2, d :: ys, s2', t2, .cons (r.mono g2) r2, call_post (p2.mono g2)⟩
    refine PySem.W.callWith_K (first := [.ref a]) (h₀ := X.base) I.ok.mod.kin h1.kp (thn (ha.run pos pins s1 σ H1 _ I1 q1) fun us s2 ⟨vs, H2, I2, rr, z⟩ => ⟨I2.kIn, ?_⟩) hst hpl
    exact callG (us := .ref a :: us) (vs := .ref a :: vs) h4 hr hgd h3 tk I2 (.cons rfl rr) z
theorem pd_meth0 {k : Nat} {C : Addr} {m : Str} {mm : List D → M D} {o : Expr} {apos pos : Pos} {pl : Sem Bool} {mo : Env' → M D} (he : PE X o (tE X.K xc W mo)) (F : MtAt X.prog X.w X.K X.mg X.base xc k C m [] mm) (hr : Room k X.A) (hgd : X.A.guards = some []) (tk : Takes X W)
    (ht : eval (.Call (.Attribute o m apos) [] [] pos) X.env = (do
      let ov ← eval o X.env
      standAt apos.atName
      let (f, first) ← holding [ov] (getMethod ov m pl)
      callWith pos f first (backTo pos (starEach [] X.env)) (backToKw pos (keywordEach [] X.env)))) :
    PE X (.Call (.Attribute o m apos) [] [] pos) (tE X.K xc W fun env => mo env >>= fun x => M.calm (M.ret []) >>= fun ys => methM C m mm (x :: ys)) := by
  obtain ⟨f, fd, h1, h3, h4⟩ := F.at_
  refine ⟨fun pins s σ H Q I ⟨w, env, s0, rel, q⟩ => ?_⟩
  refine PySem.W.methodCall_KW (pl := pl) (thn (he.run pins s σ H _ I (tE_of rel q)) fun u s1 ⟨x, H1, I1, rx, w1, d, s1', g, rel1, r, p1⟩ => ?_) ht
  have p1' : Post X.K xc W σ w1 H1 Q (methM C m mm [d] s1') := p1
  obtain ⟨a, dx, fs, ev, ea, el, p2⟩ := meth_recv r p1'
  subst ev
  obtain rfl : u = Value.ref a := rx
  refine getmeth_ok I1 ea F.cls h1 el ?_
  exact PySem.W.callWith_K0 (first := [.ref a]) I1.kIn h1.kp (callG (us := [.ref a]) (vs := [.ref a]) h4 hr hgd h3 tk I1 (.cons rfl .nil) ⟨rfl, w1, [d], s1', rel1.st, .cons r .nil, call_post p2⟩)
end
/-! ### own things made -/
def pushM (c : OC) : M D := fun s => .ok (.own s.cs.length) { s with cs := s.cs ++ [(false, c)] }
def lstOM (xs : M (List D)) : M D := xs >>= fun ds => if ds.all pureB && decide (ds.length ≤ LIM) then pushM (.lst ds) else M.stk
section
variable {X : Cx} {xc : XC} {W : WX}
theorem push_post {w : Wd} {H : Hp} {s : SS} {σ : L2.St} {Q : VK} {c : OC} {p : Addr} {o : HO} (p1 : Post X.K xc W σ w H Q (pushM c s)) (t : Sto X.K w s H) (hp : H p = none) (hc : CellAt X.K (upd H p o) p (false, c)) : Q (.ref p) (upd H p o) := by
  have sm : Same H (upd H p o) := snew hp
  have hpw : p ∉ w.ws := fun h => by obtain ⟨o, e⟩ := ws_some t h; rw [hp] at e; cases e
  have g0 : Go w H ⟨w.m, w.ρ ++ [p]⟩ (upd H p o) := ⟨fun a o e _ => sm a o e, fun a ha => by
    unfold Wd.ws at ha ⊢
    rw [← List.append_assoc] at ha
    rcases List.mem_append.mp ha with z | z
    · exact .inl z
    · simp at z; subst z; exact .inr hp, ⟨[p], rfl⟩, fun _ => rfl⟩
  refine p1 (.ref p) _ ⟨w.m, w.ρ ++ [p]⟩ g0 (sto_push (t.same sm) hpw hc) ⟨p, ?_, rfl⟩
  show (w.ρ ++ [p])[s.cs.length]? = some p
  rw [← t.len, List.getElem?_append_right (Nat.le_refl _)]; simp
theorem pd_lstO {es : List Expr} {pos : Pos} {ms : Env' → M (List D)} (h : PA X es (tA X.K xc W ms)) : PE X (.List es pos) (tE X.K xc W fun env => lstOM (ms env)) :=
  pimp (pe_lst h) fun σ H Q ⟨w, env, s, rel, p⟩ => by
    refine ⟨w, env, s, rel, (Post.bindA p).imp fun vs H1 ⟨w1, ds, s1, g, t, r, p1⟩ => ?_⟩
    rcases disp_cases (ds := ds) (a := pushM (.lst ds)) (b := M.stk) (s := s1) with ⟨h1, h2, e⟩ | e
    · rw [e] at p1
      exact ⟨by rw [r.length]; exact lim_line h2, fun q hq => push_post p1 t hq ⟨vs, upd_same, (r.pure h1).mono (sext (snew hq))⟩⟩
    · rw [e] at p1; exact p1.elim
theorem pd_dctO {pos : Pos} (t : Bool) : PE X (.Dict [] [] pos) (tE X.K xc W fun _ => pushM (.dct t [] [])) := by
  cases t with
  | false => exact pimp pe_dnewK fun σ H Q ⟨w, env, s, rel, p⟩ q hq => push_post p rel.st hq ⟨[], ⟨[], upd_same, rfl, rfl, List.nodup_nil⟩, .nil⟩
  | true => exact pimp pe_dnewT fun σ H Q ⟨w, env, s, rel, p⟩ q hq => push_post p rel.st hq ⟨[], ⟨[], upd_same, rfl, rfl, List.nodup_nil⟩, .nil⟩
end
/-! ### x.append(e) -/
def appO (x d : D) (s : SS) : Option SS := match x with
  | .own i => match s.cs[i]? with
    | some (false, .lst ds) => if pureB d && decide (ds.length < LIM) then some { s with cs := s.cs.set i (false, .lst (ds ++ [d])) } else none
    | _ => none
  | _ => none
def isOL (x : D) (s : SS) : Bool := match x with
  | .own i => match s.cs[i]? with
    | some (false, .lst _) => true
    | _ => false
  | _ => false
def appS (mo m : Env' → M D) : SM := fun env s => match mo env s with
  | .ok x s1 => if isOL x s1 then (match (m env >>= frz) s1 with
    | .ok d s2 => match appO x d s2 with
      | some s3 => .nx env s3
      | none => .stuck
    | .exc c f s' => .exc c f env s'
    | .stuck => .stuck) else .stuck
  | .exc c f s' => .exc c f env s'
  | .stuck => .stuck
section
variable {X : Cx} {xc : XC} {W : WX}
theorem isOL_at {K : PySem.W.Frag} {w : Wd} {H : Hp} {s : SS} {x : D} {v : V} (t : Sto K w s H) (r : RepT K w H v x) (h : isOL x s = true) : ∃ a vs, v = .ref a ∧ H a = some (.lst vs) := by
  cases x with
  | own i =>
    obtain ⟨a, ha, rfl⟩ := r
    unfold isOL at h
    dsimp only at h
    split at h
    · rename_i ds hc
      obtain ⟨vs, h1, h2⟩ := t.cs i a _ ha hc
      exact ⟨a, vs, rfl, h1⟩
    · cases h
  | _ => cases h
theorem app_ok {K : PySem.W.Frag} {w : Wd} {H : Hp} {s s' : SS} {x d : D} {v u : V} (t : Sto K w s H) (r : RepT K w H v x) (ru : RepT K w H u d) (h : appO x d s = some s') :
    ∃ a vs, v = .ref a ∧ H a = some (.lst vs) ∧ vs.length < sizeLine ∧ Go w H w (upd H a (.lst (vs ++ [u]))) ∧ Sto K w s' (upd H a (.lst (vs ++ [u]))) := by
  cases x with
  | own i =>
    obtain ⟨a, ha, rfl⟩ := r
    unfold appO at h
    dsimp only at h
    split at h
    · rename_i ds hc
      split at h
      · rename_i hk
        rw [Bool.and_eq_true, decide_eq_true_iff] at hk
        cases h
        obtain ⟨vs, h1, h2⟩ := t.cs i a _ ha hc
        have nf : ∀ u, H a = some u → ¬ Fz u := fun u e z => by rw [h1] at e; cases e; exact z
        have ex : Ext H (upd H a (.lst (vs ++ [u]))) := ⟨fun b u e z => by
          have ne : b ≠ a := by rintro rfl; exact nf u e z
          rw [upd_ne ne]; exact e⟩
        obtain ⟨g2, t2⟩ := sto_set (o := .lst (vs ++ [u])) (c := (false, .lst (ds ++ [d]))) t ha nf ⟨vs ++ [u], upd_same, (h2.mono ex).append (.cons ((ru.pure hk.1).mono ex) .nil)⟩
        have hl := h2.length
        exact ⟨a, vs, rfl, h1, by have : (LIM : Nat) ≤ sizeLine := by decide
                                  omega, g2, t2⟩
      · cases h
    · cases h
  | _ => cases h
theorem pds_app {o e : Expr} {apos cpos pos : Pos} {mo m : Env' → M D} (ho : PE X o (tE X.K xc W mo)) (he : PE X e (tE X.K xc W m)) (hst : starEach [e] X.env = [(false, eval e X.env)])
    (hbase : attributeBase o "append" X.env (eval o X.env) = eval o X.env)
    (hfew : ((backTo cpos (starEach [e] X.env)).all (fun x => !x.1) && (backToKw cpos (keywordEach [] X.env)).all (fun x => x.1.isSome)
      && decide ([e].length + ([] : List Keyword).length + (if ([] : List Keyword).isEmpty then 0 else 1) < 30)) = true)
    (hline : (apos.endLine == cpos.line) = true) (hsw : swapsWith (.Call (.Attribute o "append" apos) [e] [] cpos) none pos.line X.env = pure false) :
    PS X (.Expr (.Call (.Attribute o "append" apos) [e] [] cpos) pos) (tS X.K xc W (appS mo m)) :=
  psimp (ps_expr (pe_bm PySem.F.plainAttrs_list PySem.F.slot_list_append PySem.F.type_list_append mt_append ho (pa_cons (pd_frz he) pa_nil hst) hbase hfew hline hst rfl) hsw) fun E σ H ⟨w, env, s, rel, p⟩ => by
    refine ⟨w, env, s, rel, ?_⟩
    unfold appS at p
    cases q : mo env s with
    | exc c f s' => rw [q] at p; exact exc_post rel p
    | stuck => rw [q] at p; exact p
    | ok x s1 =>
      rw [q] at p
      dsimp only at p
      intro v H1 w1 g t r
      by_cases hol : isOL x s1 = true
      case neg => rw [if_neg hol] at p; exact p.elim
      rw [if_pos hol] at p
      obtain ⟨a0, vs0, ev0, hh0⟩ := isOL_at t r hol
      refine ⟨by subst ev0; exact .inl ⟨rfl, vs0, SqL.of hh0⟩, w1, env, s1, rel.go g t, ?_⟩
      show Post X.K xc W σ w1 H1 _ ((m env >>= frz) s1)
      cases q2 : (m env >>= frz) s1 with
      | exc c f s' => rw [q2] at p; exact exc_post (rel.go g t) (PostS.mono g p)
      | stuck => rw [q2] at p; exact p
      | ok d s2 =>
        rw [q2] at p
        dsimp only at p
        intro u H2 w2 g2 t2 r2
        split at p
        · rename_i s3 ha
          obtain ⟨a, vs, ev, h1, h2, g3, t3⟩ := app_ok t2 (r.mono g2) r2 ha
          exact ⟨a, vs, u, ev, rfl, h1, h2, p σ _ w2 ((g.trans g2).trans g3) ((rel.go (g.trans g2) t2).go g3 t3)⟩
        · exact p.elim
end
end PI

set_option maxHeartbeats 1000000
/-! PI, part oh: own dicts: stored into, read; dict comprehensions. -/
namespace PI
open PySem L2
def kdB : Bool → D → Bool
  | false, x => keyB x
  | true, x => tkeyB x
def putO (x key v : D) (s : SS) : Option SS := match x with
  | .own i => match s.cs[i]? with
    | some (false, .dct t ks vs) => if pureB v && decide (ks.length < LIM) && kdB t key then some { s with cs := s.cs.set i (false, .dct t (putDk ks key) (putDv ks vs key v)) } else none
    | _ => none
  | _ => none
/-- d[key] of an own dict -/
def getO (x key : D) : M D := fun s => match x with
  | .own i => match s.cs[i]? with
    | some (_, .dct t ks vs) => if kdB t key then (match valD ks vs key with
      | some d => .ok d s
      | none => .stuck) else .stuck
    | _ => .stuck
  | _ => .stuck
theorem keyB_of {x : D} (h : keyB x = true) : ∃ k, keyOf x = some k := by
  unfold keyB at h
  exact Option.isSome_iff_exists.mp h
theorem tkeyB_of {x : D} (h : tkeyB x = true) : ∃ ds ks, x = .tup ds ∧ keysOf ds = some ks := by
  cases x with
  | tup ds =>
    obtain ⟨ks, e⟩ := Option.isSome_iff_exists.mp h
    exact ⟨ds, ks, rfl, e⟩
  | _ => cases h
theorem kd_pure {t : Bool} {x : D} (h : kdB t x = true) : pureB x = true := by
  cases x <;> first | rfl | (cases t <;> cases h)
section
variable {K : PySem.W.Frag}
theorem put_ok {w : Wd} {H : Hp} {s s' : SS} {x key d : D} {vx vk u : V} (t : Sto K w s H) (rx : RepT K w H vx x) (rk : RepT K w H vk key) (ru : RepT K w H u d) (h : putO x key d s = some s') :
    ∃ a H', vx = .ref a ∧ DPut H a vk u H' ∧ Go w H w H' ∧ Sto K w s' H' := by
  cases x with
  | own i =>
    obtain ⟨a, ha, rfl⟩ := rx
    unfold putO at h
    dsimp only at h
    split at h
    · rename_i tt ks vs hc
      split at h
      · rename_i hk
        rw [Bool.and_eq_true, Bool.and_eq_true, decide_eq_true_iff] at hk
        obtain ⟨⟨k1, k2⟩, k3⟩ := hk
        cases h
        obtain ⟨us, h1, h2⟩ := t.cs i a _ ha hc
        have rk := rk.pure (kd_pure k3)
        have ru := ru.pure k1
        have hlim : (LIM : Nat) ≤ sizeLine := by decide
        cases tt with
        | false =>
          obtain ⟨kvs, hd, e1, e2, e3⟩ := h1
          have hd : H a = some (.dK kvs) := hd
          obtain ⟨k, ek⟩ := keyB_of k3
          have ev := rep_key rk.rd ek
          have ekd := keyD_of ek
          subst ekd ev
          have nf : ∀ u, H a = some u → ¬ Fz u := fun u e z => by rw [hd] at e; cases e; exact z
          have ex : Ext H (upd H a (.dK (putK kvs k u))) := ⟨fun b u e z => by
            have ne : b ≠ a := by rintro rfl; exact nf u e z
            rw [upd_ne ne]; exact e⟩
          have dr : DRel K (upd H a (.dK (putK kvs k u))) keyD kvs ks vs := ⟨e1, by rw [← e2]; exact h2.mono ex⟩
          have dp := dr.put (k := k) (v := u) (d := d) eq_keyD (ru.mono ex) e3
          obtain ⟨g2, t2⟩ := sto_set (o := .dK (putK kvs k u)) (c := (false, .dct false (putDk ks (keyD k)) (putDv ks vs (keyD k) d))) t ha nf ⟨_, ⟨putK kvs k u, upd_same, dp.k, rfl, putK_nodup e3⟩, dp.v⟩
          refine ⟨a, _, rfl, .inl ⟨kvs, k, hd, rfl, ?_, rfl⟩, g2, t2⟩
          have : ks.length = kvs.length := by rw [e1, List.length_map]
          omega
        | true =>
          obtain ⟨kvs, hd, e1, e2, e3⟩ := h1
          have hd : H a = some (.dT kvs) := hd
          obtain ⟨ds, k, rfl, ek⟩ := tkeyB_of k3
          obtain ⟨b, rfl, hb⟩ := rep_tkey rk.rd ek
          have ekd := keysD_of ek
          subst ekd
          have nf : ∀ u, H a = some u → ¬ Fz u := fun u e z => by rw [hd] at e; cases e; exact z
          have ex : Ext H (upd H a (.dT (putK kvs k u))) := ⟨fun b u e z => by
            have ne : b ≠ a := by rintro rfl; exact nf u e z
            rw [upd_ne ne]; exact e⟩
          have eqt : ∀ x y : List Key, eqB (D.tup (x.map keyD)) (D.tup (y.map keyD)) = decide (x = y) := fun x y => by rw [← eq_keysD]; simp only [eqB]
          have dr : DRel K (upd H a (.dT (putK kvs k u))) (fun z : List Key => D.tup (z.map keyD)) kvs ks vs := ⟨e1, by rw [← e2]; exact h2.mono ex⟩
          have dp := dr.put (k := k) (v := u) (d := d) eqt (ru.mono ex) e3
          obtain ⟨g2, t2⟩ := sto_set (o := .dT (putK kvs k u)) (c := (false, .dct true (putDk ks (.tup (k.map keyD))) (putDv ks vs (.tup (k.map keyD)) d))) t ha nf ⟨_, ⟨putK kvs k u, upd_same, dp.k, rfl, putK_nodup e3⟩, dp.v⟩
          refine ⟨a, _, rfl, .inr ⟨kvs, k, b, hd, rfl, hb, ?_, rfl⟩, g2, t2⟩
          have : ks.length = kvs.length := by rw [e1, List.length_map]
          omega
      · cases h
    · cases h
  | _ => cases h
theorem get_ok {w : Wd} {H : Hp} {s : SS} {x key : D} {vx vk : V} {d : D} {s' : SS} (t : Sto K w s H) (rx : RepT K w H vx x) (rk : RepT K w H vk key) (h : getO x key s = .ok d s') :
    s' = s ∧ ∃ a v, vx = .ref a ∧ DGet H a vk (some v) ∧ Rep K H v d := by
  cases x with
  | own i =>
    obtain ⟨a, ha, rfl⟩ := rx
    unfold getO at h
    dsimp only at h
    split at h
    · rename_i fz tt ks vs hc
      split at h
      · rename_i k3
        have hcell : ∃ us, DctC H a fz ks us tt ∧ Reps K H us vs := by
          have z := t.cs i a _ ha hc
          cases fz <;> exact z
        obtain ⟨us, h1, h2⟩ := hcell
        have rk := rk.pure (kd_pure k3)
        split at h
        · rename_i d' hv
          cases h
          refine ⟨rfl, a, ?_⟩
          cases tt with
          | false =>
            obtain ⟨kvs, hd, e1, e2, e3⟩ := h1
            obtain ⟨k, ek⟩ := keyB_of k3
            have ev := rep_key rk.rd ek
            have ekd := keyD_of ek
            subst ekd ev e1 e2
            have z := val_k (K := K) (H := H) k h2
            rw [hv] at z
            obtain ⟨v, hq, rv⟩ := z
            exact ⟨v, rfl, .inl ⟨kvs, k, hd.rd, rfl, hq.symm⟩, rv⟩
          | true =>
            obtain ⟨kvs, hd, e1, e2, e3⟩ := h1
            obtain ⟨ds, k, rfl, ek⟩ := tkeyB_of k3
            obtain ⟨b, rfl, hb⟩ := rep_tkey rk.rd ek
            have ekd := keysD_of ek
            subst ekd e1 e2
            have z := val_t (K := K) (H := H) k h2
            rw [hv] at z
            obtain ⟨v, hq, rv⟩ := z
            exact ⟨v, rfl, .inr ⟨kvs, k, b, hd.rd, rfl, hb, hq.symm⟩, rv⟩
        · cases h
      · cases h
    · cases h
  | _ => cases h
end
section
variable {X : Cx} {xc : XC} {W : WX}
theorem pd_oget {o i : Expr} {pos : Pos} {mo mk : Env' → M D} (hu : X.A.units + 1 < cLine) (ho : PE X o (tE X.K xc W mo)) (hk : PE X i (tE X.K xc W mk)) (hs : NoSl i) : PE X (.Subscript o i pos) (tE X.K xc W fun env => mo env >>= fun x => mk env >>= fun y => getO x y) :=
  pimp (pe_dget hu ho hk hs) fun σ H Q ⟨w, env, s, rel, p⟩ => by
    refine (tE_of rel p).imp2 fun v H1 ⟨w1, d, s1, g, rel1, r, p1⟩ => ?_
    refine (tE_of rel1 p1).imp2 fun v2 H2 ⟨w2, d2, s2, g2, rel2, r2, p2⟩ => ?_
    cases e : getO d d2 s2 with
    | stuck => rw [e] at p2; exact p2.elim
    | exc c f s' =>
      exfalso
      unfold getO at e
      split at e
      · split at e
        · split at e
          · split at e <;> cases e
          · cases e
        · cases e
      · cases e
    | ok z s' =>
      rw [e] at p2
      obtain ⟨es, a, u, ev, hg, ru⟩ := get_ok rel2.st (r.mono g2) r2 e
      subst es
      exact ⟨a, u, ev, hg, p2 u H2 w2 (Go.refl _ _) rel2.st (.of ru)⟩
/-- d[k] = v: v first, then d, then k -/
def dputS (mo mk mv : Env' → M D) : SM := fun env s => match (mv env >>= frz) s with
  | .ok d s1 => match mo env s1 with
    | .ok x s2 => match mk env s2 with
      | .ok key s3 => match putO x key d s3 with
        | some s4 => .nx env s4
        | none => .stuck
      | .exc c f s' => .exc c f env s'
      | .stuck => .stuck
    | .exc c f s' => .exc c f env s'
    | .stuck => .stuck
  | .exc c f s' => .exc c f env s'
  | .stuck => .stuck
theorem pds_dput {o i value : Expr} {pos pos' : Pos} {mo mk mv : Env' → M D} (hu : X.A.units + 1 < cLine) (ho : PE X o (tE X.K xc W mo)) (hk : PE X i (tE X.K xc W mk)) (hv : PE X value (tE X.K xc W mv)) (hs : swapsWith value (some (.Subscript o i pos')) pos.line X.env = pure false) :
    PS X (.Assign [.Subscript o i pos'] value pos) (tS X.K xc W (dputS mo mk mv)) :=
  psimp (ps_dput hu ho hk (pd_frz hv) hs) fun E σ H ⟨w, env, s, rel, p⟩ => by
    refine ⟨w, env, s, rel, ?_⟩
    unfold dputS at p
    show Post X.K xc W σ w H _ ((mv env >>= frz) s)
    cases q : (mv env >>= frz) s with
    | exc c f s' => rw [q] at p; exact exc_post rel p
    | stuck => rw [q] at p; exact p
    | ok d s1 =>
      rw [q] at p
      dsimp only at p
      intro u H1 w1 g1 t1 r1
      have rel1 := rel.go g1 t1
      refine ⟨w1, env, s1, rel1, ?_⟩
      have p := PostS.mono g1 p
      cases q2 : mo env s1 with
      | exc c f s' => rw [q2] at p; exact exc_post rel1 p
      | stuck => rw [q2] at p; exact p
      | ok x s2 =>
        rw [q2] at p
        dsimp only at p
        intro vx H2 w2 g2 t2 r2
        have rel2 := rel1.go g2 t2
        refine ⟨w2, env, s2, rel2, ?_⟩
        have p := PostS.mono g2 p
        cases q3 : mk env s2 with
        | exc c f s' => rw [q3] at p; exact exc_post rel2 p
        | stuck => rw [q3] at p; exact p
        | ok key s3 =>
          rw [q3] at p
          dsimp only at p
          intro vk H3 w3 g3 t3 r3
          have rel3 := rel2.go g3 t3
          split at p
          · rename_i s4 hp
            obtain ⟨a, H4, ev, hput, g4, t4⟩ := put_ok t3 (r2.mono g3) r3 ((r1.mono g2).mono g3) hp
            exact ⟨a, H4, ev, hput, p σ H4 w3 (g3.trans g4) (rel3.go g4 t4)⟩
          · exact p.elim
/-- d[k], x = a, b -/
def dputpS (mo mk : Env' → M D) (j : Nat) (ms : Env' → M (List D)) : SM := fun env s => match ms env s with
  | .ok [d, b] s1 => match mo env s1 with
    | .ok x s2 => match mk env s2 with
      | .ok key s3 => match putO x key d s3 with
        | some s4 => if j < env.length && pureB d && pureB b then .nx (env.set j (some b)) s4 else .stuck
        | none => .stuck
      | _ => .stuck
    | _ => .stuck
  | .ok _ _ => .stuck
  | .exc c f s' => .exc c f env s'
  | .stuck => .stuck
theorem set_dict (hu : X.A.units + 1 < cLine) : PSet X (fun o i v H Q => ∃ a H', o = .ref a ∧ DPut H a i v H' ∧ Q H') := by
  intro pins s σ H x y v ov iv u Q I r1 r2 r3 ⟨a, H', e, hp, q⟩
  subst e
  obtain rfl : ov = Value.ref a := r1
  exact d_setItem hu I hp r2 r3 fun s4 I4 => ⟨H', I4, q⟩
theorem pds_dputp {o i a b : Expr} {x : Str} {j : Nat} {pos p1 p2 p3 p4 : Pos} {kt k2 : Nat} {mo mk : Env' → M D} {ms : Env' → M (List D)} (hcalm : X.calm = true) (hN : X.N.Nodup) (hj : X.N[j]? = some x) (hx : Loc X.env.scope x) (hf : X.fn x = true ∨ X.env.scope.names.lookup x = some .local) (hu : X.A.units + 1 < cLine) (ho : PE X o (tE X.K xc W mo)) (hk : PE X i (tE X.K xc W mk)) (ha : PA X [a, b] (tA X.K xc W ms))
    (hs : swapsWithSole [.Tuple [.Subscript o i p1, .Name x p2] kt p3] (.Tuple [a, b] k2 p4) pos.line X.env = pure false) (hw : swappedStores [.Tuple [.Subscript o i p1, .Name x p2] kt p3] (.Tuple [a, b] k2 p4) X.env = pure none)
    (h1 : (assignEach [.Tuple [.Subscript o i p1, .Name x p2] kt p3] X.env).map (·.2) = [assign (.Tuple [.Subscript o i p1, .Name x p2] kt p3) X.env])
    (h2 : (assignEach [.Subscript o i p1, .Name x p2] X.env).map (·.2) = assign (.Subscript o i p1) X.env :: (assignEach [.Name x p2] X.env).map (·.2))
    (h3 : (assignEach [.Name x p2] X.env).map (·.2) = assign (.Name x p2) X.env :: (assignEach [] X.env).map (·.2))
    (h4 : (assignEach [.Subscript o i p1, .Name x p2] X.env).length = 2) (h5 : (assignEach [.Subscript o i p1, .Name x p2] X.env).findIdx? (·.1) = none)
    (h6 : ∀ v, assign (.Subscript o i p1) X.env v = (do
      let ov ← holding [v] (eval o X.env)
      let iv ← holding [v, ov] (eval i X.env)
      standAt p1
      holding [v, ov, iv] (setItem ov iv v)
      release [v, ov, iv] [])) :
    PS X (.Assign [.Tuple [.Subscript o i p1, .Name x p2] kt p3] (.Tuple [a, b] k2 p4) pos) (tS X.K xc W (dputpS mo mk j ms)) :=
  psimp (ps_asg (pe_tup ha) (pg_tup hcalm (pgs_cons (pg_sub ho hk (set_dict hu) h6) (pgs_cons (pg_name hN hj hx hf) pgs_nil h3) h2) h4 h5) hs hw h1) fun E σ H ⟨w, env, s, rel, p⟩ => by
    refine ⟨w, env, s, rel, ?_⟩
    unfold dputpS at p
    cases q : ms env s with
    | exc c f s' => rw [q] at p; exact exc_post rel p
    | stuck => rw [q] at p; exact p
    | ok ds s1 =>
      rw [q] at p
      intro vs H1 w1 g1 t1 r1
      have rel1 := rel.go g1 t1
      match ds, r1, p with
      | [d, b'], .cons rd (.cons rb .nil), p =>
        dsimp only at p
        rename_i vd vb
        refine ⟨by show 2 ≤ sizeLine; decide, fun tq htq => ?_⟩
        have sm : Same H1 (upd H1 tq (.tup [vd, vb])) := snew htq
        have g2 : Go w1 H1 w1 (upd H1 tq (.tup [vd, vb])) := sgo sm
        have t2 := t1.same sm
        have rel2 := rel1.go g2 t2
        have p := PostS.mono (g1.trans g2) p
        refine ⟨tq, [vd, vb], rfl, SqT.of upd_same, rfl, vd, [vb], rfl, w1, env, s1, rel2, ?_⟩
        cases q2 : mo env s1 with
        | exc c f s' => rw [q2] at p; exact p.elim
        | stuck => rw [q2] at p; exact p
        | ok x s2 =>
          rw [q2] at p
          dsimp only at p
          intro vx H2 w2 g3 t3 r3
          have rel3 := rel2.go g3 t3
          refine ⟨w2, env, s2, rel3, ?_⟩
          have p := PostS.mono g3 p
          cases q3 : mk env s2 with
          | exc c f s' => rw [q3] at p; exact p.elim
          | stuck => rw [q3] at p; exact p
          | ok key s3 =>
            rw [q3] at p
            dsimp only at p
            intro vk H3 w3 g4 t4 r4
            have rel4 := rel3.go g4 t4
            split at p
            · rename_i s4 hp
              split at p
              · rename_i hh
                obtain ⟨a, H4, ev, hput, g5, t5⟩ := put_ok t4 (r3.mono g4) r4 (((rd.mono g2).mono g3).mono g4) hp
                refine ⟨a, H4, ev, hput, vb, [], rfl, rfl, ?_⟩
                have rel5 := rel4.go g5 t5
                exact p _ H4 w3 (g4.trans g5) (rel5.set ((((rb.mono g2).mono g3).mono g4).mono g5))
              · exact p.elim
            · exact p.elim
      | [], _, p => exact p.elim
      | [_], _, p => exact p.elim
      | _ :: _ :: _ :: _, _, p => exact p.elim
/-- a, b = x, y: the pair is made, then taken apart -/
def parTS (ts : List T) (ms : Env' → M (List D)) : SM := fun env s => match ms env s with
  | .ok ds s' => match asgTs ts ds env with
    | some env' => if decide (ds.length ≤ LIM) then .nx env' s' else .stuck
    | none => .stuck
  | .exc c f s' => .exc c f env s'
  | .stuck => .stuck
theorem pds_parT {es vs : List Expr} {pos p3 p4 : Pos} {kt k2 : Nat} {ts : List T} {ms : Env' → M (List D)} (hcalm : X.calm = true) (hg : PGs X es (tGs X.K ts)) (ha : PA X vs (tA X.K xc W ms)) (hn : (assignEach es X.env).length = ts.length) (hst : (assignEach es X.env).findIdx? (·.1) = none)
    (hs : swapsWithSole [.Tuple es kt p3] (.Tuple vs k2 p4) pos.line X.env = pure false) (hw : swappedStores [.Tuple es kt p3] (.Tuple vs k2 p4) X.env = pure none)
    (h1 : (assignEach [.Tuple es kt p3] X.env).map (·.2) = [assign (.Tuple es kt p3) X.env]) :
    PS X (.Assign [.Tuple es kt p3] (.Tuple vs k2 p4) pos) (tS X.K xc W (parTS ts ms)) :=
  psimp (ps_asg (pe_tup ha) (pg_tup hcalm hg hn hst) hs hw h1) fun E σ H ⟨w, env, s, rel, p⟩ => by
    refine ⟨w, env, s, rel, ?_⟩
    unfold parTS at p
    cases q : ms env s with
    | exc c f s' => rw [q] at p; exact exc_post rel p
    | stuck => rw [q] at p; exact p
    | ok ds s1 =>
      rw [q] at p
      dsimp only at p
      intro us H1 w1 g1 t1 r1
      have rel1 := rel.go g1 t1
      split at p
      · rename_i env' he
        split at p
        · rename_i hl
          refine ⟨by rw [r1.length]; exact lim_line (of_decide_eq_true hl), fun tq htq => ?_⟩
          have sm : Same H1 (upd H1 tq (.tup us)) := snew htq
          have g2 : Go w1 H1 w1 (upd H1 tq (.tup us)) := sgo sm
          have t2 := t1.same sm
          have rel2 := rel1.go g2 t2
          refine ⟨tq, us, rfl, SqT.of upd_same, by rw [r1.length, asgTs_len he], w1, env, s1, ds, env', rel2, r1.mono g2, he, fun σ' rel' _ => ?_⟩
          exact p σ' _ w1 (g1.trans g2) rel'
        · exact p.elim
      · exact p.elim
end
end PI

set_option maxHeartbeats 1000000
/-! PI, part oi: dict comprehensions with simple keys. -/
namespace PI
open PySem L2
/-- one turn: the target, the test, key and value -/
def turnDM (t : T) (tst kk vv : Env' → M D) (env : Env') (d : D) : M (Option (D × D)) := match asgT t d env with
  | none => M.stk
  | some env' => iteM (tst env') ((kk env' >>= frz) >>= fun k => (vv env' >>= frz) >>= fun v => if pureB v && keyB k then M.ret (some (k, v)) else M.stk) (M.ret none)
def dcL (f : D → M (Option (D × D))) : List D → List D → List D → M (List D × List D)
  | [], ks, vs => M.ret (ks, vs)
  | d :: ds, ks, vs => f d >>= fun o => match o with
    | some (k, v) => if ks.length < LIM then dcL f ds (putDk ks k) (putDv ks vs k v) else M.stk
    | none => dcL f ds ks vs
def dcM (own : List Nat) (t : T) (it : M (List D)) (tst kk vv : Env' → M D) (env : Env') : M D :=
  it >>= fun ds => M.calm (dcL (turnDM t tst kk vv (wipeE env own)) ds [] []) >>= fun r => M.ret (.dct r.1 r.2)
section
variable {xc : XC}
theorem turnD_read {K : PySem.W.Frag} {σ : L2.St} {vs : List Nat} {t : T} {tst kk vv : Env' → M D} {w : Wd} {env : Env'} {s : SS} {H : Hp} {x : V} {d : D} {QY : V → V → Hp → Prop} {QN : Hp → Prop}
    (hsub : ∀ j ∈ slotsT t, j ∈ vs) (rel : Rel K w env s (wipe σ vs) H) (rx : Rep K H x d)
    (p : match turnDM t tst kk vv env d s with
      | .ok (some (k, y)) s' => keyB k = true ∧ ∀ u v H' w', Go w H w' H' → Sto K w' s' H' → Rep K H' u k → Rep K H' v y → QY u v H'
      | .ok none s' => ∀ H' w', Go w H w' H' → Sto K w' s' H' → QN H'
      | _ => False) :
    tG K t x (wipe σ vs) H fun σ2 H2 => wipe σ2 vs = wipe σ vs ∧ tTst K xc (fun _ _ _ _ => False) tst σ2 H2 fun b H3 =>
      if b = true then tE K xc (fun _ _ _ _ => False) (fun env => kk env >>= frz) σ2 H3 fun y H4 => tE K xc (fun _ _ _ _ => False) (fun env => vv env >>= frz) σ2 H4 fun z H5 => QY y z H5
      else QN H3 := by
  unfold turnDM at p
  cases e : asgT t d env with
  | none => simp only [e] at p; exact p.elim
  | some env' =>
    simp only [e] at p
    refine ⟨w, env, s, d, env', rel, .of rx, e, fun σ2 rel2 f => ⟨?_, ?_⟩⟩
    · rw [wipe_frm (f.mono hsub), wipe_wipe]
    · refine ⟨w, env', s, rel2, ?_⟩
      unfold iteM at p
      rw [M_bind] at p
      unfold M.bnd at p
      cases q : tst env' s with
      | ok b s1 =>
        rw [q] at p
        intro v H3 w3 g3 t3 r3
        cases b with
        | bl b =>
          refine ⟨b, bl_of r3, ?_⟩
          cases b with
          | true =>
            dsimp only at p
            rw [if_pos rfl]
            have rel3 := rel2.go g3 t3
            refine ⟨w3, env', s1, rel3, ?_⟩
            show Post K xc (fun _ _ _ _ => False) σ2 w3 H3 _ ((kk env' >>= frz) s1)
            rw [M_bind (kk env' >>= frz)] at p
            unfold M.bnd at p
            cases q2 : (kk env' >>= frz) s1 with
            | ok k s2 =>
              rw [q2] at p
              dsimp only at p
              intro u H4 w4 g4 t4 r4
              have rel4 := rel3.go g4 t4
              refine ⟨w4, env', s2, rel4, ?_⟩
              show Post K xc (fun _ _ _ _ => False) σ2 w4 H4 _ ((vv env' >>= frz) s2)
              rw [M_bind (vv env' >>= frz)] at p
              unfold M.bnd at p
              cases q3 : (vv env' >>= frz) s2 with
              | ok z s3 =>
                rw [q3] at p
                dsimp only at p
                by_cases hz : (pureB z && keyB k) = true
                · rw [if_pos hz] at p
                  rw [Bool.and_eq_true] at hz
                  intro v5 H5 w5 g5 t5 r5
                  have hkp : pureB k = true := kd_pure (t := false) hz.2
                  exact p.2 u v5 H5 w5 ((g3.trans g4).trans g5) t5 ((r4.mono g5).pure hkp) (r5.pure hz.1)
                · rw [if_neg hz] at p; exact p.elim
              | exc _ _ _ => rw [q3] at p; exact p.elim
              | stuck => rw [q3] at p; exact p.elim
            | exc _ _ _ => rw [q2] at p; exact p.elim
            | stuck => rw [q2] at p; exact p.elim
          | false =>
            dsimp only at p
            rw [if_neg Bool.false_ne_true]
            exact p H3 w3 g3 t3
        | _ => exact p.elim
      | exc _ _ _ => rw [q] at p; exact p.elim
      | stuck => rw [q] at p; exact p.elim
/-- the state between two turns: the dict at l -/
structure CD (K : PySem.W.Frag) (w0 : Wd) (H0 : Hp) (l : Addr) (w : Wd) (s : SS) (ks vs : List D) (kvs : List (Key × V)) (H : Hp) : Prop where
  go : Go w0 H0 w H
  st : Sto K w s H
  out : l ∉ w.ws
  at_ : H l = some (.dK kvs)
  nd : (kvs.map (·.1)).Nodup
  dr : DRel K H keyD kvs ks vs
theorem DRel.mono {κ : Type} {K : PySem.W.Frag} {H H' : Hp} {f : κ → D} {kvs : List (κ × V)} {ks vs : List D} (x : PI.Ext H H') (d : DRel K H f kvs ks vs) : DRel K H' f kvs ks vs := ⟨d.k, d.v.mono x⟩
theorem CD.next {K : PySem.W.Frag} {w0 w w4 : Wd} {H0 H H4 : Hp} {l : Addr} {s s4 : SS} {ks vs : List D} {kvs : List (Key × V)} (c : CD K w0 H0 l w s ks vs kvs H) (g : Go w H w4 H4) (t : Sto K w4 s4 H4) : CD K w0 H0 l w4 s4 ks vs kvs H4 :=
  ⟨c.go.trans g, t, g.out c.at_ c.out, g.kp _ _ c.at_ (.inl c.out), c.nd, c.dr.mono g.ext⟩
theorem CD.ext {K : PySem.W.Frag} {w0 w : Wd} {H0 H : Hp} {l : Addr} {s : SS} {ks vs : List D} {kvs : List (Key × V)} (c : CD K w0 H0 l w s ks vs kvs H) (o : HO) : Ext H (upd H l o) ∧ Sto K w s (upd H l o) :=
  sto_out (o := o) c.st c.out fun u e f => by rw [c.at_] at e; cases e; exact f
theorem CD.put {K : PySem.W.Frag} {w0 w : Wd} {H0 H : Hp} {l : Addr} {s : SS} {ks vs : List D} {kvs : List (Key × V)} {k : Key} {v : V} {y : D} (c : CD K w0 H0 l w s ks vs kvs H) (hl : H0 l = none) (r : Rep K H v y) :
    CD K w0 H0 l w s (putDk ks (keyD k)) (putDv ks vs (keyD k) y) (putK kvs k v) (upd H l (.dK (putK kvs k v))) := by
  obtain ⟨x5, t5⟩ := c.ext (.dK (putK kvs k v))
  exact ⟨go_out c.go hl, t5, c.out, upd_same, putK_nodup c.nd, (c.dr.mono x5).put (k := k) (v := v) (d := y) eq_keyD (r.mono x5) c.nd⟩
theorem CD.start {K : PySem.W.Frag} {w : Wd} {s : SS} {H : Hp} {l : Addr} (t : Sto K w s H) (hl : H l = none) : CD K w H l w s [] [] [] (upd H l (.dK [])) :=
  ⟨go_out (Go.refl _ _) hl, t.same (snew hl), (fun h => by
    obtain ⟨o, e⟩ := ws_some t h
    rw [hl] at e
    cases e), upd_same, List.nodup_nil, ⟨rfl, .nil⟩⟩
theorem CD.done {K : PySem.W.Frag} {w0 w : Wd} {H0 H : Hp} {l : Addr} {s : SS} {ks vs : List D} {kvs : List (Key × V)} {Q : VK} (c : CD K w0 H0 l w s ks vs kvs H) (hl : H0 l = none) (q : ∀ v H' w', Go w0 H0 w' H' → Sto K w' s H' → RepT K w' H' v (.dct ks vs) → Q v H') : FrD Q (.ref l) H := by
  refine ⟨l, .dK kvs, rfl, c.at_, trivial, fun o => ?_⟩
  obtain ⟨x1, st1⟩ := c.ext (.frz o (.dK kvs))
  exact q _ _ w (go_out c.go hl) st1 (.of (.dct (.inl ⟨o, kvs, upd_same, c.dr.k, rfl⟩) (c.dr.v.mono x1)))
def RestD (f : D → M (Option (D × D))) (Fin : List D → List D → SS → Prop) (ds : List D) (i : Nat) (ks vs : List D) (s : SS) : Prop :=
  match dcL f (ds.drop i) ks vs s with
  | .ok r s' => Fin r.1 r.2 s'
  | _ => False
theorem restD_step {f : D → M (Option (D × D))} {Fin : List D → List D → SS → Prop} {ds : List D} {i : Nat} {d : D} {ks vs : List D} {s : SS} (e : ds[i]? = some d) (h : RestD f Fin ds i ks vs s) :
    match f d s with
      | .ok (some (k, y)) s' => ks.length < LIM ∧ RestD f Fin ds (i + 1) (putDk ks k) (putDv ks vs k y) s'
      | .ok none s' => RestD f Fin ds (i + 1) ks vs s'
      | _ => False := by
  obtain ⟨hlt, e1⟩ := List.getElem?_eq_some_iff.mp e
  unfold RestD at h
  rw [List.drop_eq_getElem_cons hlt, e1] at h
  unfold dcL at h
  rw [M_bind] at h
  unfold M.bnd at h
  cases q : f d s with
  | ok o s2 =>
    rw [q] at h
    dsimp only at h
    cases o with
    | some p =>
      obtain ⟨k, y⟩ := p
      dsimp only at h ⊢
      by_cases hk : ks.length < LIM
      · rw [if_pos hk] at h; exact ⟨hk, h⟩
      · rw [if_neg hk] at h; exact h.elim
    | none => exact h
  | exc _ _ _ => rw [q] at h; exact h.elim
  | stuck => rw [q] at h; exact h.elim
variable {X : Cx} {W : WX}
theorem dc_post {K : PySem.W.Frag} {σ : L2.St} {w : Wd} {env : Env'} {s : SS} {H : Hp} {Q : VK} {ds : List D} {own : List Nat} {t : T} {tst kk vv : Env' → M D} {l : Addr} {J : It} (jo0 : ItOk K J H ds) (hsub : ∀ j ∈ slotsT t, j ∈ own) (rel0 : Rel K w env s σ H) (hl : H l = none)
    (hkey : ∀ env' d s k y s', turnDM t tst kk vv env' d s = .ok (some (k, y)) s' → keyB k = true)
    (p : Post K xc W σ w H Q ((M.calm (dcL (turnDM t tst kk vv (wipeE env own)) ds [] []) >>= fun r => M.ret (.dct r.1 r.2)) s)) :
    ∃ W : Nat → Nat → Hp → Prop, (∃ m, W 0 m (upd H l (.dK []))) ∧ ∀ i m H, W i m H → (J.stop i H ∧ FrD Q (.ref l) H) ∨
      (J.go i H ∧ ∃ Nx : Hp → Prop, (∀ H', Nx H' → ∃ m', m' < m ∧ W (i + 1) m' H') ∧ ∀ x H', J.yld i H x H' → tG K t x (wipe σ own) H' fun σ2 H2 => wipe σ2 own = wipe σ own ∧ tTst K xc (fun _ _ _ _ => False) tst σ2 H2 fun b H3 =>
        if b = true then tE K xc (fun _ _ _ _ => False) (fun env => kk env >>= frz) σ2 H3 fun y H4 => tE K xc (fun _ _ _ _ => False) (fun env => vv env >>= frz) σ2 H4 fun z H5 => ∃ kvs k, y = kV k ∧ H5 l = some (.dK kvs) ∧ kvs.length < sizeLine ∧ Nx (upd H5 l (.dK (putK kvs k z))) else Nx H3) := by
  have sm : Same H (upd H l (.dK [])) := snew hl
  let Fin : List D → List D → SS → Prop := fun ks vs s' => ∀ v H' w', Go w H w' H' → Sto K w' s' H' → RepT K w' H' v (.dct ks vs) → Q v H'
  let f := turnDM t tst kk vv (wipeE env own)
  let H1 := upd H l (.dK [])
  have jo : ItOk K J H1 ds := it_ext jo0 (sext sm)
  have rel : Rel K w env s σ H1 := rel0.go (sgo sm) (rel0.st.same sm)
  have h0 : RestD f Fin ds 0 [] [] s := by
    unfold RestD
    rw [List.drop_zero]
    rw [M_bind] at p
    unfold M.bnd M.calm at p
    cases q2 : dcL f ds [] [] s with
    | ok r s2 => have q2' : dcL (turnDM t tst kk vv (wipeE env own)) ds [] [] s = .ok r s2 := q2; rw [q2'] at p; exact p
    | exc _ _ _ => have q2' : dcL (turnDM t tst kk vv (wipeE env own)) ds [] [] s = .exc _ _ _ := q2; rw [q2'] at p; exact p.elim
    | stuck => have q2' : dcL (turnDM t tst kk vv (wipeE env own)) ds [] [] s = .stuck := q2; rw [q2'] at p; exact p.elim
  let Iv : Nat → Hp → Prop := fun i H2 => ∃ w2 s2 ks vs kvs, CD K w H l w2 s2 ks vs kvs H2 ∧ Gx w H1 w2 H2 ∧ RestD f Fin ds i ks vs s2
  refine ⟨fun i m H2 => m = ds.length - i ∧ i ≤ ds.length ∧ Iv i H2, ⟨ds.length, by simp, Nat.zero_le _, w, s, [], [], [], CD.start rel0.st hl, (Go.refl _ _).gx, h0⟩, ?_⟩
  rintro i m H2 ⟨rfl, hi, w2, s2, ks, vs, kvs, c, gg, rest⟩
  have xH : Ext H1 H2 := gg.ext
  by_cases hlt : i < ds.length
  · refine .inr ⟨jo.go i H2 xH hlt, Iv (i + 1), fun H' v => ⟨ds.length - (i + 1), by omega, rfl, hlt, v⟩, fun x H' y => ?_⟩
    have ed : ds[i]? = some ds[i] := List.getElem?_eq_getElem hlt
    obtain ⟨sm', rx⟩ := jo.yld i _ H2 x H' xH ed y
    have st' := c.st.same sm'
    have g' : Gx w H1 w2 H' := gg.trans (sgo sm').gx
    have c' := c.next (sgo sm') st'
    have rel' : Rel K w2 (wipeE env own) s2 (wipe σ own) H' := (rel.wipe own).goX g' st'
    refine turnD_read (xc := xc) (QY := fun u v H5 => ∃ kvs k, u = kV k ∧ H5 l = some (.dK kvs) ∧ kvs.length < sizeLine ∧ Iv (i + 1) (upd H5 l (.dK (putK kvs k v)))) (QN := fun H3 => Iv (i + 1) H3) hsub rel' rx ?_
    have st2 := restD_step ed rest
    show match f ds[i] s2 with | .ok (some (k, y)) s' => _ | .ok none s' => _ | _ => _
    cases q : f ds[i] s2 with
    | ok o s3 =>
      rw [q] at st2
      cases o with
      | some pr =>
        obtain ⟨k, y⟩ := pr
        obtain ⟨hlen, rest2⟩ := st2
        have hkk : keyB k = true := hkey _ _ _ _ _ _ q
        refine ⟨hkk, fun u v H5 w5 g5 t5 ru rv => ?_⟩
        have c5 := c'.next g5 t5
        obtain ⟨kk', ek⟩ := keyB_of hkk
        have eu := rep_key ru.rd ek
        have ekd := keyD_of ek
        subst ekd
        refine ⟨kvs, kk', eu, c5.at_, ?_, w5, s3, _, _, _, c5.put hl rv, ?_, rest2⟩
        · have : (LIM : Nat) ≤ sizeLine := by decide
          have e3 : ks.length = kvs.length := by rw [c.dr.k, List.length_map]
          omega
        · exact (g'.trans g5.gx).trans ⟨(c5.ext (.dK (putK kvs kk' v))).1, ⟨[], by simp⟩, fun _ => rfl⟩
      | none =>
        intro H4 w4 g4 t4
        exact ⟨w4, s3, ks, vs, kvs, c'.next g4 t4, g'.trans g4.gx, st2⟩
    | exc _ _ _ => rw [q] at st2; exact st2.elim
    | stuck => rw [q] at st2; exact st2.elim
  · have e : i = ds.length := by omega
    subst e
    refine .inl ⟨jo.stop _ H2 xH (Nat.le_refl _), c.done hl ?_⟩
    unfold RestD at rest
    rw [List.drop_length] at rest
    exact rest
theorem turnD_key {t : T} {tst kk vv : Env' → M D} {env' : Env'} {d : D} {s : SS} {k y : D} {s' : SS} (h : turnDM t tst kk vv env' d s = .ok (some (k, y)) s') : keyB k = true := by
  unfold turnDM at h
  cases e : asgT t d env' with
  | none => rw [e] at h; cases h
  | some env2 =>
    rw [e] at h
    dsimp only at h
    unfold iteM at h
    rw [M_bind] at h
    unfold M.bnd at h
    cases q : tst env2 s with
    | ok b s1 =>
      rw [q] at h
      dsimp only at h
      cases b with
      | bl b =>
        cases b with
        | true =>
          dsimp only at h
          rw [M_bind (kk env2 >>= frz)] at h
          unfold M.bnd at h
          cases q2 : (kk env2 >>= frz) s1 with
          | ok k2 s2 =>
            rw [q2] at h
            dsimp only at h
            rw [M_bind (vv env2 >>= frz)] at h
            unfold M.bnd at h
            cases q3 : (vv env2 >>= frz) s2 with
            | ok z s3 =>
              rw [q3] at h
              dsimp only at h
              by_cases hz : (pureB z && keyB k2) = true
              · rw [if_pos hz] at h
                cases h
                rw [Bool.and_eq_true] at hz
                exact hz.2
              · rw [if_neg hz] at h; cases h
            | exc _ _ _ => rw [q3] at h; cases h
            | stuck => rw [q3] at h; cases h
          | exc _ _ _ => rw [q2] at h; cases h
          | stuck => rw [q2] at h; cases h
        | false => cases h
      | _ => cases h
    | exc _ _ _ => rw [q] at h; cases h
    | stuck => rw [q] at h; cases h
theorem pfrD {e : Expr} {t : TE} (h : PE X e t) : PE X e (fun σ H Q => t σ H (FrD Q)) :=
  ⟨fun pins s σ H Q I q => thn (h.run pins s σ H _ I q) fun _ _ z => efrD z⟩
theorem pd_dc {kx vx tg iter : Expr} {ifs : List Expr} {scope : Scope} {own : List (Str × Nat)} {pos : Pos} {t : T} {mi : Env' → M (List D)} {tst kk vv : Env' → M D} (hc : X.calm = true) (hN : X.N.Nodup) (hi : L2.PI X tg iter (tI X.K xc W mi)) (ok : BlkOk X.N X.env.scope scope own)
    (hg : ∀ (s : Shared) (H : Hp) (C : Addr) (cl : List (Str × Addr)) (fp : List Addr), PG (X.blk s H scope (compEnvC scope cl C X.env) fp) tg (tG X.K t))
    (ht : ∀ (s : Shared) (H : Hp) (C : Addr) (cl : List (Str × Addr)) (fp : List Addr), PTs (X.blk s H scope (compEnvC scope cl C X.env) fp) ifs (tTst X.K xc (fun _ _ _ _ => False) tst))
    (hk : ∀ (s : Shared) (H : Hp) (C : Addr) (cl : List (Str × Addr)) (fp : List Addr), PE (X.blk s H scope (compEnvC scope cl C X.env) fp) kx (tE X.K xc (fun _ _ _ _ => False) kk))
    (he : ∀ (s : Shared) (H : Hp) (C : Addr) (cl : List (Str × Addr)) (fp : List Addr), PE (X.blk s H scope (compEnvC scope cl C X.env) fp) vx (tE X.K xc (fun _ _ _ _ => False) vv))
    (hs : ∀ x, foldedSetIterable iter X.env x = pure x) (hsub : ∀ j ∈ slotsT t, j ∈ own.map (·.2)) :
    PE X (.DictComp kx vx [⟨tg, iter, ifs, 0⟩] scope pos) (tE X.K xc W fun env => dcM (own.map (·.2)) t (mi env) tst kk vv env) := by
  refine pimp (pfrD (pe_dc (tk := tE X.K xc (fun _ _ _ _ => False) fun env => kk env >>= frz) (tv := tE X.K xc (fun _ _ _ _ => False) fun env => vv env >>= frz) hc hN hi ok hg ht (fun s H C cl fp => pd_frz (hk s H C cl fp)) (fun s H C cl fp => pd_frz (he s H C cl fp)) hs)) fun σ H Q ⟨w, env, s, rel, p⟩ => ?_
  refine ⟨w, env, s, rel, ?_⟩
  have p' : Post X.K xc W σ w H Q (M.bnd (mi env) _ s) := p
  unfold M.bnd at p'
  cases q : mi env s with
  | ok ds s1 =>
    rw [q] at p'
    intro J H1 w1 g t1 jo l hl
    exact dc_post (W := W) jo hsub (rel.go g t1) hl (fun _ _ _ _ _ _ => turnD_key) (p'.mono g)
  | exc c f s' => rw [q] at p'; exact p'
  | stuck => rw [q] at p'; exact p'
end
end PI

set_option maxHeartbeats 1000000
/-! PI, part oj: the least key of an own dict; the least of a tuple of texts. -/
namespace PI
open PySem L2
def minSt : List Str → Str
  | [] => ⟨#[]⟩
  | x :: xs => xs.foldl (fun m y => if ltS y m then y else m) x
def strsOf : List D → Option (List Str)
  | [] => some []
  | .str x :: r => (strsOf r).map (x :: ·)
  | _ => none
def minO (x : D) : M D := fun s => match x with
  | .own i => match s.cs[i]? with
    | some (_, .dct false (k :: ks) _) => match strsOf (k :: ks) with
      | some xs => .ok (.str (minSt xs)) s
      | none => .stuck
    | _ => .stuck
  | _ => .stuck
theorem strs_key : ∀ {kvs : List (Key × V)} {xs : List Str}, strsOf (kvs.map fun p => keyD p.1) = some xs → kvs.map (·.1) = xs.map Sum.inr
  | [], xs, h => by cases h; rfl
  | (.inl i, v) :: kvs, xs, h => by cases h
  | (.inr x, v) :: kvs, xs, h => by
    rw [List.map_cons] at h
    have h' : (strsOf (kvs.map fun p => keyD p.1)).map (x :: ·) = some xs := h
    cases e : strsOf (kvs.map fun p => keyD p.1) with
    | none => rw [e] at h'; cases h'
    | some ys =>
      rw [e] at h'
      cases h'
      rw [List.map_cons, List.map_cons, strs_key e]
theorem best_str {x : Str} {xs : List Str} {d : Str} : (x :: xs).getD (argBest (fun i j => ltS ((x :: xs).getD i d) ((x :: xs).getD j d)) xs.length) d = minSt (x :: xs) := by
  rw [(PySem.W.argBest_fold ltS d x xs xs.length (Nat.le_refl _)).2, List.take_length]
  rfl
section
variable {X : Cx} {xc : XC} {W : WX}
theorem call_minD (hcalm : X.calm = true) : CallR X (.builtin "min") (fun xs H Q => ∃ (a : Addr) (kvs : List (Key × V)) (x : Str) (ks : List Str), xs = [.ref a] ∧ Rd H a (.dK kvs) ∧ kvs.map (·.1) = (x :: ks).map Sum.inr ∧ Q (.str (minSt (x :: ks))) H) := by
  intro pins s σ H xs us Q I r q
  obtain ⟨a, kvs, x0, ks, ex, hd, hks, q⟩ := q
  subst ex
  obtain ⟨u, eu, rx⟩ := vals1 r
  subst eu
  cases rx
  obtain ⟨z, lo, vs, rel, dd⟩ := dk_rd I.hok hd
  obtain ⟨ep, hat⟩ := dd.dictAt
  have hkeys : vs.map (·.1) = (x0 :: ks).map Sum.inr := rel.keys.symm.trans hks
  have hl : vs.length = ks.length + 1 := by
    have e := congrArg List.length hkeys
    simp at e; exact e
  have hh : X.A.in1.handled = none := I.ok.hd hcalm
  refine call_min_walk (wpAny_pyIter_dict lo hat ?_)
  have hlt : a < s.heap.objs.size := by obtain ⟨o, es, ho, _⟩ := hat; exact Heap.lt_size ho
  have hP : ∀ i v, (∃ k x, vs[i]? = some (k, x) ∧ (mixKind X.prog X.w).is k v = true) → ∃ t, v = .str ((x0 :: ks).getD i ⟨#[]⟩) t := fun i v ⟨k, x, e1, e2⟩ => by
    have e3 : (vs.map (·.1))[i]? = some k := by rw [List.getElem?_map, e1]; rfl
    rw [hkeys, List.getElem?_map] at e3
    cases e4 : (x0 :: ks)[i]? with
    | none => rw [e4] at e3; cases e3
    | some y =>
      rw [e4] at e3
      have e5 : Sum.inr y = k := Option.some.inj e3
      subst e5
      obtain ⟨t, ev⟩ := Value.isStrOf_shape (x := y) (v := v) e2
      exact ⟨t, by rw [List.getD_eq_getElem?_getD, e4]; exact ev⟩
  refine ⟨s.heap.objs.size, [s.heap.objs.size, a], [s.heap.objs.size], vs.length, _, _, fun i j => ltS ((x0 :: ks).getD i ⟨#[]⟩) ((x0 :: ks).getD j ⟨#[]⟩), rfl, Walks.dictKeys (A := X.A.in1) hh _ a (Nat.ne_of_lt hlt) vs ep, ⟨⟨_, Heap.get?_push_size _ rfl, rfl, rfl⟩, hat.push _⟩, fun b hb => ?_, by omega, fun i j vi vj s' Q' E' hi hj h => ?_, fun v h' tk hv hk => ?_⟩
  · show b < (s.heap.push _).objs.size
    rw [Heap.size_push]
    rcases List.mem_cons.mp hb with rfl | hb
    · exact Nat.lt_succ_self _
    · rcases List.mem_cons.mp hb with rfl | hb
      · exact Nat.lt_succ_of_lt hlt
      · cases hb
  · obtain ⟨t1, rfl⟩ := hP i vi hi
    obtain ⟨t2, rfl⟩ := hP j vj hj
    exact PyProof.Rows.lt_str h
  · have e1 : vs.length - 1 = ks.length := by omega
    rw [e1] at hv
    obtain ⟨t, ev⟩ := hP _ _ hv
    rw [best_str] at ev
    refine ⟨.str (minSt (x0 :: ks)), H, I.kept (t' := tk) fun b o e => hk b o (fun hm => ?_) (Heap.get?_push_of_some _ e), ⟨t, ev⟩, q⟩
    have := Heap.lt_size e
    rw [List.mem_singleton.mp hm] at this
    exact Nat.lt_irrefl _ this
theorem pd_omin {o : Expr} {p pos : Pos} {mo : Env' → M D} (hcalm : X.calm = true) (hg : Gl X "min") (hm : X.mg "min" = none) (ho : PE X o (tE X.K xc W mo)) (he : starEach [o] X.env = [(false, eval o X.env)]) (hv : bootBuiltins "min" = some (.builtin "min")) :
    PE X (.Call (.Name "min" p) [o] [] pos) (tE X.K xc W fun env => mo env >>= minO) :=
  pimp (pe_callB (call_minD hcalm) hg hm hv (pa_cons ho pa_nil he) (he := he)) fun σ H Q ⟨w, env, s, rel, q⟩ => by
    refine (tE_of rel q).imp2 fun v H1 ⟨w1, d, s1, g, rel1, r, p1⟩ => ?_
    cases d with
    | own i =>
      obtain ⟨a, ha, rfl⟩ := r
      unfold minO at p1
      dsimp only at p1
      split at p1
      · rename_i fz k ks vs hc
        split at p1
        · rename_i xs hx
          have hcell : ∃ us, DctC H1 a fz (k :: ks) us false ∧ Reps X.K H1 us vs := by
            have z := rel1.st.cs i a _ ha hc
            cases fz <;> exact z
          obtain ⟨us, ⟨kvs, hd, e1, e2, e3⟩, h2⟩ := hcell
          rw [e1] at hx
          have hk := strs_key hx
          cases xs with
          | nil =>
            have : kvs = [] := by
              have := congrArg List.length hk
              simpa using this
            subst this
            cases e1
          | cons x xs => exact ⟨a, kvs, x, xs, rfl, hd.rd, hk, p1 _ H1 w1 (Go.refl _ _) rel1.st (.of (.str _))⟩
        · exact p1.elim
      · exact p1.elim
    | _ => exact p1.elim
end
end PI

set_option maxHeartbeats 2000000
/-! PI, part x: an own exception (a ValueError) whose __init__ says super().__init__(text); self.f = p. -/
namespace PI
open PySem L2 PyProof.Rows
/-- the text of such an __init__ -/
def initBody (msg f pn : Str) (j : Nat) (q : Nat → Pos) : List Stmt :=
  [.Expr (.Call (.Attribute (.Call (.Name "super" (q 0)) [] [] (q 1)) "__init__" (q 2)) [.Constant (.str msg) j (q 3)] [] (q 4)) (q 5),
   .Assign [.Attribute (.Name "self" (q 6)) f (q 7)] (.Name pn (q 8)) (q 9)]
/-- what the written part says of the class at C, of its __init__ -/
structure SupC (P : Program) (K : PySem.W.Frag) (C : Addr) (f : Str) : Prop where
  T : OexC K C
  ini : ∃ (fI cc cda : Addr) (qual : Str) (params : Arguments) (msg pn : Str) (j : Nat) (q : Nat → Pos) (scope : Scope) (kV doc pm ct oc : Value) (an od : Option Addr) (osl : Array (Option Value)) (vs : Array Value) (file : Str) (tf : Tok) (ccl cl : Value) (cdd cld : Option Addr) (ccs csl : Array (Option Value)) (ar : Arg),
    PySem.W.findIn K (.ref C) "__init__" = some (some (.ref fI)) ∧ PySem.W.typeIn K (.ref fI) = some (.type "function") ∧
    K.lookup fI = some ⟨oc, od, .func (PySem.W.ksFn "__init__" qual params (initBody msg f pn j q) scope .none kV doc pm an (.ref cda) ct cc), osl⟩ ∧
    PySem.W.codeIn K (.ref cda) qual = true ∧ K.lookup cda = some ⟨ccl, cdd, .fields vs, ccs⟩ ∧ vs[2]? = some (.str file tf) ∧ ((P.main.file : Str) == file) = true ∧
    K.lookup cc = some ⟨cl, cld, .cell (some (.ref C)), csl⟩ ∧ (params.posonlyargs ++ params.args).head? = some ar ∧ ar.arg = ("self" : Str) ∧
    (∀ a u : Value, bindArgs (PySem.W.ksFn "__init__" qual params (initBody msg f pn j q) scope .none kV doc pm an (.ref cda) ct cc) ⟨[a, u], []⟩ = pure [(("self" : Str), a), (pn, u)]) ∧
    scope.names.lookup ("super" : Str) = some .globalImplicit ∧ scope.names.lookup ("__class__" : Str) = some .free ∧ scope.names.lookup ("self" : Str) = some .local ∧ scope.names.lookup pn = some .local ∧
    (∀ x ∈ scope.names, x.2 ≠ .cell) ∧ scope.kind = .function ∧ scope.isCoroutine = false ∧ scope.isGenerator = false ∧ pn ≠ ("self" : Str) ∧ (pn == ("__debug__" : Str)) = false ∧ ((q 2).endLine == (q 4).line) = true
  sup : PySem.W.ks_superIn K C C "__init__" = some (some (.builtin "ValueError.__init__"))
  ve : PySem.W.subIn K (.ref C) (.type "ValueError") = some true
  opq : PySem.W.nsIn K cStatics "thirdparty.any" = some none
  sub : PySem.W.mroIn K C (.ref C) = some true
  fld : PySem.W.findIn K (.ref C) f = some none
  top : (P.main.scope.names.lookup ("super" : Str)).isSome = false
section
variable {P : Program} {w : World} {A : Around} {K : PySem.W.Frag}
theorem sup_eval {env : Env} {o c : Expr} {name : Str} {apos pos : Pos} (hc : starEach [c] env = [(false, eval c env)]) (h : (apos.endLine == pos.line) = true) : eval (.Call (.Attribute o name apos) [c] [] pos) env = (do
      let ov ← attributeBase o name env (eval o env)
      standAt apos.atName
      let (f, first) ← holding [ov] (getMethod ov name (do return (← importBound o env).getD true))
      callWith pos f first (backTo pos (starEach [c] env)) []) := by
  show (do
    let ov ← attributeBase o name env (eval o env)
    standAt apos.atName
    methodCall o name apos pos env ov 1 (backTo pos (starEach [c] env)) []) = _
  have hform : methodCallForm 1 (backTo pos (starEach [c] env)) [] = true := by rw [hc]; rfl
  have hpos : methodCallPos true o env apos pos = pure pos := by unfold methodCallPos; simp [h]
  unfold methodCall
  rw [hform, hpos]
  rfl
theorem init_walk {C e t0 : Addr} {f : Str} {u : Value} {R : Result → Shared → Prop} {mg mb : Str → Option Value} {hp : Heap} {g : Array GenState} {d : Drawn} {t : Nat} {os : OsState} (S : SupC P K C f) (X : K.In hp) (G : hp.Ns mainGlobals mg) (B : hp.Ns builtinsNs mb)
    (hms : mg "super" = none) (hbs : mb "super" = some (.type "super")) (lim : hp.NoLimit) (room : A.depth < recursionLimit) (he : hp.get? e = some (PySem.HandSPX.excO C t0)) (hKe : K.lookup e = none) {fI : Addr} (hfI : PySem.W.findIn K (.ref C) "__init__" = some (some (.ref fI)))
    (hR : ∀ h' dx t1 tk, (∀ b o, b ≠ e → hp.get? b = some o → h'.get? b = some o) → hp.objs.size ≤ dx → dx ≠ e → h'.get? e = some ({ cls := .ref C, dict := some dx, data := .fields #[.ref t1, .none, .none, .none, .bool false, .none] } : Obj) →
      h'.Ns1 dx (fun y => if y = f then some u else none) → R (.ok (.ret .none)) ⟨h', g, d, tk, os⟩) :
    codeAny (model P w) A (.call (.ref fI) ⟨[.ref e, u], []⟩) R ⟨hp, g, d, t, os⟩ := by
  obtain ⟨fI', cc, cda, qual, params, msg, pn, j, q, scope, kV, doc, pm, ct, oc, an, od, osl, vs, file, tf, ccl, cl, cdd, cld, ccs, csl, ar, i1, i2, i3, i4, i5, i6, i7, i8, i9, i10, i11, i12, i13, i14, i15, i16, i17, i18, i19, i20, i21, i22⟩ := S.ini
  rw [hfI] at i1
  cases i1
  obtain ⟨nm, qn, Nn, bs, bm, sn, sb, ab, col, dd, k0, k1, k2, k3, k5, hC, hbm⟩ := S.T.cls
  have hcl : PySem.W.clsIn K C = some { name := nm, bases := bs, mro := .ref C :: bm, ns := Nn, qualname := qn, hasDict := true, slotNames := sn, subclasses := sb, abstract := ab, collection := col, hasDel := false } := by unfold PySem.W.clsIn; rw [hC] <;> rfl
  refine ks_codeAny_call_defAt (fd := PySem.W.ksFn "__init__" qual params (initBody msg f pn j q) scope .none kV doc pm an (.ref cda) ct cc) (body := initBody msg f pn j q) (binds := [(("self" : Str), .ref e), (pn, u)]) room (X _ _ i3) rfl lim (PySem.W.codeRec_of X i4) rfl (.of_eq (i11 _ _)) i16 (fun y hy => ?_) (fun h1 hns hk => ?_) i18 i19 i17
  · rcases List.mem_cons.mp hy with z | z
    · rw [z]; exact i14
    · rw [List.mem_singleton.mp z]; exact i15
  have X1 : K.In h1 := X.keeps hk
  have he1 := hk _ _ he
  have eself : (fun x => [(("self" : Str), Value.ref e), (pn, u)].reverse.lookup x) ("self" : Str) = some (.ref e) := by
    show List.lookup ("self" : Str) [(pn, u), (("self" : Str), Value.ref e)] = _
    rw [List.lookup_cons, show (("self" : Str) == pn) = false from beq_eq_false_iff_ne.mpr (Ne.symm i20)]
    simp
  have epn : (fun x => [(("self" : Str), Value.ref e), (pn, u)].reverse.lookup x) pn = some u := by
    show List.lookup pn [(pn, u), (("self" : Str), Value.ref e)] = _
    simp
  have hD1 := X1 _ _ hC
  have nI : interactive (callEnv (PySem.W.ksFn "__init__" qual params (initBody msg f pn j q) scope .none kV doc pm an (.ref cda) ct cc) hp.objs.size fI) = false := by
    show (scope.kind == .module && _) = false
    rw [i17]; rfl
  unfold initBody
  refine ks_wpAt_execs_cons (ks_wpAt_Expr_any (ks_wpAt_MethodCall (ks_wpAt_super_base (f := fI) (cc := cda) i12 i13 (by decide) rfl (X1 _ _ i3) rfl i9 rfl (X1 _ _ i5) rfl i6 i7 S.top ?_) (sup_eval rfl i22)) nI rfl)
  refine PySem.W.ks_loadName_global i17 i12 (Calls.loadGlobal_builtin (G.keeps hk) hms (B.keeps hk) hbs ⟨rfl, ?_⟩)
  refine wpAny_loadName_free i17 i13 rfl ⟨_, X1 _ _ i8, rfl⟩ ?_
  refine wpAny_loadName_local i17 (by rw [i10]; exact i14) hns (by rw [i10]; exact eself) ?_
  refine ks_wpAny_isType_cls hD1 rfl ⟨rfl, ?_⟩
  refine ks_wpAny_call_super hD1 rfl he1 rfl (fun c z => nomatch z) (PySem.W.looks_mroIn X1 S.sub) (fun h2 e2 k2 => ?_)
  have X2 : K.In h2 := X1.keeps k2
  have LT : PySem.W.Looks (model P w) h2 (typeOf (.ref e)) (.ref C) := fun A Q E s k q => wpAny_typeOf_ref (k _ _ (k2 _ _ he1)) q
  have hI : PySem.W.Looks (model P w) h2 (isInstance (.ref e) (.type "ValueError")) true := LT.andThen (PySem.W.looks_subIn X2 S.ve)
  have hsup := S.sup
  unfold PySem.W.ks_superIn at hsup
  rw [hcl] at hsup
  have hmro : PySem.W.Looks (model P w) h2 (mroOf (.ref C)) (.ref C :: bm) := fun A Q E s k q => wpAny_bind ((PySem.W.looks_clsIn X2 hcl) A _ E s k (wpAny_pure q))
  have hne : e ≠ C := fun z => by
    rw [z] at he1
    rw [hD1] at he1
    cases he1
  refine PySem.W.kxs_getMethod PySem.W.kxs_ValueError e2 (PySem.W.looks_opaque X2 S.opq) hmro rfl X2 hsup hI hne (by decide) ?_
  have hmw : (h2.push (PySem.W.kxs_mw "ValueError.__init__" e)).get? h2.objs.size = some (PySem.W.kxs_mw "ValueError.__init__" e) := Heap.get?_push_at rfl rfl
  have k3 : ∀ b o, h2.get? b = some o → (h2.push (PySem.W.kxs_mw "ValueError.__init__" e)).get? b = some o := fun b o z => Heap.get?_push_of_some _ z
  refine PySem.W.kxs_callWith (i := "ValueError.__init__") (x := e) rfl (Calls.evalArgs_plain (Calls.spliced_cons (Calls.Constant_str (k := j) (pos := q 3) (Calls.spliced_nil ⟨hmw, ?_⟩))))
  have X3 := X2.keeps k3
  have he3 := k3 _ _ (k2 _ _ he1)
  refine wpAny_call (codeAny_of_tree ?_)
  show wpAny _ _ (callAny (.ref h2.objs.size) ⟨[Value.str msg _], []⟩) _ _ _
  simp only [callAny]
  refine wpAny_bind (wpAny_load hmw ?_)
  simp only [show (Value.type "method-wrapper" == Value.type "method" || Value.type "method-wrapper" == Value.type "builtin_function_or_method" || Value.type "method-wrapper" == Value.type "method-wrapper") = true by decide, if_true]
  refine PySem.W.KFB.if_so (by decide) (wpAny_bind (PySem.W.check_bound_init F.excBase_ValueError.toExcCallFacts (X3 _ _ hC) he3 rfl (wpAny_bind (wpAny_pure (wpAny_pure ⟨plainId_quiet F.excBase_ValueError.init.plain _, codeAny_builtin F.excBase_ValueError.initEntry ?_⟩)))))
  refine PySem.W.exc_init_tree (cls := .ref C) (t0 := t0) (dv := none) (c2 := .none) (c3 := .none) (b4 := .bool false) he3 (by show 1 ≤ sizeLine; decide) fun h4 k4 he4 _ => ?_
  have hns4 : h4.Ns hp.objs.size (fun x => [(("self" : Str), Value.ref e), (pn, u)].reverse.lookup x) := by
    obtain ⟨oL, es, ep, hL, r⟩ := hns
    have nL : hp.objs.size ≠ e := fun z => absurd (Heap.lt_size he) (by rw [z]; exact Nat.lt_irrefl _)
    exact ⟨oL, es, ep, k4 _ _ nL (k3 _ _ (k2 _ _ hL)), r⟩
  have kk : ∀ b o, b ≠ e → hp.get? b = some o → h4.get? b = some o := fun b o hb z => k4 b o hb (k3 _ _ (k2 _ _ (hk _ _ z)))
  have nKe : K.lookup e = none := hKe
  have X4 : K.In h4 := fun b o z => kk b o (fun y => by rw [y, nKe] at z; cases z) (X _ _ z)
  refine ks_wpAt_execs_cons (wpAt_of_wpAny (plainObj_wpAny_Assign_Attribute (wpAny_Name (wpAny_loadName_local i17 i15 hns4 epn (wpAny_Name (wpAny_loadName_local i17 i14 hns4 eself ?_))) i21) ?_))
  · refine PySem.W.set_plain X4 (ox := { cls := .ref C, dict := none, data := .fields #[.ref (h2.push (PySem.W.kxs_mw "ValueError.__init__" e)).objs.size, .none, .none, .none, .bool false, .none] }) (od := none) ⟨he4, rfl, rfl, trivial⟩ S.T.sa ?_
    refine PySem.HandSPX.exc_osa X4 he4 hcl (show PySem.HandSPX.refsVE (.ref C :: bm) = true from hbm) rfl S.fld (fun h5 tk5 dx k5 hdx dne he5 hn5 => ?_)
    refine wpAt_of_wpAny (wpAny_execs_nil ?_)
    exact hR h5 dx _ tk5 (fun b o hb z => k5 b o hb (kk b o hb z)) (Nat.le_trans (Nat.le_of_lt hns4.lt) hdx) dne he5 hn5
  · rfl
end
/-- X(e): an exception with its field -/
def tSup (C : Addr) (f : Str) (te : TE) : L2.St → Hp → XK → Prop := fun σ H Q => te σ H fun v H1 => ∀ d, H1 d = none → Q (.ref C) (some d) (upd H1 d (.xd [(f, v)]))
theorem pmk_sup {X : Cx} {x f : Str} {C : Addr} {e : Expr} {te : TE} {p pos : Pos} (S : SupC X.prog X.K C f) (hr : Room 1 X.A) (hg : Gl X x) (hm : X.mg x = some (.ref C)) (hms : X.mg "super" = none) (he : PE X e te)
    (hdb : (x == ("__debug__" : Str)) = false) (hst : starEach [e] X.env = [(false, eval e X.env)]) : PMk X (.Call (.Name x p) [e] [] pos) (tSup C f te) := by
  intro pins s σ H Q I h
  refine wpAny_Call_Name_kw (ld_glob I hg hm ?_ hdb)
  refine PySem.W.callWith_K (h₀ := X.base) I.ok.mod.kin S.T.kC (thn ((pa_cons he pa_nil hst).run pos pins s σ H (fun vs H1 => match vs with | [v] => ∀ d, H1 d = none → Q (.ref C) (some d) (upd H1 d (.xd [(f, v)])) | _ => False) I h) fun us s1 ⟨vs, H1, I1, r1, q⟩ => ⟨I1.kIn, ?_⟩) hst rfl
  match vs, q, r1 with
  | [v], q, r1 =>
  obtain ⟨u, rfl, ru⟩ : ∃ u, us = [u] ∧ RelV v u := by
    cases r1 with
    | cons a b => cases b; exact ⟨_, rfl, a⟩
  show wpAny _ _ (call (.ref C) [u]) _ _ _
  obtain ⟨nm, qn, Nn, bs, bm, sn, sb, ab, col, dd, k0, k1, k2, k3, k5, hC, hbm⟩ := S.T.cls
  obtain ⟨fI, hfI, tI⟩ : ∃ fI, PySem.W.findIn X.K (.ref C) "__init__" = some (some (.ref fI)) ∧ PySem.W.typeIn X.K (.ref fI) = some (.type "function") := by
    obtain ⟨fI, _, _, _, _, _, _, _, _, _, _, _, _, _, _, _, _, _, _, _, _, _, _, _, _, _, _, _, i1, i2, _⟩ := S.ini
    exact ⟨fI, i1, i2⟩
  obtain ⟨hp, g, dr, tk, os⟩ := s1
  have hsz : hp.objs.size ≤ hp.objs.size + 1 := Nat.le_succ _
  have hn : H1 (hp.objs.size + 1) = none := I1.hok.fresh hsz
  have kk : ∀ b o, hp.get? b = some o → ((hp.push (PySem.W.kdv_tup [u])).push (PySem.HandSPX.excO C hp.objs.size)).get? b = some o := fun b o z => Heap.get?_push_of_some _ (Heap.get?_push_of_some _ z)
  have hget : ((hp.push (PySem.W.kdv_tup [u])).push (PySem.HandSPX.excO C hp.objs.size)).get? (hp.objs.size + 1) = some (PySem.HandSPX.excO C hp.objs.size) := by heap_get
  have X1 := I1.kIn
  have nK : X.K.lookup (hp.objs.size + 1) = none := by
    cases z : X.K.lookup (hp.objs.size + 1) with
    | none => rfl
    | some o => exact absurd (Heap.lt_size (X1 _ _ z)) (Nat.not_lt.mpr hsz)
  obtain ⟨mb, hb1, hb2⟩ := I1.mod.blt
  have bk : ∀ b o, X.base.get? b = some o → ((hp.push (PySem.W.kdv_tup [u])).push (PySem.HandSPX.excO C hp.objs.size)).get? b = some o := fun b o z => kk b o (I1.bk b o z)
  refine wpAny_call (PySem.HandSPX.call_own F.excBase_ValueError (fun Y => PySem.HandSPX.refsVE_contains Y bm hbm) (X1 _ _ hC) (PySem.W.looks_findIn X1 hfI) (fun self => PySem.W.bind_fn X1 self tI) (by show 1 ≤ sizeLine; decide) ?_)
  refine init_walk S (X1.keeps kk) (I1.mod.glob.keeps bk) (hb1.keeps bk) hms ((hb2 _ (by decide)).trans (by first | rfl | kernel_rfl)) (I1.nolimit.keeps kk) (hr.make C [u] []).depth hget nK hfI fun h2 dx t1 tk2 k2' hdx dne he2 hn2 => ⟨rfl, ?_⟩
  have hdx' : hp.objs.size ≤ dx := Nat.le_trans (Nat.le_trans hsz (Nat.le_succ _)) (by simpa [Heap.push] using hdx)
  have hnd : H1 dx = none := I1.hok.fresh hdx'
  have new : ∀ {b : Addr} {o : Obj}, ((hp.push (PySem.W.kdv_tup [u])).push (PySem.HandSPX.excO C hp.objs.size)).get? b = some o → b ≠ dx := fun {b o} z y => absurd (Heap.lt_size z) (by rw [y]; exact Nat.not_lt.mpr hdx)
  have na : ∀ {b : Addr}, upd H1 (hp.objs.size + 1) (exo (hp.objs.size + 1) C none) b = none → b ≠ hp.objs.size + 1 := fun {b} z y => by rw [y, upd_same] at z; cases z
  have hua : upd H1 (hp.objs.size + 1) (exo (hp.objs.size + 1) C none) (hp.objs.size + 1) = some (exo (hp.objs.size + 1) C none) := upd_same
  have off : ∀ {b : Addr} {o : HO}, upd H1 (hp.objs.size + 1) (exo (hp.objs.size + 1) C none) b = some o → exo (hp.objs.size + 1) C none ≠ o → H1 b = some o ∧ b ≠ hp.objs.size + 1 := fun {b o} z y => by
    have ne := at_ne hua z y
    rw [upd_ne ne] at z
    exact ⟨z, ne⟩
  have hok0 : HOk X.prog X.w (upd H1 (hp.objs.size + 1) (exo (hp.objs.size + 1) C none)) ((hp.push (PySem.W.kdv_tup [u])).push (PySem.HandSPX.excO C hp.objs.size)) := I1.hok.laid kk hsz (exo_ok hget)
  have U : Un (frs X.stack) [] (upd H1 (hp.objs.size + 1) (exo (hp.objs.size + 1) C none)) (upd (upd H1 dx (exd dx [(f, v)])) (hp.objs.size + 1) (exo (hp.objs.size + 1) C (some dx))) ((hp.push (PySem.W.kdv_tup [u])).push (PySem.HandSPX.excO C hp.objs.size)) h2 := by
    refine ⟨fun b o z n _ _ => k2' b o (na n) z, fun b o z n _ _ => ⟨o.slots, k2' b o (na n) z⟩, fun b o z n _ => ?_, fun b o z _ => ?_, fun b xs z => ?_, fun b o y z => ?_, fun b ps z => ?_⟩
    · rw [upd_ne (na n), upd_ne (new z)]
      rw [upd_ne (na n)] at n
      exact n
    · by_cases hb : b = hp.objs.size + 1
      · exact ⟨_, by rw [hb]; exact he2⟩
      · exact ⟨o, k2' b o hb z⟩
    · obtain ⟨z1, z2⟩ := off z exo_tup
      rw [upd_ne z2, upd_ne (ne_of_none z1 hnd)]; exact z1
    · obtain ⟨z1, z2⟩ := off z exo_frz
      rw [upd_ne z2, upd_ne (ne_of_none z1 hnd)]; exact z1
    · obtain ⟨z1, z2⟩ := off z exo_tbl
      exact ⟨#[], by rw [upd_ne z2, upd_ne (ne_of_none z1 hnd), z1]; simp⟩
  have hok2 : HOk X.prog X.w (upd (upd H1 dx (exd dx [(f, v)])) (hp.objs.size + 1) (exo (hp.objs.size + 1) C (some dx))) h2 := fun b o z => by
    by_cases hb : b = hp.objs.size + 1
    · subst hb
      rw [upd_same] at z
      cases z
      exact exo_ok he2
    · rw [upd_ne hb] at z
      by_cases hd : b = dx
      · subst hd
        rw [upd_same] at z
        cases z
        exact exd_ok hn2 (relO_put (fs := []) ru fun g => trivial)
      · rw [upd_ne hd] at z
        refine (hok0 b o (by rw [upd_ne hb]; exact z)).stay (fun c y hc w => k2' c y ?_ w) (fun c hc => ?_) (fun c xs hc => ?_)
        · rcases hc with hc | hc
          · rw [hc]; exact hb
          · exact (off hc exo_own).2
        · obtain ⟨z1, z2⟩ := off hc exo_own
          rw [upd_ne z2, upd_ne (ne_of_none z1 hnd)]; exact z1
        · obtain ⟨z1, z2⟩ := off hc exo_tup
          rw [upd_ne z2, upd_ne (ne_of_none z1 hnd)]; exact z1
  have hdel : upd (del (upd (upd H1 dx (exd dx [(f, v)])) (hp.objs.size + 1) (exo (hp.objs.size + 1) C (some dx))) (hp.objs.size + 1)) dx (.xd [(f, v)]) = upd H1 dx (.xd [(f, v)]) := by
    funext b
    by_cases hd : b = dx
    · rw [hd, upd_same, upd_same]
    · rw [upd_ne hd, upd_ne hd]
      by_cases hb : b = hp.objs.size + 1
      · rw [hb, del_same, hn]
      · rw [del_ne hb, upd_ne hb, upd_ne hd]
  exact mk_end (raises_own S.T.exC S.T.tyC) I1 hsz kk U hok2 rfl I1.bare upd_same (by rw [upd_ne dne, upd_same]) hnd (by rw [hdel]; exact q dx hnd)
end PI

set_option maxHeartbeats 1000000
/-! PI, part r: repr. -/
namespace PI
open PySem L2 PyProof.Rows
mutual
/-- data that repr tells: also dicts that are empty -/
def toPyR : D → PyData
  | .non => .none
  | .bl b => .bool b
  | .int i => .int i
  | .str x => .str x
  | .tup xs => .tuple (toPyRs xs)
  | .lst xs => .list (toPyRs xs)
  | .dct _ _ => .dict []
  | _ => .none
def toPyRs : List D → List PyData
  | [] => []
  | x :: xs => toPyR x :: toPyRs xs
end
mutual
def plainR : D → Bool
  | .non => true
  | .bl _ => true
  | .int _ => true
  | .str _ => true
  | .tup xs => plainRs xs
  | .lst xs => plainRs xs
  | .dct [] [] => true
  | _ => false
def plainRs : List D → Bool
  | [] => true
  | x :: xs => plainR x && plainRs xs
end
theorem plainR_dct {ks vs : List D} (p : plainR (.dct ks vs) = true) : ks = [] ∧ vs = [] := by
  cases ks <;> cases vs <;> first | exact ⟨rfl, rfl⟩ | cases p
def reprS (d : D) : Str := (toPyR d).shown
def showR (d : D) : Bool := plainR d && (toPyR d).showable && decide ((toPyR d).depth ≤ 60) && decide ((reprS d).length ≤ LIM)
def reprD : List D → Option D
  | [d] => if showR d then some (.str (reprS d)) else none
  | _ => none
section
variable {X : Cx} {pins : List (Addr × Obj)} {σ : L2.St} {H : Hp} {s : Shared}
/-- how the text of a thing comes -/
structure Tells (prog : Program) (w : World) (h : Heap) (u : Value) (d : PyData) (as bs : List Addr) : Prop where
  rd : Reads h u d as
  mo : ReadAtMost h d.depth bs
  tl : ReprK prog w bs h d.depth u d.shown
structure TellsAll (prog : Program) (w : World) (h : Heap) (us : List Value) (ds : List PyData) (as bs : List Addr) : Prop where
  rd : ReadsAll h us ds as
  mo : ReadAtMost h (PyData.depthAll ds) bs
  tl : ReprAllK prog w bs h (PyData.depthAll ds) us (PyData.shownAll ds)
theorem tells_list {prog : Program} {w : World} {h : Heap} {a : Addr} {its : List Value} {n : Nat} {ds : List PyData} {as bs : List Addr} (e : h.get? a = some { cls := .type "list", data := .seq its.toArray n }) (T : TellsAll prog w h its ds as bs) :
    Tells prog w h (.ref a) (.list ds) (a :: as) (a :: bs) ∧ a ∉ bs := by
  have r : Reads h (.ref a) (.list ds) (a :: as) := .list e rfl rfl (by simpa using T.rd)
  have hna : a ∉ bs := not_mem_of_deeper r (by simp only [PyData.depth]; omega) T.mo
  refine ⟨⟨r, ReadAtMost.cons r (by simp only [PyData.depth]; omega) T.mo, ?_⟩, hna⟩
  simp only [PyData.depth, PyData.shown]
  cases its with
  | nil =>
    have z := T.rd
    cases z
    simp only [PyData.shownAll, listText_nil]
    exact ReprK.listEmpty e rfl rfl
  | cons x l => exact ReprK.list e rfl rfl hna (by simpa using T.tl.length_eq) fun i y z => T.tl.item i y (by simpa using z)
theorem tells_tup {prog : Program} {w : World} {h : Heap} {a : Addr} {o : Obj} {its : List Value} {n : Nat} {ds : List PyData} {as bs : List Addr} (e : h.get? a = some o) (hc : o.cls = .type "tuple") (hd : o.data = .seq its.toArray n) (T : TellsAll prog w h its ds as bs) :
    Tells prog w h (.ref a) (.tuple ds) as (a :: bs) ∧ a ∉ bs := by
  have r : Reads h (.ref a) (.tuple ds) as := .tuple e hc hd (by simpa using T.rd)
  have hna : a ∉ bs := not_mem_of_deeper r (by simp only [PyData.depth]; omega) T.mo
  refine ⟨⟨r, ReadAtMost.cons r (by simp only [PyData.depth]; omega) T.mo, ?_⟩, hna⟩
  simp only [PyData.depth, PyData.shown]
  exact ReprK.tuple e hc hd hna (by simpa using T.tl)
/-- an empty dict -/
theorem dict0_at (I : Inv X pins σ H s) {a : Addr} {o : Obj} (h : H a = some (.frz o (.dK []))) : ∃ od n, s.heap.get? a = some od ∧ od.cls = .type "dict" ∧ od.data = .dict #[] n ∧ (a == sysModules) = false := by
  obtain ⟨e, _, hs, vs, kv, o2, es, ep, e2, hex, hdt, _, hpr, _⟩ := I.hok a _ h
  cases kv
  refine ⟨o2, ep, e2, hex.1, ?_, hs⟩
  rw [hdt]
  have : es.toList = [] := by
    generalize es.toList = l at hpr
    cases hpr
    rfl
  rw [show es = #[] from by cases es; simp_all]
mutual
theorem Rep.tells (I : Inv X pins σ H s) : ∀ {v : V} {d : D} {u : Value}, Rep X.K H v d → plainR d = true → (toPyR d).showable = true → (toPyR d).shown.length ≤ sizeLine → RelV v u → ∃ as bs, Tells X.prog X.w s.heap u (toPyR d) as bs
  | _, _, _, .non, _, _, _, r => by
    cases r
    unfold toPyR
    exact ⟨_, [], .none, (fun _ h => nomatch h), by simp only [PyData.shown]; exact .of_is ReprIs.none _ _ _⟩
  | _, _, _, .bl b, _, _, _, r => by
    cases r
    unfold toPyR
    exact ⟨_, [], .bool b, (fun _ h => nomatch h), by simp only [PyData.shown]; exact .of_is (ReprIs.bool b) _ _ _⟩
  | _, _, _, .int i, _, hs, _, r => by
    obtain ⟨t, rfl⟩ := r
    unfold toPyR at hs ⊢
    exact ⟨_, [], .int i t, (fun _ h => nomatch h), by simp only [PyData.shown]; exact .of_is (ReprIs.int t (by simpa [PyData.showable] using hs)) _ _ _⟩
  | _, _, _, .str x, _, _, hz, r => by
    obtain ⟨t, rfl⟩ := r
    unfold toPyR at hz ⊢
    exact ⟨_, [], .str x t, (fun _ h => nomatch h), by simp only [PyData.shown] at hz ⊢; exact .of_is (ReprIs.str x t hz) _ _ _⟩
  | _, _, _, .tup (ds := ds) h rs, p, hs, hz, r => by
    cases r
    unfold toPyR at hs hz ⊢
    obtain ⟨its, rv, ⟨o, ho, hc, n, hd⟩, _⟩ := I.tuple h.sq
    obtain ⟨as, bs, T⟩ := Reps.tells I rs (by unfold plainR at p; exact p) (by simpa [PyData.showable] using hs) (fun t ht => Nat.le_trans (tupleText_mem_le ht) (by simpa only [PyData.shown] using hz)) rv
    exact ⟨_, _, (tells_tup ho hc hd T).1⟩
  | _, _, _, .lst (ds := ds) h rs, p, hs, hz, r => by
    cases r
    unfold toPyR at hs hz ⊢
    obtain ⟨z, its, n, rv, e⟩ := rd_list I h.rd
    obtain ⟨as, bs, T⟩ := Reps.tells I rs (by unfold plainR at p; exact p) (by simpa [PyData.showable] using hs) (fun t ht => Nat.le_trans (listText_mem_le ht) (by simpa only [PyData.shown] using hz)) rv
    exact ⟨_, _, (tells_list e T).1⟩
  | _, _, _, .dct (ks := ks) (vs := vs) h _, p, _, _, r => by
    cases r
    obtain ⟨e1, e2⟩ := plainR_dct p
    subst e1 e2
    obtain ⟨o0, h, _⟩ := h.nil
    unfold toPyR
    obtain ⟨od, n, e, hc, hd, hs⟩ := dict0_at I h
    have rr : Reads s.heap (.ref _) (.dict []) _ := .dict (kvs := []) e hc hd .nil .nil
    refine ⟨_, _, rr, ReadAtMost.cons (bs := []) rr (Nat.zero_le _) (fun _ h => nomatch h), ?_⟩
    simp only [PyData.depth, PyData.shown, PyData.shownKv]
    exact ReprK.dict e hc hd hs (by simp) .nil
theorem Reps.tells (I : Inv X pins σ H s) : ∀ {vs : List V} {ds : List D} {us : List Value}, Reps X.K H vs ds → plainRs ds = true → PyData.showableAll (toPyRs ds) = true → (∀ t ∈ PyData.shownAll (toPyRs ds), t.length ≤ sizeLine) → Vals vs us → ∃ as bs, TellsAll X.prog X.w s.heap us (toPyRs ds) as bs
  | _, _, _, .nil, _, _, _, r => by
    cases r
    unfold toPyRs
    exact ⟨_, [], .nil, (fun _ h => nomatch h), by simp only [PyData.shownAll]; exact .nil⟩
  | _, _, _, .cons h rs, p, hs, hz, r => by
    unfold plainRs at p
    rw [Bool.and_eq_true] at p
    unfold toPyRs at hs hz ⊢
    simp only [PyData.showableAll, Bool.and_eq_true] at hs
    simp only [PyData.shownAll, List.mem_cons] at hz
    cases r with
    | cons r1 r2 =>
      obtain ⟨a1, b1, T1⟩ := Rep.tells I h p.1 hs.1 (hz _ (.inl rfl)) r1
      obtain ⟨a2, b2, T2⟩ := Reps.tells I rs p.2 hs.2 (fun t ht => hz t (.inr ht)) r2
      refine ⟨_, b1 ++ b2, .cons T1.rd T2.rd, ?_, ?_⟩
      · simp only [PyData.depthAll]
        exact (T1.mo.mono (Nat.le_max_left _ _)).append (T2.mo.mono (Nat.le_max_right _ _))
      · simp only [PyData.depthAll, PyData.shownAll]
        exact .cons ((T1.tl.more fun b hb => List.mem_append_left _ hb).level_le (Nat.le_max_left _ _)) (T2.tl.more_le (fun b hb => List.mem_append_right _ hb) (Nat.le_max_right _ _))
end
theorem repr_tup (hg : X.A.guards = some []) (hu : X.A.units + 65 < cLine) (I : Inv X pins σ H s) {a : Addr} {o : Obj} {its : List Value} {n : Nat} {ds : List PyData} {as bs : List Addr} {Q : Value → Shared → Prop} {E : Value → Shared → Prop} (e : s.heap.get? a = some o) (hc : o.cls = .type "tuple") (hd : o.data = .seq its.toArray n) (T : TellsAll X.prog X.w s.heap its ds as bs)
    (hdp : PyData.depthAll ds + 1 ≤ 60) (hz : (tupleText (PyData.shownAll ds)).length ≤ sizeLine) (hQ : ∀ s' t, Inv X pins σ H s' → Q (.str (tupleText (PyData.shownAll ds)) t) s') : wpAny (model X.prog X.w) X.A (call (.builtin "repr") [.ref a]) Q E s := by
  obtain ⟨_, hna⟩ := tells_tup e hc hd T
  refine call_repr_slot (by omega) ⟨o, e, hc⟩ F.slot_tuple_repr (call_tuple_reprK e hc hd hna (by simpa using T.tl) (g := []) hg (fun b _ => Clear.nil b) (by show X.A.units + 1 + _ < _; omega) (fun _ _ z => z) (fun h' u tk hk => ⟨_, _, rfl, hQ _ u (I.kept hk)⟩) hz)
theorem repr_lst (hg : X.A.guards = some []) (hu : X.A.units + 65 < cLine) (I : Inv X pins σ H s) {a : Addr} {its : List Value} {n : Nat} {ds : List PyData} {as bs : List Addr} {Q : Value → Shared → Prop} {E : Value → Shared → Prop} (e : s.heap.get? a = some { cls := .type "list", data := .seq its.toArray n }) (T : TellsAll X.prog X.w s.heap its ds as bs)
    (hdp : PyData.depthAll ds + 1 ≤ 60) (hz : (listText (PyData.shownAll ds)).length ≤ sizeLine) (hQ : ∀ s' t, Inv X pins σ H s' → Q (.str (listText (PyData.shownAll ds)) t) s') : wpAny (model X.prog X.w) X.A (call (.builtin "repr") [.ref a]) Q E s := by
  obtain ⟨_, hna⟩ := tells_list e T
  cases its with
  | nil =>
    have z := T.rd
    cases z
    simp only [PyData.shownAll, listText_nil] at hQ
    exact call_repr_slot (by omega) ⟨_, e, rfl⟩ F.slot_list_repr.toG (call_list_repr_empty ⟨_, e, rfl⟩ e rfl ⟨_, _, rfl, hQ _ _ (I.tok _)⟩)
  | cons x l =>
    refine call_repr_slot (by omega) ⟨_, e, rfl⟩ F.slot_list_repr.toG (call_list_reprK e rfl rfl hna (by simpa using T.tl.length_eq) (fun i y z => T.tl.item i y (by simpa using z)) (g := []) hg (fun b _ => Clear.nil b) (by show X.A.units + 1 + _ < _; omega) (fun _ _ z => z) (fun h' u tk hk => ⟨_, _, rfl, hQ _ u (I.kept hk)⟩) hz)
end
section
variable {X : Cx}
theorem LIM_line {n : Nat} (h : n ≤ LIM) : n ≤ sizeLine := Nat.le_trans h (by decide)
theorem repr_ok (hg : X.A.guards = some []) (hu : X.A.units + 65 < cLine) : CallP X (.builtin "repr") reprD := by
  intro pins s σ H xs us Q I r h
  obtain ⟨ds, d, rr, e, q⟩ := h
  unfold reprD at e
  split at e
  · rename_i dd
    split at e
    · rename_i hs
      cases e
      unfold showR at hs
      simp only [Bool.and_eq_true, decide_eq_true_eq] at hs
      obtain ⟨⟨⟨p1, p2⟩, p3⟩, p4⟩ := hs
      have p4' := LIM_line p4
      obtain ⟨x, rfl, rx⟩ := reps1 rr
      obtain ⟨u, rfl, ru⟩ : ∃ u, us = [u] ∧ RelV x u := by
        cases r with
        | cons a b => cases b; exact ⟨_, rfl, a⟩
      have fin : ∀ s' t, Inv X pins σ H s' → EP X pins σ Q (.str (reprS dd) t) s' := fun s' t I' => ⟨.str (reprS dd), H, I', ⟨t, rfl⟩, q _ _ (Same.refl H) (.str _)⟩
      cases dd with
      | lst ds =>
        obtain ⟨a, vs, rfl, hl, rs⟩ := rx
        cases ru
        obtain ⟨z, its, n, rv, e⟩ := rd_list I hl
        unfold toPyR at p2 p3
        simp only [reprS, toPyR, PyData.shown] at p4' fin
        obtain ⟨as, bs, T⟩ := Reps.tells I rs (by unfold plainR at p1; exact p1) (by simpa [PyData.showable] using p2) (fun t ht => Nat.le_trans (listText_mem_le ht) p4') rv
        exact repr_lst hg hu I e T (by simpa only [PyData.depth] using p3) p4' fin
      | tup ds =>
        cases rx with
        | tup hf rs =>
        cases ru
        obtain ⟨its, rv, ⟨o, ho, hc, n, hd⟩, _⟩ := I.tuple hf.sq
        unfold toPyR at p2 p3
        simp only [reprS, toPyR, PyData.shown] at p4' fin
        obtain ⟨as, bs, T⟩ := Reps.tells I rs (by unfold plainR at p1; exact p1) (by simpa [PyData.showable] using p2) (fun t ht => Nat.le_trans (tupleText_mem_le ht) p4') rv
        exact repr_tup hg hu I ho hc hd T (by simpa only [PyData.depth] using p3) p4' fin
      | non =>
        cases rx
        cases ru
        exact P.repr_of_none (fin _ _ (I.tok _))
      | bl b =>
        cases rx
        cases ru
        exact P.repr_of_bool (fin _ _ (I.tok _))
      | int i =>
        cases rx
        obtain ⟨t, rfl⟩ := ru
        exact P.repr_of_int (by unfold toPyR at p2; simpa [PyData.showable] using p2) (fin _ _ (I.tok _))
      | str y =>
        cases rx
        obtain ⟨t, rfl⟩ := ru
        exact P.repr_of_str (fin _ _ (I.tok _)) p4'
      | dct ks vs =>
        obtain ⟨e1, e2⟩ := plainR_dct p1
        subst e1 e2
        cases rx with
        | dct h _ =>
        cases ru
        obtain ⟨o0, h, _⟩ := h.nil
        obtain ⟨od, n, e, hc, hd, hs⟩ := dict0_at I h
        refine call_repr_slot (by omega) ⟨od, e, hc⟩ F.slot_dict_repr (call_dict_reprK (as := []) (d := 0) (ps := []) e hc hd hs (by simp) .nil (g := []) hg (fun b _ => Clear.nil b) (by show X.A.units + 1 + _ < _; omega) (fun _ _ z => z) (fun h' u tk hk => ⟨_, _, rfl, fin _ u (I.kept hk)⟩) p4')
      | _ => unfold plainR at p1; cases p1
    · cases e
  · cases e
end
end PI

set_option maxHeartbeats 1000000
/-! PI, part s: sorted. -/
namespace PI
open PySem L2 PyProof.Rows
open PySem.W (dataLt alike alikeAll keyToks keyToksAll TotalLe sameRank EachIs SortsAt dataKind AllAlike Sortable dataLe)
def insBy {α : Type} (lt : α → α → Bool) (x : α) : List α → List α
  | [] => [x]
  | y :: ys => if lt y x then y :: insBy lt x ys else x :: y :: ys
def sortBy {α : Type} (lt : α → α → Bool) : List α → List α
  | [] => []
  | x :: xs => insBy lt x (sortBy lt xs)
section
variable {α : Type} {lt : α → α → Bool}
theorem mem_insBy {x z : α} : ∀ {ys : List α}, z ∈ insBy lt x ys ↔ z = x ∨ z ∈ ys
  | [] => by simp [insBy]
  | y :: ys => by
    unfold insBy
    split
    · simp only [List.mem_cons, mem_insBy (ys := ys)]
      constructor
      · rintro (h | h | h) <;> simp [h]
      · rintro (h | h | h) <;> simp [h]
    · simp
theorem mem_sortBy {z : α} : ∀ {xs : List α}, z ∈ sortBy lt xs ↔ z ∈ xs
  | [] => by simp [sortBy]
  | x :: xs => by unfold sortBy; rw [mem_insBy, mem_sortBy (xs := xs)]; simp
theorem insBy_congr {lt' : α → α → Bool} {x : α} : ∀ {ys : List α}, (∀ y ∈ ys, lt y x = lt' y x) → insBy lt x ys = insBy lt' x ys
  | [], _ => rfl
  | y :: ys, h => by
    unfold insBy
    rw [h y (by simp), insBy_congr fun z hz => h z (by simp [hz])]
theorem sortBy_congr {lt' : α → α → Bool} : ∀ {xs : List α}, (∀ x ∈ xs, ∀ y ∈ xs, lt x y = lt' x y) → sortBy lt xs = sortBy lt' xs
  | [], _ => rfl
  | x :: xs, h => by
    unfold sortBy
    rw [sortBy_congr fun a ha b hb => h a (by simp [ha]) b (by simp [hb]), insBy_congr fun y hy => h y (by simp [mem_sortBy.mp hy]) x (by simp)]
theorem insBy_pw (T : TotalLe fun a b => !lt b a) {x : α} : ∀ {ys : List α}, ys.Pairwise (fun a b => (!lt b a) = true) → (insBy lt x ys).Pairwise (fun a b => (!lt b a) = true)
  | [], _ => List.pairwise_singleton _ _
  | y :: ys, h => by
    obtain ⟨h1, h2⟩ := List.pairwise_cons.mp h
    unfold insBy
    by_cases c : lt y x = true
    · rw [if_pos c]
      refine List.pairwise_cons.mpr ⟨fun z hz => ?_, insBy_pw T h2⟩
      rcases mem_insBy.mp hz with e | hz
      · rw [e]
        rcases T.total y x with q | q
        · exact q
        · rw [c] at q; cases q
      · exact h1 z hz
    · rw [if_neg c]
      have c' : (!lt y x) = true := by simpa using c
      refine List.pairwise_cons.mpr ⟨fun z hz => ?_, h⟩
      rcases List.mem_cons.mp hz with e | hz
      · rw [e]; exact c'
      · exact T.trans x y z c' (h1 z hz)
theorem sortBy_pw (T : TotalLe fun a b => !lt b a) : ∀ xs : List α, (sortBy lt xs).Pairwise (fun a b => (!lt b a) = true)
  | [] => List.Pairwise.nil
  | _ :: xs => insBy_pw T (sortBy_pw T xs)
theorem insBy_filter (T : TotalLe fun a b => !lt b a) (c : α) {x : α} : ∀ ys : List α, (insBy lt x ys).filter (sameRank (fun a b => !lt b a) c) = (x :: ys).filter (sameRank (fun a b => !lt b a) c)
  | [] => rfl
  | y :: ys => by
    unfold insBy
    by_cases h : lt y x = true
    · rw [if_pos h, List.filter_cons, insBy_filter T c ys]
      by_cases hy : sameRank (fun a b => !lt b a) c y = true
      · have hx : ¬ sameRank (fun a b => !lt b a) c x = true := fun hx => by
          unfold sameRank at hy hx
          rw [Bool.and_eq_true] at hy hx
          have z := T.trans x c y hx.2 hy.1
          simp [h] at z
        rw [if_pos hy, List.filter_cons, if_neg hx, List.filter_cons, if_neg hx, List.filter_cons, if_pos hy]
      · rw [if_neg hy, List.filter_cons, List.filter_cons]
        simp only [List.filter_cons, if_neg hy]
    · rw [if_neg h]
theorem sortBy_filter (T : TotalLe fun a b => !lt b a) (c : α) : ∀ xs : List α, (sortBy lt xs).filter (sameRank (fun a b => !lt b a) c) = xs.filter (sameRank (fun a b => !lt b a) c)
  | [] => rfl
  | x :: xs => by
    unfold sortBy
    rw [insBy_filter T c, List.filter_cons, sortBy_filter T c xs, ← List.filter_cons]
theorem sortBy_merge (T : TotalLe fun a b => !lt b a) (xs : List α) : sortBy lt xs = xs.mergeSort fun a b => !lt b a :=
  PySem.W.sort_unique T (sortBy_pw T xs) (sortBy_filter T · xs)
end
/-! ### data in order -/
mutual
def alikeB : D → D → Bool
  | .non, .non => true
  | .bl _, .bl _ => true
  | .int _, .int _ => true
  | .str _, .str _ => true
  | .lst xs, .lst ys => alikeBs xs ys
  | .tup xs, .tup ys => alikeBs xs ys
  | _, _ => false
def alikeBs : List D → List D → Bool
  | x :: xs, y :: ys => alikeB x y && alikeBs xs ys
  | [], _ => true
  | _ :: _, [] => true
end
mutual
theorem alike_py : ∀ (x y : D), plain x = true → plain y = true → alike (toPy x) (toPy y) = alikeB x y
  | .tup xs, y, hx, hy => by
    unfold plain at hx
    cases y with
    | tup ys => unfold plain at hy; simp only [toPy, alike, alikeB]; exact alikes_py xs ys hx hy
    | dct _ _ => unfold plain at hy; cases hy
    | obj _ _ _ => unfold plain at hy; cases hy
    | exn _ _ _ _ => unfold plain at hy; cases hy
    | own _ => unfold plain at hy; cases hy
    | drw => unfold plain at hy; cases hy
    | _ => simp [toPy, alike, alikeB]
  | .lst xs, y, hx, hy => by
    unfold plain at hx
    cases y with
    | lst ys => unfold plain at hy; simp only [toPy, alike, alikeB]; exact alikes_py xs ys hx hy
    | dct _ _ => unfold plain at hy; cases hy
    | obj _ _ _ => unfold plain at hy; cases hy
    | exn _ _ _ _ => unfold plain at hy; cases hy
    | own _ => unfold plain at hy; cases hy
    | drw => unfold plain at hy; cases hy
    | _ => simp [toPy, alike, alikeB]
  | .non, y, _, hy => by cases y <;> first | (unfold plain at hy; cases hy; done) | simp [toPy, alike, alikeB]
  | .bl _, y, _, hy => by cases y <;> first | (unfold plain at hy; cases hy; done) | simp [toPy, alike, alikeB]
  | .int _, y, _, hy => by cases y <;> first | (unfold plain at hy; cases hy; done) | simp [toPy, alike, alikeB]
  | .str _, y, _, hy => by cases y <;> first | (unfold plain at hy; cases hy; done) | simp [toPy, alike, alikeB]
  | .dct _ _, _, hx, _ => by unfold plain at hx; cases hx
  | .obj _ _ _, _, hx, _ => by unfold plain at hx; cases hx
  | .exn _ _ _ _, _, hx, _ => by unfold plain at hx; cases hx
  | .own _, _, hx, _ => by unfold plain at hx; cases hx
  | .drw, _, hx, _ => by unfold plain at hx; cases hx
theorem alikes_py : ∀ (xs ys : List D), plains xs = true → plains ys = true → alikeAll (toPys xs) (toPys ys) = alikeBs xs ys
  | [], _, _, _ => by simp [toPys, alikeAll, alikeBs]
  | _ :: _, [], _, _ => by simp [toPys, alikeAll, alikeBs]
  | x :: xs, y :: ys, hx, hy => by
    unfold plains at hx hy
    rw [Bool.and_eq_true] at hx hy
    simp only [toPys, alikeAll, alikeBs]
    rw [alike_py x y hx.1 hy.1, alikes_py xs ys hx.2 hy.2]
end
mutual
theorem lt_py : ∀ (x y : D), plain x = true → plain y = true → alikeB x y = true → x ≠ .non → dataLt (toPy x) (toPy y) = ltB x y
  | .tup xs, y, hx, hy, ha, _ => by
    cases y with
    | tup ys =>
      unfold plain at hx hy
      simp only [alikeB] at ha
      simp only [toPy, PySem.W.dataLt_tuple, ltB]
      exact lts_py xs ys hx hy ha
    | _ => simp [alikeB] at ha
  | .lst xs, y, hx, hy, ha, _ => by
    cases y with
    | lst ys =>
      unfold plain at hx hy
      simp only [alikeB] at ha
      simp only [toPy, PySem.W.dataLt_list, ltB]
      exact lts_py xs ys hx hy ha
    | _ => simp [alikeB] at ha
  | .non, _, _, _, _, hn => absurd rfl hn
  | .bl a, y, _, _, ha, _ => by
    cases y with
    | bl b => simp only [toPy, PySem.W.dataLt_bool, ltB]; cases a <;> cases b <;> decide
    | _ => simp [alikeB] at ha
  | .int i, y, _, _, ha, _ => by
    cases y with
    | int j => simp only [toPy, PySem.W.dataLt_int, ltB]
    | _ => simp [alikeB] at ha
  | .str a, y, _, _, ha, _ => by
    cases y with
    | str b => simp only [toPy, PySem.W.dataLt_str, ltB, ltS]
    | _ => simp [alikeB] at ha
  | .dct _ _, _, hx, _, _, _ => by unfold plain at hx; cases hx
  | .obj _ _ _, _, hx, _, _, _ => by unfold plain at hx; cases hx
  | .exn _ _ _ _, _, hx, _, _, _ => by unfold plain at hx; cases hx
  | .own _, _, hx, _, _, _ => by unfold plain at hx; cases hx
  | .drw, _, hx, _, _, _ => by unfold plain at hx; cases hx
theorem lts_py : ∀ (xs ys : List D), plains xs = true → plains ys = true → alikeBs xs ys = true → PyProof.Rows.lexLt itemOrd (keyToksAll (toPys xs)) (keyToksAll (toPys ys)) = ltBs xs ys
  | [], [], _, _, _ => by simp only [toPys, ltBs]; decide
  | [], y :: ys, _, _, _ => by
    simp only [toPys, ltBs, keyToksAll]
    rw [PySem.W.lex_atom (by decide), PySem.W.lex_one]
    rfl
  | _ :: _, [], _, _, _ => by
    simp only [toPys, ltBs, keyToksAll]
    rw [PySem.W.lex_atom (by decide), PySem.W.lex_one]
    rfl
  | x :: xs, y :: ys, hx, hy, ha => by
    unfold plains at hx hy
    rw [Bool.and_eq_true] at hx hy
    simp only [alikeBs, Bool.and_eq_true] at ha
    simp only [toPys, ltBs]
    rw [PySem.W.dataLt_cons (by rw [alike_py x y hx.1 hy.1]; exact ha.1), eqv_py x y hx.1 hy.1]
    by_cases e : eqB x y = true
    · rw [if_pos e, if_pos e]
      exact lts_py xs ys hx.2 hy.2 ha.2
    · rw [if_neg e, if_neg e]
      refine lt_py x y hx.1 hy.1 ha.1 fun z => ?_
      subst z
      cases y <;> simp [alikeB] at ha
      exact e rfl
end

/-! ### which lists can be sorted -/
def tupNe : D → Bool
  | .tup (_ :: _) => true
  | _ => false
def isTupB : D → Bool
  | .tup _ => true
  | _ => false
/-- all tuples with an item; or an empty tuple first, and tuples; or neither tuples nor None -/
def kindB (ds : List D) : Bool := match ds with
  | .tup [] :: _ => ds.all isTupB
  | .tup (_ :: _) :: _ => ds.all tupNe
  | .non :: _ => false
  | _ => ds.all fun d => !isTupB d
def allAlikeB (ds : List D) : Bool := ds.all fun x => ds.all fun y => alikeB x y
def sortOk (ds : List D) : Bool := plains ds && decide (deps ds ≤ 40) && decide (ds.length ≤ LIM) && allAlikeB ds && kindB ds
def sortedD : List D → Option D
  | [.lst ds] => if sortOk ds then some (.lst (sortBy ltB ds)) else none
  | [.tup ds] => if sortOk ds then some (.lst (sortBy ltB ds)) else none
  | _ => none
theorem toPys_map : ∀ ds : List D, toPys ds = ds.map toPy
  | [] => rfl
  | d :: ds => by unfold toPys; rw [toPys_map ds]; rfl
theorem plains_mem : ∀ {ds : List D}, plains ds = true → ∀ d ∈ ds, plain d = true
  | [], _, d, h => by cases h
  | x :: xs, p, d, h => by
    unfold plains at p
    rw [Bool.and_eq_true] at p
    rcases List.mem_cons.mp h with rfl | h
    · exact p.1
    · exact plains_mem p.2 d h
theorem deps_mem : ∀ {ds : List D} {d : D}, d ∈ ds → dep d ≤ deps ds
  | [], d, h => by cases h
  | x :: xs, d, h => by
    unfold deps
    rcases List.mem_cons.mp h with rfl | h
    · exact Nat.le_max_left _ _
    · exact Nat.le_trans (deps_mem h) (Nat.le_max_right _ _)
theorem dataLe_total : TotalLe (dataLe false toPy) := PySem.W.sortLe_total _ false _
theorem dataLe_is (a b : D) : dataLe false toPy a b = !dataLt (toPy b) (toPy a) := rfl
section
variable {prog : Program} {w : World} {A : Around} {E : Value → Shared → Prop} {s : Shared}
/-- the first items of tuples, where they have one -/
def FstAt (h : Heap) (v : Value) (f : Option Value) : Prop := ∃ a o xs n, v = .ref a ∧ h.get? a = some o ∧ o.cls = .type "tuple" ∧ o.data = .seq xs n ∧ xs[0]? = f
theorem firsts_opt {M : Model} {vs : List Value} {fs : List (Option Value)} (e : EachIs (FstAt s.heap) vs fs) : ∀ {Q : List (Option Value) → Shared → Prop}, Q fs s → wpAny M A (vs.mapM firstOfTuple') Q E s := by
  induction e with
  | nil => intro Q h; rw [List.mapM_nil]; exact wpAny_pure h
  | @cons v f vs fs hv _ ih =>
    intro Q h
    obtain ⟨a, o, xs, n, rfl, ho, hc, hd, hf⟩ := hv
    rw [List.mapM_cons]
    refine wpAny_bind ?_
    rw [PySem.W.kas_first_eq]
    refine wpAny_bind (wpAny_typeOf_ref ho ?_)
    rw [hc, if_neg (by simp)]
    refine wpAny_bind (listItems_at ho hd (wpAny_pure ?_))
    rw [hf]
    exact wpAny_bind (ih (wpAny_pure h))
theorem tup_call_lt {l b : Addr} {items items2 : Array Value} {e r : Nat → Bool} {Q : Value → Shared → Prop} (hl : s.heap.IsTuple l items) (hb : s.heap.IsTuple b items2)
    (he : ∀ j (h1 : j < items.size) (h2 : j < items2.size), SeqAt.EqAt A.in1 s items[j] items2[j] (e j)) (hr : ∀ j (h1 : j < items.size) (h2 : j < items2.size), e j = false → SeqAt.RcLt A.in1 s items[j] items2[j] (r j))
    (h : Q (.bool (SeqAt.firstLt e r (decide (items.size < items2.size)) (List.range (min items.size items2.size)))) s) : wpAny (model prog w) A (call (.builtin "tuple.__lt__") [.ref l, .ref b]) Q E s := by
  obtain ⟨⟨c1, d1, t1, s1⟩, o1, z1, n1, y1⟩ := id hl
  obtain ⟨⟨c2, d2, t2, s2⟩, o2, z2, n2, y2⟩ := id hb
  simp only at z1 y1 z2 y2
  subst z1 y1 z2 y2
  exact call_meets F.slot_tuple_lt ⟨_, o1, rfl⟩ F.entry_tuple_lt (F.args_tuple_lt_2 _ _) (SeqAt.tuple_ltAt l b items items2 n1 n2 d1 d2 s1 s2 e r) ⟨o1, o2, he, hr, h⟩
theorem fst_reads {h : Heap} {v : Value} {xs : List PyData} {as : List Addr} (r : Reads h v (.tuple xs) as) : ∃ f, FstAt h v f ∧ (xs = [] → f = none) := by
  cases r with
  | @tuple a o us n _ _ h1 h2 h3 h4 =>
    refine ⟨us[0]?, ⟨a, o, us, n, rfl, h1, h2, h3, rfl⟩, fun e => ?_⟩
    subst e
    have z : us.toList = [] := by
      generalize us.toList = l at h4
      cases h4
      rfl
    have z2 : us = #[] := by cases us; simp_all
    rw [z2]
    rfl
theorem each_fst {h : Heap} {vs : List Value} {ds : List PyData} (e : EachIs (fun v d => ∃ as, Reads h v d as) vs ds) (ht : ∀ d, d ∈ ds → ∃ xs, d = .tuple xs) : ∃ fs, EachIs (FstAt h) vs fs := by
  induction e with
  | nil => exact ⟨[], .nil⟩
  | @cons v d vs ds hv _ ih =>
    obtain ⟨as, r⟩ := hv
    obtain ⟨xs, rfl⟩ := ht d (by simp)
    obtain ⟨f, h1, _⟩ := fst_reads r
    obtain ⟨fs, h2⟩ := ih fun d hd => ht d (by simp [hd])
    exact ⟨f :: fs, .cons h1 h2⟩
/-- tuples, an empty one first -/
theorem sorts_empty {vs : List Value} {ds : List PyData} (e : EachIs (fun v d => ∃ as, Reads s.heap v d as) vs (.tuple [] :: ds)) (hal : AllAlike (.tuple [] :: ds)) (ht : ∀ d, d ∈ PyData.tuple [] :: ds → ∃ xs, d = .tuple xs) (hu : ∀ d, d ∈ PyData.tuple [] :: ds → A.units + d.depth < cLine) :
    SortsAt prog w A s (dataKind s.heap (.tuple [] :: ds)) vs := by
  refine ⟨fun v hv => ?_, oneType', ?_, fun h2 E Q hq => ?_⟩
  · obtain ⟨d, hd, as, r⟩ := e.left v hv
    exact ⟨_, PySem.W.dataKind_some hal hd r⟩
  · intro E x y a b Q ha hb hq
    obtain ⟨d, as, hd, ra, rfl⟩ := PySem.W.dataKind_inv ha
    obtain ⟨d', as', hd', rb, rfl⟩ := PySem.W.dataKind_inv hb
    have hdd := hal d hd d' hd'
    have hroom : A.units + min d.depth d'.depth < cLine := Nat.lt_of_le_of_lt (Nat.add_le_add_left (Nat.min_le_left _ _) _) (hu d hd)
    obtain ⟨xs, rfl⟩ := ht d hd
    obtain ⟨ys, rfl⟩ := ht d' hd'
    have hal2 : alikeAll xs ys = true := by simpa [alike] using hdd
    have hq' : Q (dataLt (.tuple xs) (.tuple ys)) s := hq
    cases ra with
    | @tuple l o us n _ as₁ h1 h2 h3 h4 =>
      cases rb with
      | @tuple l' o' us' n' _ bs₁ k1 k2 k3 k4 =>
        have n1 : us.size = xs.length := by simpa using SeqAt.ReadsAll.length _ _ _ h4
        have n2 : us'.size = ys.length := by simpa using SeqAt.ReadsAll.length _ _ _ k4
        rw [PySem.W.dataLt_tuple, ← PySem.W.firstLt_toks xs ys hal2, ← n1, ← n2] at hq'
        rw [keyLt'_oneType, oneLt'_eq]
        simp only [if_true]
        refine wpAny_bind (wpAny_cRoomFor (SeqAt.room_here hroom) ?_)
        refine wpAny_bind (wpAny_callSpecialIfBound?_slot (T := "tuple") ⟨_, h1, h2⟩ F.slot_tuple_lt (tup_call_lt (e := SeqAt.pairEq xs ys) (r := fun j => dataLt (xs.getD j .none) (ys.getD j .none)) ⟨_, h1, h2, _, h3⟩ ⟨_, k1, k2, _, k3⟩ (fun j j1 j2 => ?_) (fun j j1 j2 hj => ?_) (wpAny_truthy_bool hq')))
        · have := PySem.W.eqAt_alikeAll xs ys A.in1 s us.toList us'.toList _ _ h4 k4 hal2 (SeqAt.room_in hroom) j (by simpa using j1) (by simpa using j2)
          simpa using this
        · have := PySem.W.rcLt_alikeAll xs ys A.in1 s us.toList us'.toList _ _ h4 k4 hal2 (SeqAt.room_in hroom) j (by simpa using j1) (by simpa using j2) hj
          simpa using this
  · have hT : ∀ v ∈ vs, PySem.W.Looks (model prog w) s.heap (typeOf v) (.type "tuple") := fun v hv => by
      obtain ⟨d, hd, as, r⟩ := e.left v hv
      obtain ⟨xs, rfl⟩ := ht d hd
      exact PySem.W.looks_reads r
    cases e with
    | @cons v0 _ vs' _ r0 t =>
      obtain ⟨as, r⟩ := r0
      obtain ⟨f, h1, hf⟩ := fst_reads r
      obtain ⟨fs, h3⟩ := each_fst t fun d hd => ht d (by simp [hd])
      have ef := hf rfl
      subst ef
      rw [keyKind'_eq, List.mapM_toArray, map_eq_pure_bind]
      refine wpAny_bind (wpAny_bind (firsts_opt (.cons h1 h3) (wpAny_pure ?_)))
      rw [if_neg (by simp), if_neg (by simp)]
      rw [oneTypeOnly'_eq, List.mapM_toArray, map_eq_pure_bind]
      refine wpAny_bind (wpAny_bind (wpAny_bind (PySem.W.kas_mapM (r := .type "tuple") _ (fun v hv Q' hq => (hT v hv).here hq) (wpAny_pure ?_))))
      have z0 : (List.map (fun _ => Value.type "tuple") (v0 :: vs')).toArray[0]? = some (Value.type "tuple") := by simp
      have z1 : ((List.map (fun _ => Value.type "tuple") (v0 :: vs')).toArray.all fun x => x == Value.type "tuple") = true := by simp
      rw [z0]
      simp only [z1, if_true]
      exact wpAny_pure (wpAny_pure hq)
/-- a tuple's items, gathered -/
theorem gather_tup {b : Addr} {us : List Value} {QL : List Value → Shared → Prop} (tb : s.heap.IsTuple b us.toArray) (hn : us.length ≤ sizeLine)
    (hQ : QL us { s with heap := (s.heap.push (PyProof.Rows.seqObj "list" #[] 0)).update s.heap.objs.size (Obj.mapSeq (· ++ us.toArray)) }) : wpAny (model prog w) A (collect (.ref b)) QL E s := by
  obtain ⟨ob, gb, cb, m, db⟩ := id tb
  unfold collect
  refine wpAny_bind (wpAny_runValue (codeAny_builtin (PyProof.Rows.entry_proto_collect') ?_))
  show wpAny _ _ (do again (.builtin "list.__iadd__" ⟨[← newList [], .ref b], []⟩)) _ _ s
  refine wpAny_bind (wpAny_newList (wpAny_pure ⟨Code.quiet_builtin _ (by decide +kernel), codeAny_builtin PyProof.Rows.entry_list_iadd' ?_⟩))
  show wpAny _ _ (Builtin.List.listExtendWith (.ref s.heap.objs.size) (.ref b) (.ref s.heap.objs.size)) _ _ { s with heap := s.heap.push (PyProof.Rows.seqObj "list" #[] 0) }
  unfold Builtin.List.listExtendWith
  have gb' : (s.heap.push (PyProof.Rows.seqObj "list" #[] 0)).get? b = some ob := Heap.get?_push_of_some _ gb
  refine wpAny_bind (wpAny_typeOf (T := "tuple") ⟨ob, gb', cb⟩ ?_)
  have tt : (Value.type "tuple" == Value.type "tuple") = true := rfl
  rw [if_pos (by rw [tt, Bool.or_true])]
  refine wpAny_bind (PyProof.Rows.listItems_at gb' db ?_)
  refine wpAny_bind (PyProof.Rows.listItems_at (xs := #[]) (n := 0) (Heap.get?_push_size _ rfl) rfl ?_)
  rw [if_neg (by simp)]
  refine wpAny_bind (PyProof.Rows.listUpdate_at (xs := #[]) (n := 0) (Heap.get?_push_size _ rfl) rfl ?_ (Nat.zero_le _) (by show (#[] ++ us.toArray).size ≤ sizeLine + 1; simp only [Array.size_append, List.size_toArray, List.length_nil]; omega))
  refine wpAny_pure ?_
  show wpAny (model prog w) A (load s.heap.objs.size >>= fun oo => match oo.data with | .seq ys _ => pure ys.toList | _ => unsupported "internal:collect") QL E { s with heap := (s.heap.push (PyProof.Rows.seqObj "list" #[] 0)).update s.heap.objs.size (Obj.mapSeq (· ++ us.toArray)) }
  refine wpAny_bind (wpAny_load (PyProof.Rows.get?_update_seq (Heap.get?_push_size _ rfl) _) ?_)
  show wpAny _ _ (pure ((#[] : Array Value) ++ us.toArray).toList) QL E _
  have eu : ((#[] : Array Value) ++ us.toArray).toList = us := by simp
  rw [eu]
  exact wpAny_pure hQ
/-- sorted of a tuple: the list of its items, sorted -/
theorem sorted_tup {κ : PyProof.Rows.KeyKind} {b : Addr} {us : List Value} {QV : Value → Shared → Prop} (tb : s.heap.IsTuple b us.toArray) (S : PySem.W.SortsAt prog w A.in1.in1 { s with heap := PySem.W.sortingHeap (PySem.W.copyHeap s.heap us) (s.heap.objs.size + 1) us } κ us) (hn : us.length ≤ sizeLine)
    (hQ : QV (.ref (s.heap.objs.size + 1)) { s with heap := PyProof.Rows.sortedAll s.heap us (PySem.W.sortVals κ false us us).toArray }) : wpAny (model prog w) A (call (.builtin "sorted") [.ref b]) QV E s := by
  refine Calls.call_function_entry PyProof.Rows.kind_sorted PyProof.Rows.plain_sorted PyProof.Rows.entry_sorted (PyProof.Rows.args_sorted1 _) ?_
  unfold Builtin.«sorted»
  refine wpAny_bind (m := checkCount "sorted" 1 1 _) (wpAny_pure ?_)
  refine wpAny_bind (gather_tup tb hn (wpAny_bind (wpAny_newList ?_ hn)))
  have z1 : ((s.heap.push (PyProof.Rows.seqObj "list" #[] 0)).update s.heap.objs.size (Obj.mapSeq (· ++ us.toArray))).objs.size = s.heap.objs.size + 1 := by rw [Heap.size_update, PyProof.Rows.size_push']
  show wpAny _ _ _ _ _ { s with heap := PySem.W.copyHeap s.heap us }
  rw [z1]
  refine wpAny_bind (wpAny_holding (wpAny_call_entry PyProof.Rows.slot_list_sort ⟨_, PySem.W.copyHeap_at s.heap us, rfl⟩ PyProof.Rows.entry_list_sort ?_ (PyProof.Rows.args_list_sort _)))
  show wpAny (model prog w) A.in1.in1 (Builtin.«list.sort» ⟨[.ref (s.heap.objs.size + 1)], []⟩) _ _ _
  refine wpAny_mono (PySem.W.list_sort_vals (s := { s with heap := PySem.W.copyHeap s.heap us }) (P := fun f s' => f = .done (.ret .none) ∧ QV (.ref (s.heap.objs.size + 1)) s') (PySem.W.copyHeap_at s.heap us) S hn ⟨rfl, hQ⟩) (fun f s' hf => ?_) fun _ _ z => z
  obtain ⟨rfl, hq⟩ := hf
  exact ⟨_, rfl, wpAny_pure ⟨_, rfl, hq⟩⟩
theorem sorted_all {l : Addr} {vs : List Value} {ds : List D} {R : Value → D → Prop} {Q : Value → Shared → Prop} (hl : s.heap.IsList l vs.toArray ∨ s.heap.IsTuple l vs.toArray) (e : EachIs R vs ds) (er : EachIs (fun v d => ∃ as, Reads s.heap v (toPy d) as) vs ds) (ok : sortOk ds = true) (hu : A.units + 65 < cLine)
    (h : ∀ out, EachIs R out (sortBy ltB ds) → Q (.ref (s.heap.objs.size + 1)) { s with heap := sortedAll s.heap vs (List.toArray out) }) : wpAny (model prog w) A (call (.builtin "sorted") [.ref l]) Q E s := by
  unfold sortOk at ok
  simp only [Bool.and_eq_true, decide_eq_true_eq] at ok
  obtain ⟨⟨⟨⟨p1, p2⟩, p3⟩, p4⟩, p5⟩ := ok
  have al : ∀ x ∈ ds, ∀ y ∈ ds, alikeB x y = true := fun x hx y hy => List.all_eq_true.mp (List.all_eq_true.mp p4 x hx) y hy
  have hal : AllAlike (ds.map toPy) := fun d hd d' hd' => by
    obtain ⟨x, hx, rfl⟩ := List.mem_map.mp hd
    obtain ⟨y, hy, rfl⟩ := List.mem_map.mp hd'
    rw [alike_py x y (plains_mem p1 x hx) (plains_mem p1 y hy)]
    exact al x hx y hy
  have hL : ds.length ≤ sizeLine := LIM_line p3
  have hd : ∀ d ∈ ds, A.units + 2 + (toPy d).depth < cLine := fun d hd => by
    rw [dep_py]
    have := deps_mem hd
    omega
  have nn : ∀ x ∈ ds, x ≠ .non := fun x hx z => by
    subst z
    unfold kindB at p5
    cases ds with
    | nil => cases hx
    | cons d ds =>
      have q := al _ (List.mem_cons_self ..) _ hx
      cases d with
      | non => cases p5
      | _ => simp [alikeB] at q
  have es : sortBy ltB ds = ds.mergeSort (dataLe false toPy) := by
    rw [← show (sortBy (fun a b => dataLt (toPy a) (toPy b)) ds) = ds.mergeSort (dataLe false toPy) from sortBy_merge (lt := fun a b => dataLt (toPy a) (toPy b)) dataLe_total ds]
    exact sortBy_congr fun x hx y hy => (lt_py x y (plains_mem p1 x hx) (plains_mem p1 y hy) (al x hx y hy) (nn x hx)).symm
  have er' : EachIs (fun v b => ∃ as, Reads (PySem.W.sortingHeap (PySem.W.copyHeap s.heap vs) (s.heap.objs.size + 1) vs) v (toPy b) as) vs ds := er.mono fun _ _ ⟨as, r⟩ => ⟨as, PyProof.Rows.Reads.keeps (fun _ _ => PySem.W.sorting_copy_old) r⟩
  have em := PySem.W.each_map (R := fun v d => ∃ as, Reads (PySem.W.sortingHeap (PySem.W.copyHeap s.heap vs) (s.heap.objs.size + 1) vs) v d as) toPy er'
  have hS : SortsAt prog w A.in1.in1 { s with heap := PySem.W.sortingHeap (PySem.W.copyHeap s.heap vs) (s.heap.objs.size + 1) vs } (dataKind (PySem.W.sortingHeap (PySem.W.copyHeap s.heap vs) (s.heap.objs.size + 1) vs) (ds.map toPy)) vs := by
    have hb := PySem.W.bound_map (A := A.in1.in1) hd
    have byTup : (∀ d ∈ ds, isTupB d = true) → ∀ d ∈ ds.map toPy, ∃ xs, d = PyData.tuple xs := fun ht d hd => by
      obtain ⟨x, hx, rfl⟩ := List.mem_map.mp hd
      have z := ht x hx
      cases x with
      | tup xs => exact ⟨toPys xs, by unfold toPy; rfl⟩
      | _ => cases z
    unfold kindB at p5
    split at p5
    · rename_i rest
      have ht := byTup fun d hd => List.all_eq_true.mp p5 d hd
      exact sorts_empty (s := { s with heap := PySem.W.sortingHeap (PySem.W.copyHeap s.heap vs) (s.heap.objs.size + 1) vs }) em hal ht hb
    · refine PySem.W.SortsAt.data (s := { s with heap := PySem.W.sortingHeap (PySem.W.copyHeap s.heap vs) (s.heap.objs.size + 1) vs }) em hal (.inl fun d hd => ?_) hb
      obtain ⟨x, hx, rfl⟩ := List.mem_map.mp hd
      have z := List.all_eq_true.mp p5 x hx
      cases x with
      | tup xs =>
        cases xs with
        | nil => cases z
        | cons x xs => exact ⟨toPy x, toPys xs, by simp only [toPy, toPys]⟩
      | _ => cases z
    · cases p5
    · refine PySem.W.SortsAt.data (s := { s with heap := PySem.W.sortingHeap (PySem.W.copyHeap s.heap vs) (s.heap.objs.size + 1) vs }) em hal (.inr fun d hd => ?_) hb
      obtain ⟨x, hx, rfl⟩ := List.mem_map.mp hd
      have z := List.all_eq_true.mp p5 x hx
      have n := nn x hx
      have pp := plains_mem p1 x hx
      cases x <;> first | exact absurd rfl n | (cases z; done) | (unfold plain at pp; cases pp; done) | (simp [toPy]; done)
  have fin := h _ (by rw [es]; exact PySem.W.sortVals_data false e er' hal)
  have hL' : vs.length ≤ sizeLine := by rw [e.length]; exact hL
  rcases hl with hl | hl
  · exact PySem.W.sorted_vals hl hS hL' fin
  · exact sorted_tup hl hS hL' fin
end
section
variable {X : Cx}
theorem sorted_core (hu : X.A.units + 65 < cLine) {pins : List (Addr × Obj)} {s : Shared} {σ : L2.St} {H : Hp} {Q : VK} {a : Addr} {vs : List V} {its : List Value} {ds : List D} (I : Inv X pins σ H s) (hl : s.heap.IsList a its.toArray ∨ s.heap.IsTuple a its.toArray) (rv : Vals vs its) (rs : Reps X.K H vs ds) (ok : sortOk ds = true)
    (q : ∀ v H', Same H H' → Rep X.K H' v (.lst (sortBy ltB ds)) → Q v H') : wpAny (model X.prog X.w) X.A (call (.builtin "sorted") [.ref a]) (EP X pins σ Q) X.xe s := by
  have pl : plains ds = true := by
    unfold sortOk at ok
    simp only [Bool.and_eq_true] at ok
    exact ok.1.1.1.1
  have e1 : ∀ {vs : List V} {its : List Value} {ds : List D}, Vals vs its → Reps X.K H vs ds → EachIs (fun u d => ∃ v, RelV v u ∧ Rep X.K H v d) its ds := by
    intro vs its ds rv
    induction rv generalizing ds with
    | nil => intro rs; cases rs; exact .nil
    | cons h1 _ ih => intro rs; cases rs with | cons h2 rs => exact .cons ⟨_, h1, h2⟩ (ih rs)
  have e2 : ∀ {vs : List V} {its : List Value} {ds : List D}, Vals vs its → Reps X.K H vs ds → plains ds = true → EachIs (fun u d => ∃ as, Reads s.heap u (toPy d) as) its ds := by
    intro vs its ds rv
    induction rv generalizing ds with
    | nil => intro rs _; cases rs; exact .nil
    | cons h1 _ ih =>
      intro rs p
      cases rs with
      | cons h2 rs =>
        unfold plains at p
        rw [Bool.and_eq_true] at p
        exact .cons (Rep.reads I h2 p.1 h1) (ih rs p.2)
  have e3 : ∀ {out : List Value} {ds : List D}, EachIs (fun u d => ∃ v, RelV v u ∧ Rep X.K H v d) out ds → ∃ vs, Vals vs out ∧ Reps X.K H vs ds := by
    intro out ds e
    induction e with
    | nil => exact ⟨[], .nil, .nil⟩
    | cons h1 _ ih =>
      obtain ⟨v, h2, h3⟩ := h1
      obtain ⟨vs, h4, h5⟩ := ih
      exact ⟨v :: vs, .cons h2 h4, .cons h3 h5⟩
  refine sorted_all (s := s) hl (e1 rv rs) (e2 rv rs pl) ok hu fun out eo => ?_
  obtain ⟨ws, h4, h5⟩ := e3 eo
  obtain ⟨ep, hat⟩ := sortedAll_at s.heap its (List.toArray out)
  have hsz : s.heap.objs.size ≤ s.heap.objs.size + 1 := Nat.le_succ _
  have hn : H (s.heap.objs.size + 1) = none := I.hok.fresh hsz
  have hlen : ws.length ≤ sizeLine := by
    rw [h5.length, ← eo.length]
    have z1 := eo.length
    have z2 : (sortBy ltB ds).length = ds.length := by
      have : ∀ (x : D) (l : List D), (insBy ltB x l).length = l.length + 1 := by
        intro x l
        induction l with
        | nil => rfl
        | cons y l ih => unfold insBy; split <;> simp [ih]
      clear eo z1 ok e1 e2 e3 rs rv pl q h5 h4 hat
      induction ds with
      | nil => rfl
      | cons d ds ih => unfold sortBy; rw [this, ih]; rfl
    rw [z1, z2]
    unfold sortOk at ok
    simp only [Bool.and_eq_true, decide_eq_true_eq] at ok
    exact LIM_line ok.1.1.2
  have I2 : Inv X pins σ (upd H (s.heap.objs.size + 1) (.lst ws)) { s with heap := sortedAll s.heap its (List.toArray out) } := I.laid (t' := s.toks) (fun b o z => sortedAll_old z) hsz ⟨hlen, out, ep, h4, hat⟩
  obtain ⟨o, I3⟩ := I2.lock upd_same trivial
  rw [upd_upd] at I3
  refine ⟨.ref (s.heap.objs.size + 1), _, I3, rfl, q _ _ (snew hn) (.lst ⟨o, upd_same⟩ (h5.mono (sext (snew hn))))⟩
theorem sorted_ok (hu : X.A.units + 65 < cLine) : CallP X (.builtin "sorted") sortedD := by
  intro pins s σ H xs us Q I r h
  obtain ⟨ds, d, rr, e, q⟩ := h
  unfold sortedD at e
  split at e
  · rename_i ds
    split at e
    · rename_i ok
      cases e
      obtain ⟨x, rfl, a, vs, rfl, hl, rs⟩ := reps1 rr
      obtain ⟨u, rfl, ru⟩ : ∃ u, us = [u] ∧ RelV (.ref a) u := by
        cases r with
        | cons a b => cases b; exact ⟨_, rfl, a⟩
      cases ru
      obtain ⟨z, its, n, rv, ho⟩ := rd_list I hl
      exact sorted_core hu I (.inl ⟨_, ho, rfl, n, rfl⟩) rv rs ok q
    · cases e
  · rename_i ds
    split at e
    · rename_i ok
      cases e
      obtain ⟨x, rfl, rx⟩ := reps1 rr
      have rx : Rep X.K H x (.tup ds) := rx
      cases rx with
      | tup hT rs =>
        obtain ⟨u, rfl, ru⟩ := vals1 r
        cases ru
        obtain ⟨its, rv, pt, hz⟩ := I.tuple hT.sq
        exact sorted_core hu I (.inr pt) rv rs ok q
    · cases e
  · cases e
end
end PI

set_option maxHeartbeats 1000000
/-! PI, part t: raise, try. -/
namespace PI
open PySem L2 PyProof.Rows
def raiseS (c : Nat) (m : Env' → M D) : SM := fun env s => match m env s with
  | .ok d s' => match frz d s' with
    | .ok d s'' => if pureB d then .exc c d env s'' else .stuck
    | _ => .stuck
  | .exc c f s' => .exc c f env s'
  | .stuck => .stuck
/-- except c as (slot i): slot j = repr(e.f) -/
def tryRS (c : Nat) (no : List Nat) (i j : Nat) (b : SM) : SM := fun env s => match b env s with
  | .exc c' f env' s' => if c' = c then (match reprD [f], decide (i < env'.length) with
      | some d, true => .nx (((env'.set i none).set j (some d)).set i none) s'
      | _, _ => .stuck) else if no.contains c' then .exc c' f env' s' else .stuck
  | r => r
section
variable {X : Cx} {xc : XC} {W : WX}
theorem pds_raise {x : Str} {c : Nat} {e : Expr} {p pos pos' : Pos} {m : Env' → M D} (hc : X.calm = true) (tk : Takes X W) (S : SupC X.prog X.K (xc.cls c) (xc.fld c)) (hr : Room 1 X.A) (hg : Gl X x) (hm : X.mg x = some (.ref (xc.cls c))) (hms : X.mg "super" = none) (he : PE X e (tE X.K xc W m))
    (hdb : (x == ("__debug__" : Str)) = false) (hst : starEach [e] X.env = [(false, eval e X.env)]) : PS X (.Raise (some (.Call (.Name x p) [e] [] pos)) none pos') (tS X.K xc W (raiseS c m)) :=
  psimp (ps_raise hc tk (pmk_sup S hr hg hm hms (pd_frz he) hdb hst)) fun E σ H ⟨w, env, s, rel, q⟩ => by
    unfold raiseS at q
    refine ⟨w, env, s, rel, ?_⟩
    show Post X.K xc W σ w H _ (M.bnd (m env) frz s)
    unfold M.bnd
    cases z : m env s with
    | ok d s' =>
      rw [z] at q
      dsimp only at q ⊢
      cases z2 : frz d s' with
      | ok d2 s2 =>
        rw [z2] at q
        dsimp only at q
        split at q
        · rename_i hp
          intro v H' w' g t r dx hdx
          have sm : Same H' (upd H' dx (.xd [(xc.fld c, v)])) := snew hdx
          exact q dx v σ _ w' (g.trans (sgo sm)) ((rel.go g t).go (sgo sm) (t.same sm)) upd_same ((r.pure hp).mono (sext sm))
        · exact q.elim
      | exc _ _ _ => rw [z2] at q; exact q.elim
      | stuck => rw [z2] at q; exact q.elim
    | exc c' f s' => rw [z] at q; exact exc_post rel q
    | stuck => rw [z] at q; exact q
theorem Rel.unset {K : PySem.W.Frag} {w : Wd} {env : Env'} {s : SS} {σ : L2.St} {H : Hp} (r : Rel K w env s σ H) (i : Nat) (x : Option V) : Rel K w (env.set i none) s (σ.set i x) H := by
  refine ⟨by rw [List.length_set, List.length_set]; exact r.len, fun j d h => ?_, r.st⟩
  by_cases hj : i = j
  · subst hj
    by_cases hi : i < env.length
    · rw [List.getElem?_set_self hi] at h; cases h
    · rw [List.getElem?_eq_none (by rw [List.length_set]; omega)] at h; cases h
  · rw [List.getElem?_set_ne hj] at h
    rw [List.getElem?_set_ne hj]
    exact r.sl j d h
theorem pds_tryR {x n y : Str} {c : Nat} {no : List Nat} {i j : Nat} {body : List Stmt} {np pos pos' p1 p2 p3 p4 p5 py : Pos} {mb : SM} (hs : X.stack = X.env :: X.outer) (hfr : X.env.frame = some X.env.locals) (hN : X.N.Nodup) (hi : X.N[i]? = some n) (hln : X.env.kindOf n = some .local) (hj : X.N[j]? = some y) (hlj : X.env.scope.names.lookup y = some .local)
    (hnm : Names X x (.ref (xc.cls c))) (tk : Takes X W) (hu : X.A.units + 65 < cLine) (hgd : X.A.guards = some []) (hyes : PySem.W.exmOne X.K (.ref (xc.cls c)) (.ref (xc.cls c)) = some true) (hno : ∀ c' ∈ no, PySem.W.exmOne X.K (.ref (xc.cls c')) (.ref (xc.cls c)) = some false)
    (hxf : XfC X.K (xc.cls c)) (hfl : PySem.W.findIn X.K (.ref (xc.cls c)) (xc.fld c) = some none) (hgr : Gl X "repr") (hmr : X.mg "repr" = none)
    (hd1 : (n == ("__debug__" : Str)) = false) (hd2 : (n == ("__classdict__" : Str)) = false)
    (hsw : ∀ env : Env, swapsWith (.Call (.Name "repr" p1) [.Attribute (.Name n p2) (xc.fld c) p3] [] p4) (some (.Name y py)) p5.line env = pure false)
    (hb : ∀ (W' : WX) (pn : List (Addr × Obj)) (xe : Value → Shared → Prop), Takes (X.tr pn xe) W' → PassesOwn (model X.prog X.w) X.A X.env xe → PSs (X.tr pn xe) body (tS X.K xc W' mb)) :
    PS X (.Try body [.ExceptHandler (some (.Name x np)) (some n) [.Assign [.Name y py] (.Call (.Name "repr" p1) [.Attribute (.Name n p2) (xc.fld c) p3] [] p4) p5] pos'] [] [] pos) (tS X.K xc W (tryRS c no i j mb)) := by
  have suite : ∀ (a : Addr) (oe : Obj) (cls : Value) (d : Option Addr) (pn : List (Addr × Obj)), Zc cls d oe → (∃ vs, oe.data = .fields vs) →
      PSs (X.suite a ((a, oe) :: pn)) [.Assign [.Name y py] (.Call (.Name "repr" p1) [.Attribute (.Name n p2) (xc.fld c) p3] [] p4) p5] (tAsg (tCB (fun xs H Q => ∃ ds d, RepRs X.K H xs ds ∧ reprD ds = some d ∧ ∀ v H', Same H H' → Rep X.K H' v d → Q v H') (tCons (tXf a cls d (xc.cls c) (xc.fld c) (tVar i)) tNil)) (gName j)) := by
    intro a oe cls d pn hz hf
    refine pss_one (ps_set (X := X.suite a ((a, oe) :: pn)) hN hj (.inl hlj) (pe_callB (repr_ok (X := X.suite a ((a, oe) :: pn)) hgd hu) hgr hmr (by decide +kernel) (pa_cons (pe_xf hxf hfl hz hf (pe_var hi (.inl hln) hd1 hd2)) pa_nil)) (hsw _) (.inr hlj))
  refine psimp (ps_try_as hs hfr hN hi hln hnm tk hb suite) fun E σ H ⟨w, env, s, rel, q⟩ => ?_
  refine ⟨w, env, s, rel, ?_⟩
  unfold tryRS at q
  cases z : mb env s with
  | exc c' f env' s' =>
    rw [z] at q
    dsimp only at q
    intro xa v σ' H' w' g rel' ex rv
    split at q
    · rename_i hcc
      subst hcc
      refine ⟨true, hyes, fun _ a na => ?_, fun h => nomatch h⟩
      cases z2 : reprD [f] with
      | none => rw [z2] at q; exact q.elim
      | some d =>
        rw [z2] at q
        by_cases hil' : i < env'.length
        case neg => rw [decide_eq_false hil'] at q; exact q.elim
        rw [decide_eq_true hil'] at q
        have hil : i < σ'.length := by rw [← rel'.len]; exact hil'
        refine ⟨.ref a, List.getElem?_set_self hil, rfl, rfl, xa, [(xc.fld c', v)], v, rfl, ex, by simp, [f], d, .cons rv.rd .nil, z2, fun u H2 sm ru => ?_⟩
        have rel2 : Rel X.K w' (env'.set i none) s' (σ'.set i (some (.ref a))) H2 := (rel'.unset i _).go (sgo sm) (rel'.st.same sm)
        exact q _ H2 w' (g.trans (sgo sm)) ((rel2.set (i := j) (.of ru)).unset i none)
    · split at q
      · rename_i hcc hin
        refine ⟨false, hno c' (by simpa using hin), (fun h => nomatch h), fun _ => ?_⟩
        exact q xa v σ' H' w' g rel' ex rv
      · exact q.elim
  | nx env' s' => rw [z] at q; exact q
  | rt d s' => rw [z] at q; exact q
  | brk env' s' => rw [z] at q; exact q
  | cont env' s' => rw [z] at q; exact q
  | stuck => rw [z] at q; exact q
end
end PI

set_option maxHeartbeats 2000000
/-! PI, part tm: try with several clauses that bind one name. -/
namespace PI
open PySem PySem.Spec L2 PyProof.Rows
/-- the ends of a suite behind which the name in slot i is gone -/
def offEnds (i : Nat) (D : Ends) : Ends := { nx := fun σ' H' => D.nx (σ'.set i none) H', rt := D.rt, bk := fun σ' H' => D.bk (σ'.set i none) H', ct := fun σ' H' => D.ct (σ'.set i none) H' }
abbrev Cl := Value × (Addr → Value → Option Addr → TS)
/-- what clauses 'except x as n' wish, one behind the other -/
def wMas (K : PySem.W.Frag) (Wo : WX) (i : Nat) (D : Ends) : List Cl → WX
  | [] => Wo
  | (c, ts) :: r => fun cls d σ H => ∃ b, PySem.W.exmOne K cls c = some b ∧ (b = true → ∀ a, H a = none → ts a cls d (offEnds i D) (σ.set i (some (.ref a))) H) ∧ (b = false → wMas K Wo i D r cls d σ H)
inductive MasOk (X : Cx) (n : Str) : List ExceptHandler → List Cl → Prop
  | nil : MasOk X n [] []
  | cons {x : Str} {c : Value} {ts : Addr → Value → Option Addr → TS} {b₀ : Stmt} {su : List Stmt} {np p' : Pos} {hs : List ExceptHandler} {l : List Cl} (hc : Names X x c)
      (hsu : ∀ (a : Addr) (oe : Obj) (cls : Value) (d : Option Addr) (pn : List (Addr × Obj)), Zc cls d oe → (∃ vs, oe.data = .fields vs) → PSs (X.suite a ((a, oe) :: pn)) (b₀ :: su) (ts a cls d)) (r : MasOk X n hs l) :
      MasOk X n (.ExceptHandler (some (.Name x np)) (some n) (b₀ :: su) p' :: hs) ((c, ts) :: l)
section
variable {X : Cx} {body : List Stmt} {k₀ : ExceptHandler} {ks : List ExceptHandler} {l : List Cl} {pos : Pos} {tb : WX → TS} {Wo : WX} {n : Str} {i : Nat}
theorem ps_try_mas (stk : X.stack = X.env :: X.outer) (frm : X.env.frame = some X.env.locals) (nd : X.N.Nodup) (at_ : X.N[i]? = some n) (kd : X.env.kindOf n = some .local) (tk : Takes X Wo)
    (hb : ∀ (W : WX) (pn : List (Addr × Obj)) (xe : Value → Shared → Prop), Takes (X.tr pn xe) W → PassesOwn (model X.prog X.w) X.A X.env xe → PSs (X.tr pn xe) body (tb W))
    (hk : MasOk X n (k₀ :: ks) l) : PS X (.Try body (k₀ :: ks) [] [] pos) (fun D σ H => tb (wMas X.K Wo i D l) D σ H) := by
  refine ⟨fun pins s σ H D I hw => wpAny_Try_except ?_⟩
  have okX := I.ok
  have frs1 : X.A.frames = some (X.env :: X.outer) := by rw [okX.frames, stk]
  refine wpAny_mono ((hb (wMas X.K Wo i D l) (X.pn ++ pins) (fun ex z₁ => wpAny (model X.prog X.w) X.A (noteFrame ex X.env) (fun _ z₂ => wpAny (model X.prog X.w) X.A (setFlight ex none) (fun _ z₃ => wpAny (model X.prog X.w) X.A (handleBy ex X.env (k₀ :: ks)) (SP X pins D) X.xe z₃) X.xe z₂) X.xe z₁) (fun u s' xx => ?_) PassesOwn.looking).run [] s σ H D (I.toTry _) hw) (fun fl z1 sp => ?_) (fun ex z1 he => he)
  · obtain ⟨ad, bk, sI, pins', τ, G, cls, dd, rfl, J0, nb, up, sk0, fresh, os, ag, wish⟩ := xx
    have J : Inv X pins τ G sI := J0.ofTry okX
    show wpAny (model X.prog X.w) X.A (noteFrame (.ref ad) X.env) _ _ _
    refine Sky.land Zc.steady frs1 frm (by rw [← stk]; exact sk0) fun g3 f3 u3 => ?_
    have J3 : Inv X pins τ G { s' with heap := g3 } := J.landed nb f3.1 (up.trans u3) os ag
    obtain ⟨e3, v3, t3, z3, d3⟩ := f3.there
    have outF : ad ∉ frs (X.env :: X.outer) := fun hm => by
      obtain ⟨_, o', q1, q2⟩ := f3.2.2.1.mem hm
      rw [t3] at q1; cases q1; exact q2 _ d3
    have nL : ad ≠ X.env.locals := fun q => outF (List.mem_filterMap.mpr ⟨X.env, List.mem_cons_self, by rw [frm, q]⟩)
    have nF : ad ∉ X.fs := fun hm => by
      obtain ⟨e, q1, q2⟩ := List.mem_filterMap.mp hm
      exact outF (List.mem_filterMap.mpr ⟨e, List.mem_cons_of_mem _ q1, q2⟩)
    have S3 := J3.suite t3 d3 fresh nL nF
    have walk : ∀ {ks' : List ExceptHandler} {l' : List Cl}, MasOk X n ks' l' → wMas X.K Wo i D l' cls dd τ G → wpAny (model X.prog X.w) X.A (handleBy (.ref ad) X.env ks') (SP X pins D) X.xe { s' with heap := g3 } := by
      intro ks' l' mk
      induction mk with
      | nil =>
        intro wish
        refine wpAny_handleBy_nil ?_
        obtain ⟨k1, k2, k3, oe, vs, T, oT, ts', he, hz, hd, h1, hr⟩ := id f3
        unfold PySem.passOn
        refine wpAny_bind (wpAny_field he hd h1 ?_)
        rw [if_neg (by simp : ¬ ((Value.ref T == Value.none) = true))]
        have last : wpAny (model X.prog X.w) X.A (setFlight (.ref ad) X.env.frame) (fun _ z4 => wpAny (model X.prog X.w) X.A (throw (.ref ad) : Sem Flow) (SP X pins D) X.xe z4) X.xe { s' with heap := g3 } := by
          rw [frm]
          exact HandSPX.setFlight_upZ f3 fun g4 q4 u4 => wpAny_throw (tk _ _ ⟨ad, bk, sI, pins, τ, G, cls, dd, rfl, J, nb, (up.trans u3).trans u4, .inr (.inr (by rw [stk]; exact q4)), fresh, os, ag, wish⟩)
        first | exact wpAny_bind (wpAny_pure (wpAny_bind last)) | exact wpAny_bind last
      | @cons x c ts b₀ su np p' hs2 l2 hc hsu r ih =>
        intro wish
        obtain ⟨b, one, yes, no⟩ := wish
        refine wpAny_handleBy_cons (codeAny_handlers_test ?_) (by intro q; cases q)
        have ty : PySem.W.Looks (model X.prog X.w) g3 (typeOf (.ref ad)) cls := fun A Q E z k q => wpAny_typeOf_ref (k _ _ t3) (by rw [z3.1]; exact q)
        have lm := PySem.W.exm_one (M := model X.prog X.w) (J3.kIn) ty one
        have ask : ∀ {Q : Value → Shared → Prop} {E : Value → Shared → Prop}, Q c { s' with heap := g3 } → wpAny (model X.prog X.w) (X.A.mark (some (.ref ad))) (eval (.Name x np) X.env) Q E { s' with heap := g3 } := fun {Q E} q => by
          obtain ⟨p1, p2, p3 | ⟨p3, p4, p5⟩⟩ := hc
          · exact ld_glob (X := X.suite ad ((ad, e3) :: (X.pn ++ pins))) S3 p1 p3 q p2
          · exact ld_blt (X := X.suite ad ((ad, e3) :: (X.pn ++ pins))) S3 p1 p3 p4 q p5 p2
        refine ask (lm.here ?_)
        cases b with
        | false => exact (show wpAny _ X.A (handleBy (.ref ad) X.env hs2) _ _ _ from ih (no rfl))
        | true =>
          refine codeAny_handlers_suite_as (HandSPX.lands_againZ f3 fun g4 f4 u4 => ?_)
          obtain ⟨e4, v4, t4, z4, d4⟩ := f4.there
          have S4 := (J.landed nb f4.1 ((up.trans u3).trans u4) os ag : Inv X pins τ G { s' with heap := g4 }).suite t4 d4 fresh nL nF
          refine store_ok (X := X.suite ad ((ad, e4) :: (X.pn ++ pins))) (v := .ref ad) S4 nd at_ (.inl kd) rfl (fun z5 S5 => ?_) (.inr kd)
          refine wpAny_mono ((hsu ad e4 cls dd (X.pn ++ pins) z4 ⟨_, d4⟩).run [] z5 _ G _ S5 (yes rfl ad fresh)) (fun fw z6 sp => ?_) (fun _ _ q => q.elim)
          have off : ∀ {σ6 : L2.St} {H6 : Hp} {Q : Shared → Prop}, Inv (X.suite ad ((ad, e4) :: (X.pn ++ pins))) [] σ6 H6 z6 → (∀ z7, Inv X pins (σ6.set i none) H6 z7 → Q z7) → wpAny (model X.prog X.w) X.A (do bindName X.env n .none; unbindBehindTheSuite X.env n p') (fun _ z7 => Q z7) X.xe z6 := fun {σ6 H6 Q} S6 hq => gone_ok (S6.unsuite okX) nd at_ kd hq
          cases fw with
          | ret u => (obtain ⟨v6, σ6, H6, S6, r6, q6⟩ := sp; exact off S6 fun z7 J7 => ⟨_, _, _, J7, r6, q6⟩)
          | next => (obtain ⟨σ6, H6, S6, q6⟩ := sp; exact off S6 fun z7 J7 => ⟨_, _, J7, q6⟩)
          | brk => (obtain ⟨σ6, H6, S6, q6⟩ := sp; exact off S6 fun z7 J7 => ⟨_, _, J7, q6⟩)
          | cont => (obtain ⟨σ6, H6, S6, q6⟩ := sp; exact off S6 fun z7 J7 => ⟨_, _, J7, q6⟩)
    exact walk hk wish
  · cases fl with
    | next => (obtain ⟨τ, G, J, q⟩ := sp; exact wpAny_execs_nil ⟨τ, G, J.ofTry okX, q⟩)
    | brk => (obtain ⟨τ, G, J, q⟩ := sp; exact ⟨τ, G, J.ofTry okX, q⟩)
    | cont => (obtain ⟨τ, G, J, q⟩ := sp; exact ⟨τ, G, J.ofTry okX, q⟩)
    | ret u => (obtain ⟨v, τ, G, J, r, q⟩ := sp; exact ⟨v, τ, G, J.ofTry okX, r, q⟩)
end
end PI

set_option maxHeartbeats 2000000
/-! PI, part tn: try .. except X as e: return what is told of e's field. -/
namespace PI
open PySem PySem.Spec L2 PyProof.Rows
def hkD : HK → D → Option D
  | .tagR k, f => (reprD [f]).map fun r => .tup [.str k, r]
  | .lstF, f => some (.lst [f])
  | .lstR, f => (reprD [f]).map fun r => .lst [r]
def tryHS (hs : List (Nat × HK)) (i : Nat) (b : SM) : SM := fun env s => match b env s with
  | .exc c f env' s' => if i < env'.length then (match hs.lookup c with
    | some h => match hkD h f with
      | some d => .rt d s'
      | none => .stuck
    | none => .stuck) else .stuck
  | r => r
abbrev tRx (K : PySem.W.Frag) (a : Addr) (cls : Value) (d : Option Addr) (C : Addr) (fl : Str) (i : Nat) : TE := tCB (fun xs H Q => ∃ ds d, RepRs K H xs ds ∧ reprD ds = some d ∧ ∀ v H', Same H H' → Rep K H' v d → Q v H') (tCons (tXf a cls d C fl (tVar i)) tNil)
section
variable {X : Cx} {xc : XC} {W : WX}
theorem hk_tag {n k fl : Str} {C a : Addr} {i : Nat} {oe : Obj} {cls : Value} {d : Option Addr} {pn : List (Addr × Obj)} {p1 p2 p3 p4 p5 p6 p7 : Pos} {kt : Nat} (hu : X.A.units + 65 < cLine) (hgd : X.A.guards = some []) (hgr : Gl X "repr") (hmr : X.mg "repr" = none) (hi : X.N[i]? = some n) (hln : X.env.kindOf n = some .local) (hxf : XfC X.K C) (hfl : PySem.W.findIn X.K (.ref C) fl = some none)
    (hd1 : (n == ("__debug__" : Str)) = false) (hd2 : (n == ("__classdict__" : Str)) = false) (hz : Zc cls d oe) (hf : ∃ vs, oe.data = .fields vs) {c0 : Nat} :
    PSs (X.suite a ((a, oe) :: pn)) [.Return (some (.Tuple [.Constant (.str k) c0 p6, .Call (.Name "repr" p1) [.Attribute (.Name n p2) fl p3] [] p4] kt p5)) p7] (tRet (tTup (tCons (tC (.str k)) (tCons (tRx X.K a cls d C fl i) tNil)))) :=
  pss_one (ps_ret (pe_tup (pa_cons pe_str (pa_cons (pe_callB (repr_ok (X := X.suite a ((a, oe) :: pn)) hgd hu) hgr hmr (by decide +kernel) (pa_cons (pe_xf hxf hfl hz hf (pe_var hi (.inl hln) hd1 hd2)) pa_nil)) pa_nil))))
theorem hk_lstR {n fl : Str} {C a : Addr} {i : Nat} {oe : Obj} {cls : Value} {d : Option Addr} {pn : List (Addr × Obj)} {p1 p2 p3 p4 p5 p7 : Pos} (hu : X.A.units + 65 < cLine) (hgd : X.A.guards = some []) (hgr : Gl X "repr") (hmr : X.mg "repr" = none) (hi : X.N[i]? = some n) (hln : X.env.kindOf n = some .local) (hxf : XfC X.K C) (hfl : PySem.W.findIn X.K (.ref C) fl = some none)
    (hd1 : (n == ("__debug__" : Str)) = false) (hd2 : (n == ("__classdict__" : Str)) = false) (hz : Zc cls d oe) (hf : ∃ vs, oe.data = .fields vs) :
    PSs (X.suite a ((a, oe) :: pn)) [.Return (some (.List [.Call (.Name "repr" p1) [.Attribute (.Name n p2) fl p3] [] p4] p5)) p7] (tRet fun σ H Q => tLst (tCons (tRx X.K a cls d C fl i) tNil) σ H (FrQ Q)) :=
  pss_one (ps_ret (pfrz (pe_lst (pa_cons (pe_callB (repr_ok (X := X.suite a ((a, oe) :: pn)) hgd hu) hgr hmr (by decide +kernel) (pa_cons (pe_xf hxf hfl hz hf (pe_var hi (.inl hln) hd1 hd2)) pa_nil)) pa_nil))))
theorem hk_lstF {n fl : Str} {C a : Addr} {i : Nat} {oe : Obj} {cls : Value} {d : Option Addr} {pn : List (Addr × Obj)} {p2 p3 p5 p7 : Pos} (hi : X.N[i]? = some n) (hln : X.env.kindOf n = some .local) (hxf : XfC X.K C) (hfl : PySem.W.findIn X.K (.ref C) fl = some none)
    (hd1 : (n == ("__debug__" : Str)) = false) (hd2 : (n == ("__classdict__" : Str)) = false) (hz : Zc cls d oe) (hf : ∃ vs, oe.data = .fields vs) :
    PSs (X.suite a ((a, oe) :: pn)) [.Return (some (.List [.Attribute (.Name n p2) fl p3] p5)) p7] (tRet fun σ H Q => tLst (tCons (tXf a cls d C fl (tVar i)) tNil) σ H (FrQ Q)) :=
  pss_one (ps_ret (pfrz (pe_lst (pa_cons (pe_xf hxf hfl hz hf (pe_var hi (.inl hln) hd1 hd2)) pa_nil))))
theorem lookup_mem {c : Nat} {h : HK} : ∀ {hs : List (Nat × HK)}, hs.lookup c = some h → (c, h) ∈ hs
  | [], e => by cases e
  | (c1, h1) :: hs, e => by
    rw [List.lookup_cons] at e
    cases ec : c == c1 with
    | true => rw [ec] at e; cases e; rw [eq_of_beq ec]; exact List.mem_cons_self
    | false => rw [ec] at e; exact List.mem_cons_of_mem _ (lookup_mem e)
/-- the reading of a clause's suite -/
def tsH (K : PySem.W.Frag) (xc : XC) (i c : Nat) : HK → Addr → Value → Option Addr → TS
  | .tagR k, a, cls, d => tRet (tTup (tCons (tC (.str k)) (tCons (tRx K a cls d (xc.cls c) (xc.fld c) i) tNil)))
  | .lstR, a, cls, d => tRet fun σ H Q => tLst (tCons (tRx K a cls d (xc.cls c) (xc.fld c) i) tNil) σ H (FrQ Q)
  | .lstF, a, cls, d => tRet fun σ H Q => tLst (tCons (tXf a cls d (xc.cls c) (xc.fld c) (tVar i)) tNil) σ H (FrQ Q)
theorem tsH_read {K : PySem.W.Frag} {i c : Nat} {h : HK} {f r : D} {a xa : Addr} {v : V} {E : Ends} {σ : L2.St} {H : Hp} {w : Wd} {s : SS} (hr : hkD h f = some r) (hi : i < σ.length) (st : Sto K w s H) (ex : H xa = some (.xd [(xc.fld c, v)])) (rv : Rep K H v f)
    (q : ∀ u H' w', Go w H w' H' → Sto K w' s H' → RepT K w' H' u r → E.rt u H') : tsH K xc i c h a (.ref (xc.cls c)) (some xa) (offEnds i E) (σ.set i (some (.ref a))) H := by
  have two : ∀ {u : V} {H1 H2 : Hp} {d : D}, Same H H1 → Same H1 H2 → Rep K H2 u d → d = r → E.rt u H2 := fun {u H1 H2 d} s1 s2 ru e => by
    subst e
    exact q u H2 w ((sgo s1).trans (sgo s2)) ((st.same s1).same s2) (.of ru)
  cases h with
  | tagR k =>
    cases e : reprD [f] with
    | none => rw [hkD, e] at hr; cases hr
    | some d =>
      rw [hkD, e] at hr
      have hr : D.tup [.str k, d] = r := Option.some.inj hr
      refine ⟨.ref a, List.getElem?_set_self hi, rfl, rfl, xa, [(xc.fld c, v)], v, rfl, ex, by simp, [f], d, .cons rv.rd .nil, e, fun u H2 sm ru => ⟨(show 2 ≤ sizeLine by decide), fun p hp => ?_⟩⟩
      exact tup_new hp (.cons (.str k) (.cons ru .nil)) fun u3 H3 s3 r3 => two sm s3 r3 hr
  | lstR =>
    cases e : reprD [f] with
    | none => rw [hkD, e] at hr; cases hr
    | some d =>
      rw [hkD, e] at hr
      have hr : D.lst [d] = r := Option.some.inj hr
      refine ⟨.ref a, List.getElem?_set_self hi, rfl, rfl, xa, [(xc.fld c, v)], v, rfl, ex, by simp, [f], d, .cons rv.rd .nil, e, fun u H2 sm ru => ⟨(show 1 ≤ sizeLine by decide), fun p hp => ?_⟩⟩
      exact fr_new hp (.cons ru .nil) fun u3 H3 s3 r3 => two sm s3 r3 hr
  | lstF =>
    have hr : D.lst [f] = r := Option.some.inj hr
    refine ⟨.ref a, List.getElem?_set_self hi, rfl, rfl, xa, [(xc.fld c, v)], v, rfl, ex, by simp, (show 1 ≤ sizeLine by decide), fun p hp => ?_⟩
    exact fr_new hp (.cons rv .nil) fun u3 H3 s3 r3 => two (Same.refl H) s3 r3 hr
theorem wMas_read {K : PySem.W.Frag} {Wo : WX} {i c : Nat} {h : HK} {f r : D} {xa : Addr} {v : V} {E : Ends} {σ : L2.St} {H : Hp} {w : Wd} {s : SS} (hr : hkD h f = some r) (hi : i < σ.length) (st : Sto K w s H) (ex : H xa = some (.xd [(xc.fld c, v)])) (rv : Rep K H v f)
    (q : ∀ u H' w', Go w H w' H' → Sto K w' s H' → RepT K w' H' u r → E.rt u H') : ∀ {hs : List (Nat × HK)}, (∀ p ∈ hs, PySem.W.exmOne K (.ref (xc.cls c)) (.ref (xc.cls p.1)) = some (c == p.1)) → hs.lookup c = some h →
    wMas K Wo i E (hs.map fun p => (.ref (xc.cls p.1), tsH K xc i p.1 p.2)) (.ref (xc.cls c)) (some xa) σ H
  | [], _, e => by cases e
  | (c0, h0) :: hs, exm, e => by
    have e0 := exm (c0, h0) List.mem_cons_self
    rw [List.lookup_cons] at e
    cases ec : c == c0 with
    | true =>
      have := eq_of_beq ec
      subst this
      rw [ec] at e e0
      cases e
      exact ⟨true, e0, fun _ a na => tsH_read hr hi st ex rv q, fun z => nomatch z⟩
    | false =>
      rw [ec] at e e0
      exact ⟨false, e0, (fun z => nomatch z), fun _ => wMas_read hr hi st ex rv q (fun p hp => exm p (List.mem_cons_of_mem _ hp)) e⟩
theorem pds_tryH {n : Str} {i : Nat} {hs : List (Nat × HK)} {body : List Stmt} {k₀ : ExceptHandler} {ks : List ExceptHandler} {pos : Pos} {mb : SM} (stk : X.stack = X.env :: X.outer) (frm : X.env.frame = some X.env.locals) (nd : X.N.Nodup) (at_ : X.N[i]? = some n) (kd : X.env.kindOf n = some .local) (tk : Takes X W)
    (hb : ∀ (W' : WX) (pn : List (Addr × Obj)) (xe : Value → Shared → Prop), Takes (X.tr pn xe) W' → PassesOwn (model X.prog X.w) X.A X.env xe → PSs (X.tr pn xe) body (tS X.K xc W' mb))
    (hk : MasOk X n (k₀ :: ks) (hs.map fun p => (.ref (xc.cls p.1), tsH X.K xc i p.1 p.2))) (exm : ∀ p ∈ hs, ∀ q ∈ hs, PySem.W.exmOne X.K (.ref (xc.cls p.1)) (.ref (xc.cls q.1)) = some (p.1 == q.1)) :
    PS X (.Try body (k₀ :: ks) [] [] pos) (tS X.K xc W (tryHS hs i mb)) := by
  refine psimp (ps_try_mas (tb := fun W' => tS X.K xc W' mb) stk frm nd at_ kd tk hb hk) fun E σ H ⟨w, env, s, rel, q⟩ => ⟨w, env, s, rel, ?_⟩
  unfold tryHS at q
  cases z : mb env s with
  | exc c f env' s' =>
    rw [z] at q
    dsimp only at q
    intro xa v σ' H' w' g rel' ex rv
    split at q
    · rename_i hil
      cases e1 : hs.lookup c with
      | none => rw [e1] at q; exact q.elim
      | some h =>
        rw [e1] at q
        dsimp only at q
        cases e2 : hkD h f with
        | none => rw [e2] at q; exact q.elim
        | some r =>
          rw [e2] at q
          have hm : (c, h) ∈ hs := lookup_mem e1
          exact wMas_read e2 (by rw [← rel'.len]; exact hil) rel'.st ex rv (fun u H2 w2 g2 st2 ru => q u H2 w2 (g.trans g2) st2 ru) (fun p hp => exm (c, h) hm p hp) e1
    · exact q.elim
  | nx env' s' => rw [z] at q; exact q
  | rt d s' => rw [z] at q; exact q
  | brk env' s' => rw [z] at q; exact q
  | cont env' s' => rw [z] at q; exact q
  | stuck => rw [z] at q; exact q
end
end PI

set_option maxHeartbeats 2000000
/-! PI, part lm: lambdas that take nothing, or what has a default that is not asked for. -/
namespace PI
open PySem PySem.Spec L2 PyProof.Rows
open LamX (CodeO TabS TabB)
abbrev qLam (X : Cx) : Str := X.env.qual ++ "<lambda>"
section
variable {X : Cx} {pins : List (Addr × Obj)} {σ : L2.St} {H : Hp} {s : Shared}
theorem no_frame (I : Inv X pins σ H s) {f : Addr} (hf : s.heap.objs.size ≤ f) : f ∉ frs X.stack := by
  intro z
  rcases List.mem_cons.mp (I.stkSub _ z) with q | q
  · exact absurd (q ▸ I.lt) (Nat.not_lt.mpr hf)
  · exact I.nofs hf q
/-- the end of the making: the code object is new, or told by the table -/
theorem lam_tail {c P : Addr} {params : Arguments} {body : Expr} {scope : Scope} {dV : Value} {pos : Pos} {ln : Nat} {E Q : Value → Shared → Prop} (I : Inv X pins σ H s) (TB : TabB X.base X.mg c P) (hc : X.env.code = .ref c) (hT : TabS H P (qLam X)) (hfree : ∀ y ∈ scope.names, y.2 = .free → ∃ c, X.env.cells.lookup y.1 = some c)
    (h : ∀ (f c' : Addr) (doc pm ctv : Value) (H1 : Hp) (s' : Shared), Inv X pins σ H1 s' → (∀ b o, b ≠ P → H b = some o → H1 b = some o) → TabS H1 P (qLam X) → (∀ b o, b ≠ P → s.heap.get? b = some o → s'.heap.get? b = some o) → (∀ b o, s.heap.get? b = some o → H b = none → H1 b = none) →
      s'.heap.get? f = some (PySem.W.kdv_obj "<lambda>" (qLam X) params (.expr body) scope (cloFrom X.env.cells scope.names []) dV doc pm c' ctv) → H1 f = none → f ∉ frs X.stack → H1 c' = some (CodeO c' (qLam X)) → Q (.ref f) s') :
    wpAny (model X.prog X.w) X.A (makeTail "<lambda>" (qLam X) params (.expr body) scope X.env dV .none none pos ln) Q E s := by
  obtain ⟨ps, hP, ht, ha⟩ := hT
  have hPs : s.heap.get? P = some { cls := .none, data := .fields ps } := I.hok P _ hP
  have cl : closureFor scope X.env = pure (cloFrom X.env.cells scope.names []) := closure_ok hfree
  have nsM := I.mod.glob.keeps I.bk
  have hd := TB.code.keeps I.bk
  have bAt : s.heap.BuiltinsAt X.mg P := TB.bm.keeps I.bk
  cases am : codeAmong pos ps.toList with
  | some cv =>
    obtain ⟨c', rfl, hco⟩ := ha pos cv am
    refine PySem.W.kdv_makeTailHit (mg := X.mg) (c := c) (P := P) (ps := ps) cl I.ok.glob nsM hc hd hPs ht am bAt fun ctv doc h' tk up hsz => ?_
    have J : Inv X pins σ H { s with heap := h'.push (PySem.W.kdv_obj "<lambda>" (qLam X) params (.expr body) scope (cloFrom X.env.cells scope.names []) dV doc ((X.mg "__name__").getD .none) c' ctv), toks := tk } := I.kept fun b o e => Heap.get?_push_of_some _ (up b o e)
    exact h _ c' doc _ ctv H _ J (fun _ _ _ e => e) ⟨ps, hP, ht, ha⟩ (fun b o _ e => Heap.get?_push_of_some _ (up b o e)) (fun _ _ _ e => e) (Heap.get?_push_size _ rfl) (I.hok.fresh hsz) (no_frame I hsz) hco
  | none =>
    refine PySem.W.kdv_makeTail (mg := X.mg) (c := c) (P := P) (ps := ps) cl I.ok.glob nsM hc hd hPs ht am TB.gP bAt fun c' ctv doc h' tk up ge lt rc tb => ?_
    obtain ⟨_, oc, vs, t, e2, hoc, hod, hov⟩ := rc
    cases e2
    have hsz : s.heap.objs.size ≤ h'.objs.size := Nat.le_trans ge (Nat.le_of_lt lt)
    have fr : H c' = none := I.hok.fresh ge
    have J := LamX.inv_table (t' := tk) (q := qLam X) (more := #[rawInt pos.line, rawInt pos.col, .ref c']) (h' := h'.push (PySem.W.kdv_obj "<lambda>" (qLam X) params (.expr body) scope (cloFrom X.env.cells scope.names []) dV doc ((X.mg "__name__").getD .none) c' ctv)) I hP
      (fun b o hb e => Heap.get?_push_of_some _ (up b o hb e)) (Heap.get?_push_of_some _ tb) ge ⟨oc, vs, t, Heap.get?_push_of_some _ hoc, hod, hov⟩
    have stay : ∀ b o, b ≠ P → H b = some o → upd (upd H P (.tbl (ps ++ #[rawInt pos.line, rawInt pos.col, .ref c']))) c' (CodeO c' (qLam X)) b = some o := fun b o hb e => by
      rw [upd_ne (ne_of_none e fr), upd_ne hb]; exact e
    have nPc : P ≠ c' := ne_of_none hP fr
    have toL : (ps ++ #[rawInt pos.line, rawInt pos.col, .ref c']).toList = ps.toList ++ [rawInt pos.line, rawInt pos.col, .ref c'] := by simp
    refine h h'.objs.size c' doc _ ctv _ _ J stay ⟨_, (upd_ne nPc).trans upd_same, by rw [toL]; exact PySem.TriplesOk_snoc _ _ _ _ ht, fun p' cv hcv => ?_⟩ (fun b o hb e => Heap.get?_push_of_some _ (up b o hb e)) (fun b o e n => ?_) (Heap.get?_push_size _ rfl) ?_ (no_frame I hsz) upd_same
    · rw [toL] at hcv
      rcases LamX.among_app _ ht hcv with z | z
      · obtain ⟨c0, e1, e2⟩ := ha p' cv z
        exact ⟨c0, e1, stay _ _ (fun z => by rw [z, hP] at e2; exact LamX.codeO_ne ps (Option.some.inj e2).symm) e2⟩
      · exact ⟨c', z, upd_same⟩
    · have n1 : b ≠ c' := fun z => absurd (z ▸ Heap.lt_size e) (Nat.not_lt.mpr ge)
      have n2 : b ≠ P := fun z => by rw [z, hP] at n; cases n
      rw [upd_ne n1, upd_ne n2]; exact n
    · have n1 : h'.objs.size ≠ c' := Nat.ne_of_gt lt
      have n2 : h'.objs.size ≠ P := Nat.ne_of_gt (Nat.lt_of_lt_of_le (Heap.lt_size hPs) hsz)
      rw [upd_ne n1, upd_ne n2]
      exact I.hok.fresh hsz
end
/-- the lambda's names: captured ones, globals, parameters that are not asked for -/
structure LamN (N : List Str) (sc scope : Scope) : Prop where
  kind : scope.kind = .function
  co : scope.isCoroutine = false
  gen : scope.isGenerator = false
  cel : ∀ y ∈ scope.names, y.2 ≠ .cell
  loc : ∀ y ∈ scope.names, y.2 = .local → y.1 ∉ N
  fre : ∀ y ∈ scope.names, y.2 = .free → sc.names.lookup y.1 = some .cell ∨ sc.names.lookup y.1 = some .free
def lamNB (N : List Str) (sc scope : Scope) : Bool :=
  decide (scope.kind = .function) && (!scope.isCoroutine && (!scope.isGenerator && scope.names.all fun y => !decide (y.2 = .cell) && ((!decide (y.2 = .local) || decide (y.1 ∉ N)) && (!decide (y.2 = .free) || (decide (sc.names.lookup y.1 = some .cell) || decide (sc.names.lookup y.1 = some .free))))))
theorem lamN_by {N : List Str} {sc scope : Scope} (h : lamNB N sc scope = true) : LamN N sc scope := by
  unfold lamNB at h
  simp only [Bool.and_eq_true, Bool.or_eq_true, Bool.not_eq_true', decide_eq_true_eq, decide_eq_false_iff_not, List.all_eq_true] at h
  obtain ⟨h1, h2, h3, h4⟩ := h
  refine ⟨h1, h2, h3, fun y hy => (h4 y hy).1, fun y hy e => ?_, fun y hy e => ?_⟩
  · rcases (h4 y hy).2.1 with z | z
    · exact absurd e z
    · exact z
  · rcases (h4 y hy).2.2 with z | z
    · exact absurd e z
    · exact z
theorem LamN.has {X : Cx} {N : List Str} {scope : Scope} (L : LamN N X.env.scope scope) (ok : X.Ok) : ∀ y ∈ scope.names, y.2 = .free → ∃ c, X.env.cells.lookup y.1 = some c := fun y hy e => by
  rcases L.fre y hy e with k | k
  · exact ok.has _ (.inl k)
  · exact ok.has _ (.inr k)
section
variable {X : Cx} {pins : List (Addr × Obj)} {σ : L2.St} {H HZ : Hp} {s s1 : Shared}
/-- the lambda's body begins -/
theorem lam_begin {A : Around} {outer : List Env} {E : XK} {scope : Scope} {f c' : Addr} {h₁ : Heap} {tk : Nat} {bs : List (Str × Value)} (I : Inv X pins σ H s) (L : LamN X.N X.env.scope scope) (e0 : Env0 X.prog X.w X.K X.mg X.base A outer s1 HZ) (hd : A.handled = none)
    (un : Un (frs X.stack) [] H HZ s.heap s1.heap) (hns : h₁.Ns s1.heap.objs.size fun y => bs.reverse.lookup y) (kp : ∀ b o, s1.heap.get? b = some o → h₁.get? b = some o) :
    Inv (LamX.lamCx X A outer s1 HZ E scope f c') [] σ HZ { s1 with heap := h₁, toks := tk } := by
  have fr := L.has I.ok
  have toX : ∀ {y c}, (cloFrom X.env.cells scope.names []).lookup y = some c → X.env.cells.lookup y = some c := fun {y c} e => by
    rcases cloFrom_mem (PySem.mem_of_lookup e) with hm | ⟨h1, h2⟩
    · cases hm
    · obtain ⟨c1, hc⟩ := fr _ h1 rfl
      have hc : X.env.cells.lookup y = some c1 := hc
      have e2 : c = c1 := by rw [h2, hc] <;> rfl
      rw [e2]; exact hc
  have inC : ∀ {y}, scope.names.lookup y = some .free → ∃ c, (cloFrom X.env.cells scope.names []).lookup y = some c := fun {y} hl => by
    have hy : (y, NameKind.free) ∈ scope.names := PySem.mem_of_lookup hl
    exact mem_lookup (cloFrom_has (cells := X.env.cells) (acc := []) hy)
  have cellK : ∀ {c : Addr} {v : Option Value}, H c = none → s.heap.IsCell c v → h₁.IsCell c v := fun {c v} n ⟨o, ho, hdd⟩ => by
    obtain ⟨sl, q⟩ := un.any ho n (by simp)
    exact ⟨_, kp _ _ q, hdd⟩
  have nex : ∀ b : Addr, b ∉ (LamX.lamCx X A outer s1 HZ E scope f c').ex := fun b z => absurd (show b ∈ ([] : List Addr) from z) (by simp)
  refine ⟨⟨e0.mod, L.kind, rfl, rfl, Nat.le_refl _, fun y z c e1 e2 => I.ok.inj y z c (toX e1) (toX e2), fun y hy => ?_, fun y c z _ => ?_, fun _ => hd, Around.frames_deeper e0.frames, .inr ⟨rfl, rfl⟩, fun b z => absurd z (nex b), e0.bs, e0.bsz, fun b _ _ => nex b,
      fun b z => absurd z (nex b), e0.funs, e0.frf⟩,
    rfl, e0.bare, Un.kept kp, ⟨_, hns, fun i y v e1 e2 e3 => ?_⟩, fun y c e => ?_, e0.hok.fresh (Nat.le_refl _), fun y c e => ?_, fun q hq => absurd (show q ∈ ([] : List (Addr × Obj)) ++ [] from hq) (by simp), e0.hok.kept kp, I.len⟩
  · have hy : scope.names.lookup y = some .cell ∨ scope.names.lookup y = some .free := hy
    rcases hy with hy | hy
    · exact absurd rfl (L.cel _ (PySem.mem_of_lookup hy))
    · exact inC hy
  · have z : false = true := z
    cases z
  · have e3 : Vis scope y := e3
    have e1 : X.N[i]? = some y := e1
    rcases e3 with k | k | k
    · exact absurd (List.mem_of_getElem? e1) (L.loc _ (PySem.mem_of_lookup k) rfl)
    · exact absurd rfl (L.cel _ (PySem.mem_of_lookup k))
    · obtain ⟨m, hn, hl⟩ := I.loc
      have sees : Vis X.env.scope y := (L.fre _ (PySem.mem_of_lookup k) rfl).elim (fun k => .inr (.inl k)) (fun k => .inr (.inr k))
      obtain ⟨w', r, q⟩ := hl i y v e1 e2 sees
      obtain ⟨c2, h2⟩ := inC k
      refine ⟨w', r, .inr ⟨.inr k, c2, h2, ?_⟩⟩
      have c1 := toX h2
      rcases q with ⟨k', _⟩ | ⟨_, c3, e', z⟩
      · have k' : X.env.scope.names.lookup y = some .local := k'
        rcases L.fre _ (PySem.mem_of_lookup k) rfl with k2 | k2 <;> rw [show X.env.scope.names.lookup y = _ from k2] at k' <;> cases k'
      · rw [c1] at e'
        cases e'
        exact cellK (I.freeC y _ c1) z
  · obtain ⟨w', z⟩ := I.cell y c (toX e)
    exact ⟨w', cellK (I.freeC y c (toX e)) z⟩
  · obtain ⟨v, o, ho, hdd⟩ := I.cell y c (toX e)
    exact un.free c o ho (I.freeC y c (toX e)) (by simp)
/-- a(), in the def that got the lambda -/
theorem pe_do {CXg : CXT} {Eg : XK} {Ng : List Str} {qg : Str} {sg : Scope} {g f c' : Addr} {cdg dV doc pm ctv : Value} {params : Arguments} {body : Expr} {scope : Scope} {k i : Nat} {a : Str} {pn : List (Addr × Obj)} {xe : Value → Shared → Prop} {W : WX} {tb : XK → TE} {p1 p2 : Pos} {bs : List (Str × Value)}
    (I : Inv X pins σ H s) (L : LamN X.N X.env.scope scope) (hf : s.heap.get? f = some (PySem.W.kdv_obj "<lambda>" (qLam X) params (.expr body) scope (cloFrom X.env.cells scope.names []) dV doc pm c' ctv)) (hfn : H f = none) (hfr : f ∉ frs X.stack)
    (hbind : ∀ (HZ : Hp) (s1 : Shared), Un (frs X.stack) [] H HZ s.heap s1.heap → BindsTo s1 (PySem.W.kdv_fn "<lambda>" (qLam X) params (.expr body) scope (cloFrom X.env.cells scope.names []) dV doc pm (.ref c') ctv) ⟨[], []⟩ bs) (hbl : ∀ y ∈ bs, scope.names.lookup y.1 = some .local)
    (tk : Takes ((cxOf CXg X.prog X.w X.K X.mg X.base Ng qg sg g cdg X.A X.stack s H Eg).tr pn xe) W) (hr : Room (k + 1) (X.A.deeper (envOfC qg sg s.heap.objs.size g cdg)))
    (hbody : ∀ (A : Around) (outer : List Env) (s : Shared) (H : Hp) (E : XK), Room k (A.deeper (LamX.lamEnv X scope s.heap.objs.size f c')) → A.guards = X.A.guards → PE (LamX.lamCx X A outer s H E scope f c') body (tb E))
    (hN : Ng[i]? = some a) (hv : Vis sg a) (hd : (a == ("__debug__" : Str)) = false) (hcd : (a == ("__classdict__" : Str)) = false) :
    PE ((cxOf CXg X.prog X.w X.K X.mg X.base Ng qg sg g cdg X.A X.stack s H Eg).tr pn xe) (.Call (.Name a p1) [] [] p2)
      (fun σZ HZ Q => σZ[i]? = some (some (.ref f)) ∧ HZ c' = some (CodeO c' (qLam X)) ∧ tb (WE W σZ) σ HZ Q) := by
  refine ⟨fun pinsZ sZ σZ HZ Q IZ ⟨hs, hc, ht⟩ => ?_⟩
  refine wpAny_Call_Name_kw (thn ((pe_var (pos := p1) (i := i) hN hv hd hcd).run pinsZ sZ σZ HZ (fun v H1 => v = .ref f ∧ H1 = HZ) IZ ⟨.ref f, hs, rfl, rfl⟩) fun u s1 z => ?_)
  obtain ⟨v, H1, I1, r1, rfl, rfl⟩ := z
  obtain rfl : u = Value.ref f := r1
  have at1 : s1.heap.get? f = some (PySem.W.kdv_obj "<lambda>" (qLam X) params (.expr body) scope (cloFrom X.env.cells scope.names []) dV doc pm c' ctv) := I1.base.keep f _ hf hfn hfr (fun z => nomatch (show f ∈ ([] : List Addr) from z))
  refine PySem.W.callWith_F0 ⟨_, _, _, _, at1⟩ ?_
  have un : Un (frs X.stack) [] H H1 s.heap s1.heap := I1.base
  obtain ⟨⟨oc, vs, t, hoc, hdc, hvc⟩, _, _⟩ := I1.hok c' _ hc
  have run : codeAny (model X.prog X.w) (X.A.deeper (envOfC qg sg s.heap.objs.size g cdg)) (.call (.ref f) ⟨[], []⟩) (CR (L2.CX X.prog X.w) (envOfC qg sg s.heap.objs.size g cdg :: X.stack) X.prog X.w H1 s1 Q (WE W σZ)) s1 := by
    refine PySem.W.kla_callFunE hr.depth at1 rfl L.co L.gen rfl ⟨c', oc, vs, t, rfl, hoc, hdc, hvc⟩ (hbind H1 s1 un _ _ _ _ ?_)
    refine wpAny_newFunctionEnv L.cel hbl (fun h₁ hns hsb => ⟨I1.nolimit.fresh _ hsb, ?_⟩) L.kind
    show codeAny _ _ (.expr body (LamX.lamEnv X scope s1.heap.objs.size f c')) _ _
    have kp : ∀ b o, s1.heap.get? b = some o → h₁.get? b = some o := fun b o e => hsb.extBut b o (Nat.ne_of_lt (Heap.lt_size e)) (Heap.get?_push_of_some _ e)
    have J : Inv (LamX.lamCx X (X.A.deeper (envOfC qg sg s.heap.objs.size g cdg)) (envOfC qg sg s.heap.objs.size g cdg :: X.stack) s1 H1 (WE W σZ) scope f c') [] σ H1 { s1 with heap := h₁, toks := s1.toks + bs.length } :=
      lam_begin I L I1.env0 hr.hd un hns kp
    refine PySem.W.kla_codeExpr (wpAny_mono ((hbody _ _ s1 H1 (WE W σZ) (hr.deeper _) rfl).run [] _ _ H1 Q J ht) (fun v s' hq => ?_) fun e s' hq => hq)
    obtain ⟨w', H', J', rv, q⟩ := hq
    exact ⟨w', H', J'.os, J'.bare, J'.base, J'.hok, rv, q⟩
  refine wpAny_call (codeAny_mono run fun r s' hq => ?_)
  cases r with
  | error e => exact passAt tk σZ pinsZ H1 s1 e s' I1 hq
  | ok fl =>
    cases fl with
    | ret u => exact I1.after hq
    | next => exact False.elim hq
    | brk => exact False.elim hq
    | cont => exact False.elim hq
end
/-! ### the making -/
/-- the lambda's making up to its end; what a call of it without arguments binds -/
def MkL (X : Cx) (params : Arguments) (body : Expr) (scope : Scope) : Prop :=
  ∀ (pins : List (Addr × Obj)) (s : Shared) (σ : L2.St) (H : Hp) (Q E : Value → Shared → Prop) (pos : Pos), Inv X pins σ H s →
    (∀ (dV : Value) (bs : List (Str × Value)) (s' : Shared), Inv X pins σ H s' → (∀ t, dV = .ref t → H t = none ∧ t ∉ frs X.stack ∧ ∃ o, s'.heap.get? t = some o) → (∀ y ∈ bs, scope.names.lookup y.1 = some .local) →
      (∀ (s1 : Shared) (q : Str) (cl : List (Str × Addr)) (doc pm cv ctv : Value), (∀ t o, dV = .ref t → s'.heap.get? t = some o → s1.heap.get? t = some o) → BindsTo s1 (PySem.W.kdv_fn "<lambda>" q params (.expr body) scope cl dV doc pm cv ctv) ⟨[], []⟩ bs) →
      wpAny (model X.prog X.w) X.A (makeTail "<lambda>" (qLam X) params (.expr body) scope X.env dV .none none pos pos.line) Q E s') →
    wpAny (model X.prog X.w) X.A (eval (.Lambda params body scope pos) X.env) Q E s
theorem mkl0 {X : Cx} {params : Arguments} {body : Expr} {scope : Scope} (hdef : defaultsOf params X.env = ([], [])) (hbind : ∀ (q : Str) (cl : List (Str × Addr)) (doc pm cv ctv : Value), bindArgs (PySem.W.kdv_fn "<lambda>" q params (.expr body) scope cl .none doc pm cv ctv) ⟨[], []⟩ = pure []) : MkL X params body scope := by
  intro pins s σ H Q E pos I h
  refine PySem.W.kla_eval hdef ?_
  rw [makeFunction_eq]
  simp only [List.zip_nil_right, List.filterMap_nil, List.isEmpty_nil, if_true, pure_bind]
  refine h .none [] s I (fun t e => nomatch e) (fun y hy => nomatch hy) fun s1 q cl doc pm cv ctv _ => ?_
  intro A M Q E hq
  rw [hbind]
  exact wpAny_pure hq
theorem mkl1 {X : Cx} {params : Arguments} {body : Expr} {scope : Scope} {x : Str} {i : Int} {cn : Nat} {cp : Pos} (hd : params.defaults = [.Constant (.int i) cn cp]) (hk0 : params.kw_defaults = []) (hx : scope.names.lookup x = some .local)
    (hbind : ∀ (q : Str) (cl : List (Str × Addr)) (t : Addr) (doc pm cv ctv v : Value), ∃ k : Option (Array Value) → Sem (List (Str × Value)), bindArgs (PySem.W.kdv_fn "<lambda>" q params (.expr body) scope cl (.ref t) doc pm cv ctv) ⟨[], []⟩ = seqItems? (.ref t) >>= k ∧ k (some #[v]) = pure [(x, v)]) : MkL X params body scope := by
  intro pins s σ H Q E pos I h
  refine PySem.W.kdv_lam (by rw [hd]; rfl) hk0 ?_
  rw [hd]
  refine PySem.W.kdv_all1 (wpAny_Constant_int (PySem.W.kdv_all0 ?_))
  have I1 := I.tok (s.toks + 1)
  generalize ({ s with toks := s.toks + 1 } : Shared) = s1 at I1 ⊢
  rw [makeFunction_eq]
  simp only [List.zip_nil_right, List.filterMap_nil, List.isEmpty_nil, List.isEmpty_cons, if_true, pure_bind, Bool.false_eq_true, if_false]
  refine wpAny_bind (wpAny_newTextTuple ?_)
  refine h (.ref s1.heap.objs.size) [(x, .int i s.toks)] _ (I1.kept fun b o e => Heap.get?_push_of_some _ e) (fun t e => ?_) (fun y hy => ?_) fun s2 q cl doc pm cv ctv up => ?_
  · cases e
    exact ⟨I1.hok.fresh (Nat.le_refl _), no_frame I1 (Nat.le_refl _), _, Heap.get?_push_size _ rfl⟩
  · rw [List.mem_singleton] at hy
    rw [hy]; exact hx
  · obtain ⟨k, h1, h2⟩ := hbind q cl s1.heap.objs.size doc pm cv ctv (.int i s.toks)
    exact BindsTo.of_defaults rfl (up _ _ rfl (Heap.get?_push_size _ rfl)) rfl h1 h2
end PI

set_option maxHeartbeats 2000000
/-! PI, part lt: x(lambda: e), x a def that returns what it got tells, or what is told of an exception's field. -/
namespace PI
open PySem PySem.Spec L2 PyProof.Rows
open LamX (CodeO TabS TabB)
def toldM (hs : List (Nat × HK)) (m : M D) : M D := fun s => match m s with
  | .ok d s' => if pureB d then .ok d s' else .stuck
  | .exc c f s' => match hs.lookup c with
    | some h => match hkD h f with
      | some r => .ok r s'
      | none => .stuck
    | none => .stuck
  | .stuck => .stuck
abbrev qOf (x : Str) : Str := (x ++ ".<locals>.") ++ "<lambda>"
def isTab (x q : Str) : Bool × OC → Bool
  | (false, .tbl x' q') => x' == x && q' == q
  | _ => false
/-- is the table of lambdas of the def x there -/
def chkM (x q : Str) : List D → M D := fun _ s => if s.cs.any (isTab x q) then .ok .non s else .stuck
/-- what is known of the table of the def that runs -/
structure TabC (K : PySem.W.Frag) (mg : Str → Option Value) (base : Heap) (x : Str) (cdv : Value) : Prop where
  ex : ∃ c P, PySem.W.tabIn K x = some (c, P) ∧ TabB base mg c P ∧ cdv = .ref c
/-- the table is written, all else stays -/
theorem sto_tab {K : PySem.W.Frag} {w : Wd} {s : SS} {H H1 : Hp} {i : Nat} {P : Addr} {x q : Str} (t : Sto K w s H) (hi : w.ρ[i]? = some P) (hc : s.cs[i]? = some (false, .tbl x q)) (st : ∀ b o, b ≠ P → H b = some o → H1 b = some o) (hT : TabS H1 P q) : Go w H w H1 ∧ Sto K w s H1 := by
  have cP := t.cs i P _ hi hc
  obtain ⟨hx, ps, hP, h2, h3⟩ := cP
  have inP : P ∈ w.ρ := List.mem_of_getElem? hi
  have inW : P ∈ w.ws := List.mem_append_right _ inP
  have ext : Ext H H1 := ⟨fun a o e f => st a o (fun z => by subst z; rw [hP] at e; cases e; exact f) e⟩
  refine ⟨⟨fun a o e f => ?_, fun _ h => .inl h, ⟨[], by simp⟩, fun _ => rfl⟩, ?_, t.len, fun j a c h1 hc1 => ?_, t.nd⟩
  · rcases f with f | f
    · exact st a o (fun z => f (z ▸ inW)) e
    · exact ext.kp a o e f
  · have nd := t.nd
    have m0 := t.m
    unfold Wd.ws at nd
    cases hm : w.m with
    | none => rw [hm] at m0; cases hs : s.m with
      | none => trivial
      | some z => rw [hs] at m0; exact m0.elim
    | some p =>
      obtain ⟨a, l⟩ := p
      rw [hm] at m0 nd
      cases hs : s.m with
      | none => rw [hs] at m0; exact m0.elim
      | some ms =>
        rw [hs] at m0
        obtain ⟨c, h1, h2, h3, h4⟩ := m0
        have dj := (List.nodup_append.mp nd).2.2
        have na : a ≠ P := dj a (by simp) P inP
        have nl : l ≠ P := dj l (by simp) P inP
        exact ⟨c, st _ _ na h1, h2.mono ext, st _ _ nl h3, h4⟩
  · by_cases hj : j = i
    · subst hj
      rw [hi] at h1; cases h1
      rw [hc] at hc1; cases hc1
      exact ⟨hx, hT⟩
    · have old := t.cs j a c h1 hc1
      have ne : a ≠ P := fun z => by
        subst z
        have nd : w.ρ.Nodup := (List.nodup_append.mp t.nd).2.1
        obtain ⟨l1, e1⟩ := List.getElem?_eq_some_iff.mp h1
        obtain ⟨l2, e2⟩ := List.getElem?_eq_some_iff.mp hi
        exact hj ((List.getElem_inj nd).mp (e1.trans e2.symm))
      obtain ⟨o, ho⟩ := old.there
      exact old.at ext (by rw [ho]; exact st _ _ ne ho)
section
variable {X : Cx} {xc : XC} {W : WX}
theorem pd_told {x a n nm : Str} {i k : Nat} {hs : List (Nat × HK)} {g : Addr} {pg : Arguments} {sg : Scope} {k₀ : ExceptHandler} {ks : List ExceptHandler} {dV kV doc pm cdv ct oc : Value} {an od : Option Addr} {osl : Array (Option Value)} {Ng : List Str}
    {params : Arguments} {body : Expr} {scope : Scope} {m : Env' → M D} {p lpos pos p1 p2 p3 p4 : Pos} (hg : Gl X x) (hm : X.mg x = some (.ref g)) (hk : PySem.W.keepIn X.K (.ref g) = true)
    (lk : X.K.lookup g = some ⟨oc, od, .func (PySem.W.fnOf x x pg [.Try [.Return (some (.Call (.Name a p1) [] [] p2)) p3] (k₀ :: ks) [] [] p4] sg dV kV doc pm an cdv ct), osl⟩) (hcg : PySem.W.codeIn X.K cdv x = true)
    (hb : L2.Binds X.K (PySem.W.fnOf x x pg [.Try [.Return (some (.Call (.Name a p1) [] [] p2)) p3] (k₀ :: ks) [] [] p4] sg dV kV doc pm an cdv ct) [a] []) (Sg : FnScope Ng [a] sg) (hNg : Ng[0]? = some a) (hva : Vis sg a) (hni : Ng[i]? = some n) (hnl : sg.names.lookup n = some .local) (hgd : X.A.guards = some [])
    (mas : ∀ (s : Shared) (H : Hp), Room (k + 1) (X.A.deeper (envOfC x sg s.heap.objs.size g cdv)) → MasOk (cxOf C8.CX0 X.prog X.w X.K X.mg X.base Ng x sg g cdv X.A X.stack s H C8.E0).nox n (k₀ :: ks) (hs.map fun p => (.ref (xc.cls p.1), tsH X.K xc i p.1 p.2)))
    (exm : ∀ p ∈ hs, ∀ q ∈ hs, PySem.W.exmOne X.K (.ref (xc.cls p.1)) (.ref (xc.cls q.1)) = some (p.1 == q.1))
    (tc : TabC X.K X.mg X.base nm X.env.code) (hr : Room (k + 2) X.A) (L : LamN X.N X.env.scope scope) (mk : MkL X params body scope)
    (hbody : ∀ (A : Around) (outer : List Env) (s : Shared) (H : Hp) (E : XK) (f c' : Addr), Room k (A.deeper (LamX.lamEnv X scope s.heap.objs.size f c')) → A.guards = some [] → PE (LamX.lamCx X A outer s H E scope f c') body (tE X.K xc (wE E) m))
    (hdb : (x == ("__debug__" : Str)) = false) (hd : (a == ("__debug__" : Str)) = false) (hcd : (a == ("__classdict__" : Str)) = false) :
    PE X (.Call (.Name x p) [.Lambda params body scope lpos] [] pos) (tE X.K xc W fun env => chkM nm (qLam X) [] >>= fun _ => toldM hs (m env)) := by
  obtain ⟨c, P, ht, TB, hcode⟩ := tc.ex
  refine ⟨fun pins s σ H Q I ⟨w, env, s0, rel, q⟩ => ?_⟩
  have q : Post X.K xc W σ w H Q (M.bnd (chkM nm (qLam X) []) (fun _ => toldM hs (m env)) s0) := q
  unfold M.bnd chkM at q
  split at q
  case h_2 => exact (by split at * <;> simp_all)
  case h_3 => exact q.elim
  rename_i d0 s00 e0
  split at e0
  case isFalse => cases e0
  rename_i any
  cases e0
  obtain ⟨cell, cm, ce⟩ := List.any_eq_true.mp any
  obtain ⟨j, hj, ej⟩ := List.getElem_of_mem cm
  have ec : cell = (false, .tbl nm (qLam X)) := by
    unfold isTab at ce
    split at ce
    · simp only [Bool.and_eq_true, beq_iff_eq] at ce
      rw [ce.1, ce.2]
    · cases ce
  have hcj : s0.cs[j]? = some (false, .tbl nm (qLam X)) := by rw [List.getElem?_eq_getElem hj, ej, ec]
  have hl : j < w.ρ.length := by rw [rel.st.len]; exact hj
  have hρ : w.ρ[j]? = some w.ρ[j] := List.getElem?_eq_getElem hl
  obtain ⟨⟨c2, ht2⟩, hT⟩ := rel.st.cs j _ _ hρ hcj
  rw [ht] at ht2
  have eP : P = w.ρ[j] := by cases ht2; rfl
  rw [← eP] at hρ hT
  refine wpAny_Call_Name_kw (ld_glob I hg hm ?_ hdb)
  refine PySem.W.callWith_K (h₀ := X.base) I.ok.mod.kin hk ?_ (by rfl) (by rfl)
  show wpAny _ _ (spliced ((false, eval (.Lambda params body scope lpos) X.env) :: backTo pos (starEach [] X.env))) _ _ s
  refine Calls.spliced_cons (mk pins s σ H _ _ lpos I fun dv bs s' I' fd hbl hbd => lam_tail I' TB hcode hT (L.has I.ok) fun f c' doc' pm' ctv H1 s1 I1 st T1 keep free hf hfn hfr hco => ?_)
  refine Calls.spliced_nil ⟨I1.kIn, ?_⟩
  obtain ⟨g1, st1⟩ := sto_tab rel.st hρ hcj st T1
  have run : codeAny (model X.prog X.w) X.A (.call (.ref g) ⟨[.ref f], []⟩) (CR C8.CX0 X.stack X.prog X.w H1 s1 Q C8.E0) s1 := by
    refine LamX.run_ofS (N := Ng) (ps := [a]) (us := [.ref f]) (vs := [.ref f]) lk hcg Sg hr I1.env0 (hb s1 [.ref f] I1.kIn rfl) (.cons rfl .nil) rfl fun hr' => ?_
    have keepT : ∀ (HZ : Hp) (s2 : Shared), Un (frs X.stack) [] H1 HZ s1.heap s2.heap → BindsTo s2 (PySem.W.kdv_fn "<lambda>" (qLam X) params (.expr body) scope (cloFrom X.env.cells scope.names []) dv doc' pm' (.ref c') ctv) ⟨[], []⟩ bs := fun HZ s2 un => by
      refine hbd s2 _ _ _ _ _ _ fun t o et eo => ?_
      obtain ⟨n1, n2, _⟩ := fd t et
      have nP : t ≠ P := fun z => by
        obtain ⟨ps, hP, _⟩ := hT
        rw [z, hP] at n1; cases n1
      exact un.keep t o (keep t o nP eo) (free t o eo n1) n2 (by simp)
    have act : ∀ (W' : WX) (pn : List (Addr × Obj)) (xe : Value → Shared → Prop), Takes ((cxOf C8.CX0 X.prog X.w X.K X.mg X.base Ng x sg g cdv X.A X.stack s1 H1 C8.E0).tr pn xe) W' → PE ((cxOf C8.CX0 X.prog X.w X.K X.mg X.base Ng x sg g cdv X.A X.stack s1 H1 C8.E0).tr pn xe) (.Call (.Name a p1) [] [] p2)
        (fun σZ HZ Q => σZ[0]? = some (some (.ref f)) ∧ HZ c' = some (CodeO c' (qLam X)) ∧ tE X.K xc (wE (WE W' σZ)) m σ HZ Q) := fun W' pn xe tk' =>
      pe_do (tb := fun E => tE X.K xc (wE E) m) I1 L hf hfn hfr keepT hbl tk' hr' (fun A outer s H E r1 r2 => hbody A outer s H E f c' r1 (r2.trans hgd)) hNg hva hd hcd
    refine ⟨_, (pss_one (ps_try_mas (X := (cxOf C8.CX0 X.prog X.w X.K X.mg X.base Ng x sg g cdv X.A X.stack s1 H1 C8.E0).nox) (Wo := fun _ _ _ _ => False)
      (tb := fun W' D σZ HZ => σZ[0]? = some (some (V.ref f)) ∧ HZ c' = some (CodeO c' (qLam X)) ∧ tE X.K xc (wE (WE W' σZ)) m σ HZ D.rt)
      rfl rfl Sg.nd hni hnl LamX.takes0 (fun W' pn xe tk' _ => ⟨fun pins s' σ' H' D J h' => (pss_one (ps_ret (pos := p3) (act W' pn xe tk'))).run pins s' σ' H' D J h'⟩) (mas s1 H1 hr'))).nox, ?_⟩
    refine ⟨rfl, hco, w, env, s0, rel.go g1 st1, ?_⟩
    unfold toldM at q
    dsimp only at q
    cases z : m env s0 with
    | ok d s' =>
      rw [z] at q
      dsimp only at q
      split at q
      · exact fun v H' w' g' t r => q v H' w' (g1.trans g') t r
      · exact q.elim
    | stuck => rw [z] at q; exact q.elim
    | exc c1 f1 s' =>
      rw [z] at q
      dsimp only at q
      cases e1 : hs.lookup c1 with
      | none => rw [e1] at q; exact q.elim
      | some hh =>
        rw [e1] at q
        dsimp only at q
        cases e2 : hkD hh f1 with
        | none => rw [e2] at q; exact q.elim
        | some r =>
          rw [e2] at q
          intro xa v H' w' g' t' ex rv
          have hil : i < (L2.start Ng [V.ref f]).length := by
            have := (List.getElem?_eq_some_iff.mp hni).1
            unfold L2.start; simp; omega
          exact wMas_read e2 hil t' ex rv (fun u H2 w2 g2 st2 ru => q u H2 w2 ((g1.trans g').trans g2) st2 ru) (fun p hp => exm (c1, hh) (lookup_mem e1) p hp) e1
  refine wpAny_call (codeAny_mono run fun r s2 hq => ?_)
  cases r with
  | error e => exact (show False from hq).elim
  | ok fl =>
    cases fl with
    | ret u => exact I1.after hq
    | next => exact False.elim hq
    | brk => exact False.elim hq
    | cont => exact False.elim hq
end
end PI

/-! PI, part lq: what sorted(.., key=lambda x: len(d[x])) and try .. except X as e: if repr(e.f) != repr(y): return False mean. -/
namespace PI
open PySem
def keyN (d x : D) : Option Nat := if keyB x then (match dgetD d x with
  | some (.lst l) => some l.length
  | _ => none) else none
def sortlD (x d : D) : Option D := match x, d with
  | .lst xs, .dct ks vs => if xs.all (fun x => (keyN (.dct ks vs) x).isSome) && decide (xs.length ≤ LIM) then some (.lst (sortBy (fun a b => decide ((keyN (.dct ks vs) a).getD 0 < (keyN (.dct ks vs) b).getD 0)) xs)) else none
  | _, _ => none
def tryQS (c i j : Nat) (b : SM) : SM := fun env s => match b env s with
  | .exc c' f env' s' => if c' = c ∧ i < env'.length ∧ i ≠ j then (match reprD [f], env'[j]? with
      | some (.str r), some (some d) => match reprD [vw s' d] with
        | some (.str r') => match neD (.str r) (.str r') with
          | some (.bl false) => .nx (env'.set i none) s'
          | some (.bl true) => .rt (.bl false) s'
          | _ => .stuck
        | _ => .stuck
      | _, _ => .stuck) else .stuck
  | r => r
end PI

set_option maxHeartbeats 1000000
/-! PI, part n: the evaluator of core terms; one rule a construct. -/
namespace PI
open PySem L2 PyProof.Rows
def biD : BI → List D → Option D
  | .len => lenD
  | .all => allD
  | .any => anyD
  | .int => intD
  | .tuple => tupleD
  | .list => listD
  | .sorted => sortedD
  | .min => minD
  | .max => maxD
  | .repr => reprD
  | .dict => dictD
abbrev Fns := Nat → List D → M D
/-- what a term means: as a value, as what is walked, as a slice's part, as an item of a display -/
structure Mean where
  v : M D
  i : M (List D)
  o : M (Option Int)
  l : M (List D) → M (List D)
def mean (m : M D) : Mean := ⟨m, walkM m, intM m, consM m⟩
def meanI (m : M (List D)) : Mean := ⟨M.stk, m, M.stk, fun _ => M.stk⟩
mutual
def evA (Γ : Fns) : C → Env' → Mean
  | .k d, _ => mean (M.ret d)
  | .v i, env => mean (rd env i)
  | .bin o a b, env => mean ((evA Γ a env).v >>= fun x => (evA Γ b env).v >>= fun y => op2 (binD o) x y)
  | .neg a, env => mean ((evA Γ a env).v >>= fun x => op1 negD x)
  | .cmp o a b, env => mean ((evA Γ a env).v >>= fun x => (evA Γ b env).v >>= fun y => op2 (cmpD o) x y)
  | .chain o o' a b c, env => mean (chainM o o' (evA Γ a env).v (evA Γ b env).v (evA Γ c env).v)
  | .and a b, env => mean (andM (evA Γ a env).v (evA Γ b env).v)
  | .or a b, env => mean (orM (evA Γ a env).v (evA Γ b env).v)
  | .not a, env => mean (notM (evA Γ a env).v)
  | .ite t a b, env => mean (iteM (evA Γ t env).v (evA Γ a env).v (evA Γ b env).v)
  | .tup es, env => mean (tupM (evL Γ es env))
  | .lst es, env => mean (lstM (evL Γ es env))
  | .dct0, _ => mean (M.ret (.dct [] []))
  | .call f es, env => mean (evN Γ es env >>= Γ f)
  | .bi b es, env => mean (biM (biD b) (evN Γ es env))
  | .isi a ts, env => mean ((evA Γ a env).v >>= fun x => op1 (isiD ts) x)
  | .ix a b, env => mean ((evA Γ a env).v >>= fun x => (evA Γ b env).v >>= fun y => op2 ixD x y)
  | .sl a lo hi, env => mean (sliceM cutD (evA Γ a env).v (evA Γ lo env).o (evA Γ hi env).o)
  | .slr a lo hi, env => mean (sliceM backD (evA Γ a env).v (evA Γ lo env).o (evA Γ hi env).o)
  | .lc own t it c e, env => mean (lcM own t (evA Γ it env).i (fun env => (evA Γ c env).v) (fun env => (evA Γ e env).v) env)
  | .lc2 own t1 it1 own2 t2 it2 c e, env => mean (lc2M own t1 (evA Γ it1 env).i (fun env => (evA Γ it2 env).i) own2 t2 (fun env => (evA Γ c env).v) (fun env => (evA Γ e env).v) env)
  | .star a, env => ⟨M.stk, M.stk, M.stk, starM (evA Γ a env).v⟩
  | .nop, _ => ⟨M.stk, M.stk, M.ret none, fun _ => M.stk⟩
  | .rng es, env => meanI (rangeM (evL Γ es env))
  | .zip es, env => meanI (zipM (evL Γ es env))
  | .enum es, env => meanI (enumM (evL Γ es env))
  | .dzip es, env => mean (biM dzipL (evN Γ es env))
  | .attr a f, env => mean ((evA Γ a env).v >>= fun x => op1 (attrD f) x)
  | .meth f o es, env => mean ((evA Γ o env).v >>= fun x => M.calm (evN Γ es env) >>= fun ys => Γ f (x :: ys))
  | .lstO es, env => mean (lstOM (evL Γ es env))
  | .dctO t, _ => mean (pushM (.dct t [] []))
  | .dc own t it c kk vv, env => mean (dcM own t (evA Γ it env).i (fun env => (evA Γ c env).v) (fun env => (evA Γ kk env).v) (fun env => (evA Γ vv env).v) env)
  | .oget o k, env => mean ((evA Γ o env).v >>= fun x => (evA Γ k env).v >>= fun y => getO x y)
  | .omin o, env => mean ((evA Γ o env).v >>= minO)
  | .told n hs e, env => mean (Γ n [] >>= fun _ => toldM hs (evA Γ e env).v)
  | .sortl n it d, env => mean ((evA Γ it env).v >>= fun x => Γ n [] >>= fun _ => (evA Γ d env).v >>= fun y => op2 sortlD x y)
/-- a display's items -/
def evL (Γ : Fns) : List C → Env' → M (List D)
  | [], _ => M.ret []
  | e :: es, env => (evA Γ e env).l (evL Γ es env)
/-- arguments -/
def evN (Γ : Fns) : List C → Env' → M (List D)
  | [], _ => M.ret []
  | e :: es, env => consN (evA Γ e env).v (evN Γ es env)
end
abbrev evC (Γ : Fns) (c : C) (env : Env') : M D := (evA Γ c env).v
abbrev evI (Γ : Fns) (c : C) (env : Env') : M (List D) := (evA Γ c env).i
abbrev evO (Γ : Fns) (c : C) (env : Env') : M (Option Int) := (evA Γ c env).o
example (Γ : Fns) (a b : C) (env : Env') : evC Γ (.bin .add a b) env = (evC Γ a env >>= fun x => evC Γ b env >>= fun y => op2 (binD .add) x y) := rfl
mutual
def evS (Γ : Fns) : S → SM
  | .pass => passS
  | .expr e => exprS (evC Γ e)
  | .asg t e => asgS t (evC Γ e)
  | .par is es => parS is (evN Γ es)
  | .ret e => retS (evC Γ e)
  | .retN => retN
  | .ite c a b => ifS (evC Γ c) (evSs Γ a) (evSs Γ b)
  | .for_ t it b => forS t (evI Γ it) (evSs Γ b)
  | .while_ n c b => whileS n (evC Γ c) (evSs Γ b)
  | .raise c e => raiseS c (evC Γ e)
  | .tryR c no i j b => tryRS c no i j (evSs Γ b)
  | .brk => brkS
  | .cont => contS
  | .fld i f e => fldS i f (evC Γ e)
  | .app o e => appS (evC Γ o) (evC Γ e)
  | .dput o k v => dputS (evC Γ o) (evC Γ k) (evC Γ v)
  | .parT ts es => parTS ts (evN Γ es)
  | .tryH hs i b => tryHS hs i (evSs Γ b)
  | .tryQ c i j b => tryQS c i j (evSs Γ b)
  | .dputp o k j a b => dputpS (evC Γ o) (evC Γ k) j (fun env => consN (evC Γ a env) (consN (evC Γ b env) (M.ret [])))
def evSs (Γ : Fns) : List S → SM
  | [] => passS
  | s :: r => seqS (evS Γ s) (evSs Γ r)
end

/-! ### the rules -/
/-- where a body runs -/
structure Okx (X : Cx) (k : Nat) : Prop where
  hr : Room (k + 1) X.A
  gd : X.A.guards = some []
  cm : X.calm = true
  nd : X.N.Nodup
theorem Okx.hu {X : Cx} {k : Nat} (o : Okx X k) : X.A.units + 65 < cLine := by have := o.hr.un; omega
theorem Okx.blk {X : Cx} {k : Nat} (o : Okx X k) {s : Shared} {H : Hp} {scope : Scope} {cenv : Env} {fp : List Addr} : Okx (X.blk s H scope cenv fp) k := ⟨o.hr, o.gd, o.cm, o.nd⟩
theorem Okx.tr {X : Cx} {k : Nat} (o : Okx X k) {pn : List (Addr × Obj)} {xe : Value → Shared → Prop} : Okx (X.tr pn xe) k := ⟨o.hr, o.gd, o.cm, o.nd⟩
def JE (X : Cx) (xc : XC) (W : WX) (Γ : Fns) (e : Expr) (c : C) : Prop := PE X e (tE X.K xc W (evC Γ c))
def JT (X : Cx) (xc : XC) (W : WX) (Γ : Fns) (e : Expr) (c : C) : Prop := PT X e (tTst X.K xc W (evC Γ c))
def JW (X : Cx) (xc : XC) (W : WX) (Γ : Fns) (e : Expr) (c : C) : Prop := PW X e (tTst X.K xc W (evC Γ c))
def JL (X : Cx) (xc : XC) (W : WX) (Γ : Fns) (es : List Expr) (cs : List C) : Prop := PA X es (tA X.K xc W (evL Γ cs))
def JN (X : Cx) (xc : XC) (W : WX) (Γ : Fns) (es : List Expr) (cs : List C) : Prop := PA X es (tA X.K xc W (evN Γ cs)) ∧ es.length = cs.length
def JI (X : Cx) (xc : XC) (W : WX) (Γ : Fns) (tg e : Expr) (c : C) : Prop := PI X tg e (tI X.K xc W (evI Γ c))
def JO (X : Cx) (xc : XC) (W : WX) (Γ : Fns) (e : Option Expr) (c : C) : Prop := PO X e (tPo X.K xc W (evO Γ c))
def JTs (X : Cx) (xc : XC) (W : WX) (Γ : Fns) (es : List Expr) (c : C) : Prop := PTs X es (tTst X.K xc W (evC Γ c))
def JG (X : Cx) (e : Expr) (t : T) : Prop := PG X e (tG X.K t)
def JGs (X : Cx) (es : List Expr) (ts : List T) : Prop := PGs X es (tGs X.K ts)
def JS (X : Cx) (xc : XC) (W : WX) (Γ : Fns) (st : Stmt) (s : S) : Prop := PS X st (tS X.K xc W (evS Γ s))
def JSs (X : Cx) (xc : XC) (W : WX) (Γ : Fns) (st : List Stmt) (s : List S) : Prop := PSs X st (tS X.K xc W (evSs Γ s))
abbrev WF : WX := fun _ _ _ _ => False
/-- what is known of an exception class -/
structure XcAt (P : Program) (K : PySem.W.Frag) (mg : Str → Option Value) (xc : XC) (n : Nat) (x : Str) (no : List Nat) : Prop where
  sup : SupC P K (xc.cls n) (xc.fld n)
  at_ : mg x = some (.ref (xc.cls n))
  yes : PySem.W.exmOne K (.ref (xc.cls n)) (.ref (xc.cls n)) = some true
  no_ : ∀ c' ∈ no, PySem.W.exmOne K (.ref (xc.cls c')) (.ref (xc.cls n)) = some false
  xf : XfC K (xc.cls n)
/-- a block's names, looked at -/
def blkB (N : List Str) (sc scope : Scope) (own : List (Str × Nat)) : Bool :=
  decide (scope.kind = .function) && (scope.names.all (fun y => decide (scope.names.lookup y.1 = some y.2)) && (own.all (fun p => decide (N[p.2]? = some p.1)) &&
    (scope.names.all (fun y => !decide (y.2 = .free) || (decide (sc.names.lookup y.1 = some .cell) || decide (sc.names.lookup y.1 = some .free))) &&
      scope.names.all (fun y => !(decide (y.2 = .local) || decide (y.2 = .cell)) || (decide (y.1 ∈ own.map (·.1)) || decide (y.1 ∉ N))))))
theorem blk_of {N : List Str} {sc scope : Scope} {own : List (Str × Nat)} (h : blkB N sc scope own = true) : BlkOk N sc scope own := by
  unfold blkB at h
  simp only [Bool.and_eq_true, List.all_eq_true, decide_eq_true_eq, Bool.or_eq_true, Bool.not_eq_true', decide_eq_false_iff_not, Bool.or_eq_false_iff] at h
  obtain ⟨h1, h2, h3, h4, h5⟩ := h
  refine ⟨h1, h2, h3, fun y hy e => ?_, fun y hy e => ?_⟩
  · rcases h4 y hy with z | z
    · exact absurd e z
    · exact z
  · rcases h5 y hy with z | z
    · rcases e with e | e
      · exact absurd e z.1
      · exact absurd e z.2
    · exact z
theorem boot_min' : bootBuiltins "min" = some (.builtin "min") := by decide +kernel
section
variable {X : Cx} {xc : XC} {W : WX} {Γ : Fns} {a b c e : Expr} {es rest : List Expr} {ca cb cc ce : C} {cs : List C} {pos p p2 : Pos} {k : Nat}
theorem j_int {i : Int} {j : Nat} : JE X xc W Γ (.Constant (.int i) j pos) (.k (.int i)) := pd_k pe_int fun _ => .int i
theorem j_bl {i : Bool} {j : Nat} : JE X xc W Γ (.Constant (.bool i) j pos) (.k (.bl i)) := pd_k pe_bl fun _ => .bl i
theorem j_non {j : Nat} : JE X xc W Γ (.Constant .none j pos) (.k .non) := pd_k pe_non fun _ => .non
theorem j_str {x : Str} {j : Nat} : JE X xc W Γ (.Constant (.str x) j pos) (.k (.str x)) := pd_k pe_str fun _ => .str x
/-- a name of the module that holds a constant -/
def GV (mg : Str → Option Value) (x : Str) (v : V) : Prop := ∃ u, mg x = some u ∧ RelV v u
theorem j_gstr {x y : Str} (hv : GV X.mg x (.str y)) (hg : Gl X x := by rfl) (hd : (x == ("__debug__" : Str)) = false := by decide) : JE X xc W Γ (.Name x pos) (.k (.str y)) := by
  obtain ⟨u, hm, r⟩ := hv
  exact pd_k (pe_glob hg hm r hd) fun _ => .str y
theorem j_gint {x : Str} {i : Int} (hv : GV X.mg x (.int i)) (hg : Gl X x := by rfl) (hd : (x == ("__debug__" : Str)) = false := by decide) : JE X xc W Γ (.Name x pos) (.k (.int i)) := by
  obtain ⟨u, hm, r⟩ := hv
  exact pd_k (pe_glob hg hm r hd) fun _ => .int i
theorem j_v (i : Nat) {x : Str} (hN : X.N[i]? = some x := by rfl) (hv : Vis X.env.scope x := by first | exact Or.inl rfl | exact Or.inr (Or.inl rfl) | exact Or.inr (Or.inr rfl)) (hd : (x == ("__debug__" : Str)) = false := by decide) (hcd : (x == ("__classdict__" : Str)) = false := by decide) :
    JE X xc W Γ (.Name x pos) (.v i) := pd_v (pe_var hN hv hd hcd)
theorem j_bin (o : BOp) (ha : JE X xc W Γ a ca) (hb : JE X xc W Γ b cb) : JE X xc W Γ (.BinOp a (opOf o) b pos) (.bin o ca cb) := pd_op (bin_ok o) ha hb
theorem j_neg (ha : JE X xc W Γ a ca) : JE X xc W Γ (.UnaryOp .USub a pos) (.neg ca) := pd_neg ha
theorem j_cmp (o : COp) (ok : Okx X k) (ha : JE X xc W Γ a ca) (hb : JE X xc W Γ b cb) (hm : behindInMarks (copOf o) b = false := by rfl) : JE X xc W Γ (.Compare a [copOf o] [b] pos) (.cmp o ca cb) := pd_cmp (cmp_ok ok.hu o) hm ha hb
theorem jt_cmp (o : COp) (ok : Okx X k) (ha : JE X xc W Γ a ca) (hb : JE X xc W Γ b cb) (hm : behindInMarks (copOf o) b = false := by rfl) : JT X xc W Γ (.Compare a [copOf o] [b] pos) (.cmp o ca cb) := pdt_cmp (cmp_ok ok.hu o) hm ha hb
theorem j_chain (o o' : COp) (ok : Okx X k) (ha : JE X xc W Γ a ca) (hb : JE X xc W Γ b cb) (hc : JE X xc W Γ c cc) (hm : behindInMarks (copOf o') c = false := by rfl) : JE X xc W Γ (.Compare a [copOf o, copOf o'] [b, c] pos) (.chain o o' ca cb cc) := pd_chain ok.hu hm ha hb hc
theorem jt_chain (o o' : COp) (ok : Okx X k) (ha : JE X xc W Γ a ca) (hb : JE X xc W Γ b cb) (hc : JE X xc W Γ c cc) (hm : behindInMarks (copOf o') c = false := by rfl) : JT X xc W Γ (.Compare a [copOf o, copOf o'] [b, c] pos) (.chain o o' ca cb cc) := pdt_chain ok.hu hm ha hb hc
theorem j_one {op : BoolOp} (ha : JE X xc W Γ a ca) : JE X xc W Γ (.BoolOp op [a] pos) ca := pe_one ha
theorem j_and (ha : JE X xc W Γ a ca) (hb : JE X xc W Γ (.BoolOp .And (b :: rest) pos) cb) : JE X xc W Γ (.BoolOp .And (a :: b :: rest) pos) (.and ca cb) := pd_and ha hb
theorem j_or (ha : JE X xc W Γ a ca) (hb : JE X xc W Γ (.BoolOp .Or (b :: rest) pos) cb) : JE X xc W Γ (.BoolOp .Or (a :: b :: rest) pos) (.or ca cb) := pd_or ha hb
theorem j_not (ha : JE X xc W Γ a ca) : JE X xc W Γ (.UnaryOp .Not a pos) (.not ca) := pd_not ha
theorem jt_val (h : JE X xc W Γ e ce) (he : ∀ whole, isTrue e X.env whole = (do let v ← whole; standAt e.pos; holding [v] (truthy v)) := by intro _; rfl) : JT X xc W Γ e ce := pt_of h he
theorem jw_and1 (ha : JT X xc W Γ a ca) : JW X xc W Γ (.BoolOp .And [a] pos) ca := pw_and1 ha
theorem jw_or1 (ha : JT X xc W Γ a ca) : JW X xc W Γ (.BoolOp .Or [a] pos) ca := pw_or1 ha
theorem jw_and (ha : JT X xc W Γ a ca) (hb : JW X xc W Γ (.BoolOp .And (b :: rest) pos) cb) : JW X xc W Γ (.BoolOp .And (a :: b :: rest) pos) (.and ca cb) := pdt_and ha hb
theorem jw_or (ha : JT X xc W Γ a ca) (hb : JW X xc W Γ (.BoolOp .Or (b :: rest) pos) cb) : JW X xc W Γ (.BoolOp .Or (a :: b :: rest) pos) (.or ca cb) := pdt_or ha hb
theorem jt_w (h : JW X xc W Γ e ce) : JT X xc W Γ e ce := PW.pt h
theorem jt_not (ha : JT X xc W Γ a ca) : JT X xc W Γ (.UnaryOp .Not a pos) (.not ca) := pdt_not ha
theorem j_ite (ht : JT X xc W Γ c cc) (ha : JE X xc W Γ a ca) (hb : JE X xc W Γ b cb) : JE X xc W Γ (.IfExp c a b pos) (.ite cc ca cb) := pd_ite ht ha hb
theorem jl_nil : JL X xc W Γ [] [] := pda_nil
theorem jl_cons (h : JE X xc W Γ e ce) (hr : JL X xc W Γ es cs) (hs : starEach (e :: es) X.env = (false, eval e X.env) :: starEach es X.env := by rfl) (hc : evL Γ (ce :: cs) = fun env => consM (evC Γ ce env) (evL Γ cs env) := by rfl) : JL X xc W Γ (e :: es) (ce :: cs) := by
  unfold JL
  rw [hc]
  exact pda_cons h hr hs
theorem jl_star (h : JE X xc W Γ e ce) (hr : JL X xc W Γ es cs) : JL X xc W Γ (.Starred e p :: es) (.star ce :: cs) := pda_star h hr
theorem jn_nil : JN X xc W Γ [] [] := ⟨pda_nil, rfl⟩
theorem jn_cons (h : JE X xc W Γ e ce) (hr : JN X xc W Γ es cs) (hs : starEach (e :: es) X.env = (false, eval e X.env) :: starEach es X.env := by rfl) : JN X xc W Γ (e :: es) (ce :: cs) := ⟨pda_consN h hr.1 hs, by rw [List.length_cons, List.length_cons, hr.2]⟩
theorem j_tup {n : Nat} (h : JL X xc W Γ es cs) : JE X xc W Γ (.Tuple es n pos) (.tup cs) := pd_tup h
theorem j_lst (h : JL X xc W Γ es cs) : JE X xc W Γ (.List es pos) (.lst cs) := pd_lst h
theorem j_dct0 : JE X xc W Γ (.Dict [] [] pos) .dct0 := by
  refine ⟨fun pins s σ H Q I ⟨w, env, s0, rel, p⟩ => thn (pe_dnewK.run pins s σ H (fun v H' => ∃ a, v = .ref a ∧ H a = none ∧ H' = upd H a (.dK [])) I fun a ha => ⟨a, rfl, ha, rfl⟩) fun u s1 ⟨v, H1, I1, r, a, e1, ha, e2⟩ => ?_⟩
  subst e1 e2
  obtain ⟨o, I2⟩ := I1.lock upd_same trivial
  rw [upd_upd] at I2
  have sm : Same H (upd H a (.frz o (.dK []))) := snew ha
  exact ⟨.ref a, _, I2, r, p _ _ w (sgo sm) (rel.st.same sm) (.of (.dct (DctAt.zero upd_same) .nil))⟩
theorem evN_len : ∀ {cs : List C} {env : Env'} {s s' : SS} {ds : List D}, evN Γ cs env s = .ok ds s' → ds.length = cs.length
  | [], env, s, s', ds, h => by
    have h' : R.ok [] s = R.ok ds s' := h
    cases h'
    rfl
  | c :: cs, env, s, s', ds, h => by
    have h' : consN (evC Γ c env) (evN Γ cs env) s = .ok ds s' := h
    unfold consN at h'
    rw [M_bind] at h'
    unfold M.bnd at h'
    cases e : evC Γ c env s with
    | ok d s1 =>
      rw [e] at h'
      dsimp only at h'
      rw [M_bind] at h'
      unfold M.bnd at h'
      cases e2 : evN Γ cs env s1 with
      | ok r s2 =>
        rw [e2] at h'
        cases h'
        rw [List.length_cons, List.length_cons, evN_len e2]
      | exc _ _ _ => rw [e2] at h'; cases h'
      | stuck => rw [e2] at h'; cases h'
    | exc _ _ _ => rw [e] at h'; cases h'
    | stuck => rw [e] at h'; cases h'
theorem evL_len1 {env : Env'} {s s' : SS} {ds : List D} (hc : evL Γ [ce] = fun env => consM (evC Γ ce env) (evL Γ [] env)) (h : evL Γ [ce] env s = .ok ds s') : ds.length = 1 := by
  rw [hc] at h
  have h' : consM (evC Γ ce env) (M.ret []) s = .ok ds s' := h
  unfold consM at h'
  simp only [M_bind] at h'
  unfold M.bnd at h'
  cases e : evC Γ ce env s with
  | ok d s1 =>
    rw [e] at h'
    dsimp only at h'
    cases e2 : frz d s1 with
    | ok d2 s2 => rw [e2] at h'; cases h'; rfl
    | exc _ _ _ => rw [e2] at h'; cases h'
    | stuck => rw [e2] at h'; cases h'
  | exc _ _ _ => rw [e] at h'; cases h'
  | stuck => rw [e] at h'; cases h'
theorem evL_len2 {env : Env'} {s s' : SS} {ds : List D} (hc : evL Γ [ca, cb] = fun env => consM (evC Γ ca env) (evL Γ [cb] env)) (hc2 : evL Γ [cb] = fun env => consM (evC Γ cb env) (evL Γ [] env)) (h : evL Γ [ca, cb] env s = .ok ds s') : ds.length = 2 := by
  rw [hc] at h
  have h' : consM (evC Γ ca env) (evL Γ [cb] env) s = .ok ds s' := h
  unfold consM at h'
  simp only [M_bind] at h'
  unfold M.bnd at h'
  cases e : evC Γ ca env s with
  | ok d s1 =>
    rw [e] at h'
    dsimp only at h'
    cases e2 : frz d s1 with
    | ok d2 s2 =>
      rw [e2] at h'
      dsimp only at h'
      cases e3 : evL Γ [cb] env s2 with
      | ok r s3 =>
        rw [e3] at h'
        cases h'
        rw [List.length_cons, evL_len1 hc2 e3]
      | exc _ _ _ => rw [e3] at h'; cases h'
      | stuck => rw [e3] at h'; cases h'
    | exc _ _ _ => rw [e2] at h'; cases h'
    | stuck => rw [e2] at h'; cases h'
  | exc _ _ _ => rw [e] at h'; cases h'
  | stuck => rw [e] at h'; cases h'
theorem j_call {x : Str} {ps : List Str} {f : Nat} (F : FnAt X.prog X.w X.K X.mg X.base xc (k + 1) x ps (Γ f)) (ok : Okx X k) (tk : Takes X W) (ha : JN X xc W Γ (e :: es) cs) (hl : (e :: es).length = ps.length := by rfl) (hg : Gl X x := by rfl) (hdb : (x == ("__debug__" : Str)) = false := by decide)
    (he : starEach (e :: es) X.env = (false, eval e X.env) :: starEach es X.env := by rfl) (hpl : (backTo pos (starEach es X.env)).any (·.1) = false := by rfl) : JE X xc W Γ (.Call (.Name x p) (e :: es) [] pos) (.call f cs) :=
  pd_call F ok.hr ok.gd hg tk (fun env s ds s' h => by rw [evN_len h, ← ha.2, hl]) ha.1 hdb he hpl
theorem j_attr {f : Str} (ha : JE X xc W Γ a ca) (hb : attributeBase a f X.env (eval a X.env) = eval a X.env := by rfl) : JE X xc W Γ (.Attribute a f pos) (.attr ca f) := pd_fld ha hb
/-- a method, as the table has it -/
def MtG (P : Program) (w : World) (K : PySem.W.Frag) (mg : Str → Option Value) (base : Heap) (xc : XC) (k : Nat) (m : Str) (ps : List Str) (g : List D → M D) : Prop := ∃ C mm, g = methM C m mm ∧ MtAt P w K mg base xc k C m ps mm
/-- a class, as the table has it -/
def MkG (P : Program) (w : World) (K : PySem.W.Frag) (mg : Str → Option Value) (base : Heap) (xc : XC) (k : Nat) (x : Str) (ps : List Str) (g : List D → M D) : Prop := ∃ C fn N b, g = mkM C fn N b ∧ MkAt P w K mg base xc k x C ps fn N b
theorem j_meth {o : Expr} {co : C} {m : Str} {ps : List Str} {f : Nat} {apos : Pos} {pl : Sem Bool} (F : MtG X.prog X.w X.K X.mg X.base xc (k + 1) m ps (Γ f)) (ok : Okx X k) (tk : Takes X W) (ho : JE X xc W Γ o co) (ha : JN X xc W Γ (e :: es) cs) (hl : (e :: es).length = ps.length := by rfl)
    (he : starEach (e :: es) X.env = (false, eval e X.env) :: starEach es X.env := by rfl) (hpl : (backTo pos (starEach es X.env)).any (·.1) = false := by rfl)
    (ht : eval (.Call (.Attribute o m apos) (e :: es) [] pos) X.env = (do
      let ov ← eval o X.env
      standAt apos.atName
      let (f, first) ← holding [ov] (getMethod ov m pl)
      callWith pos f first (backTo pos (starEach (e :: es) X.env)) (backToKw pos (keywordEach [] X.env))) := by rfl) : JE X xc W Γ (.Call (.Attribute o m apos) (e :: es) [] pos) (.meth f co cs) := by
  obtain ⟨C, mm, eg, F⟩ := F
  unfold JE
  show PE X _ (tE X.K xc W fun env => evC Γ co env >>= fun x => M.calm (evN Γ cs env) >>= fun ys => Γ f (x :: ys))
  rw [eg]
  exact pd_meth ho F ok.hr ok.gd tk (fun env s ds s' h => by rw [evN_len h, ← ha.2, hl]) ha.1 he hpl ht
theorem j_meth0 {o : Expr} {co : C} {m : Str} {f : Nat} {apos : Pos} {pl : Sem Bool} (F : MtG X.prog X.w X.K X.mg X.base xc (k + 1) m [] (Γ f)) (ok : Okx X k) (tk : Takes X W) (ho : JE X xc W Γ o co)
    (ht : eval (.Call (.Attribute o m apos) [] [] pos) X.env = (do
      let ov ← eval o X.env
      standAt apos.atName
      let (f, first) ← holding [ov] (getMethod ov m pl)
      callWith pos f first (backTo pos (starEach [] X.env)) (backToKw pos (keywordEach [] X.env))) := by rfl) : JE X xc W Γ (.Call (.Attribute o m apos) [] [] pos) (.meth f co []) := by
  obtain ⟨C, mm, eg, F⟩ := F
  unfold JE
  show PE X _ (tE X.K xc W fun env => evC Γ co env >>= fun x => M.calm (M.ret []) >>= fun ys => Γ f (x :: ys))
  rw [eg]
  exact pd_meth0 ho F ok.hr ok.gd tk ht
theorem j_make {x : Str} {ps : List Str} {f : Nat} (F : MkG X.prog X.w X.K X.mg X.base xc k x ps (Γ f)) (ok : Okx X k) (tk : Takes X W) (ha : JN X xc W Γ (e :: es) cs) (hl : (e :: es).length = ps.length := by rfl) (hg : Gl X x := by rfl) (hdb : (x == ("__debug__" : Str)) = false := by decide)
    (he : starEach (e :: es) X.env = (false, eval e X.env) :: starEach es X.env := by rfl) (hpl : (backTo pos (starEach es X.env)).any (·.1) = false := by rfl) : JE X xc W Γ (.Call (.Name x p) (e :: es) [] pos) (.call f cs) := by
  obtain ⟨C, fn, N, b, eg, F⟩ := F
  unfold JE
  show PE X _ (tE X.K xc W fun env => evN Γ cs env >>= Γ f)
  rw [eg]
  exact pd_make F ok.hr ok.gd hg tk (fun env s ds s' h => by rw [evN_len h, ← ha.2, hl]) ha.1 hdb he hpl
theorem j_lstO (h : JL X xc W Γ es cs) : JE X xc W Γ (.List es pos) (.lstO cs) := pd_lstO h
theorem j_dctO (t : Bool) : JE X xc W Γ (.Dict [] [] pos) (.dctO t) := pd_dctO t
theorem j_oget (ok : Okx X k) (ha : JE X xc W Γ a ca) (hb : JE X xc W Γ b cb) (hs : NoSl b := by intro _ _; rfl) : JE X xc W Γ (.Subscript a b pos) (.oget ca cb) := pd_oget (by have := ok.hu; omega) ha hb hs
theorem j_omin (ok : Okx X k) (hm : X.mg "min" = none) (ha : JE X xc W Γ a ca) (hg : Gl X "min" := by rfl) (he : starEach [a] X.env = [(false, eval a X.env)] := by rfl) : JE X xc W Γ (.Call (.Name "min" p) [a] [] pos) (.omin ca) := pd_omin ok.cm hg hm ha he boot_min'
theorem j_dc {kx vx tg iter : Expr} {ifs : List Expr} {scope : Scope} {own : List (Str × Nat)} {t : T} {ci ct ck cv : C} (ok : Okx X k) (bk : BlkOk X.N X.env.scope scope own) (hi : JI X xc W Γ tg iter ci)
    (hg : ∀ (s : Shared) (H : Hp) (C : Addr) (cl : List (Str × Addr)) (fp : List Addr), JG (X.blk s H scope (compEnvC scope cl C X.env) fp) tg t)
    (ht : ∀ (s : Shared) (H : Hp) (C : Addr) (cl : List (Str × Addr)) (fp : List Addr), JTs (X.blk s H scope (compEnvC scope cl C X.env) fp) xc WF Γ ifs ct)
    (hk : ∀ (s : Shared) (H : Hp) (C : Addr) (cl : List (Str × Addr)) (fp : List Addr), JE (X.blk s H scope (compEnvC scope cl C X.env) fp) xc WF Γ kx ck)
    (he : ∀ (s : Shared) (H : Hp) (C : Addr) (cl : List (Str × Addr)) (fp : List Addr), JE (X.blk s H scope (compEnvC scope cl C X.env) fp) xc WF Γ vx cv)
    (hsub : ∀ j ∈ slotsT t, j ∈ own.map (·.2)) (hs : ∀ x, foldedSetIterable iter X.env x = pure x := by intro _; rfl) :
    JE X xc W Γ (.DictComp kx vx [⟨tg, iter, ifs, 0⟩] scope pos) (.dc (own.map (·.2)) t ci ct ck cv) := pd_dc ok.cm ok.nd hi bk hg ht hk he hs hsub
theorem js_fld (i : Nat) {o : Expr} {f : Str} {pos' : Pos} (ha : JE X xc W Γ e ce) (ho : PE X o (fun σ H Q => ∃ v, σ[i]? = some (some v) ∧ Q v H)) (hs : swapsWith e (some (.Attribute o f pos')) pos.line X.env = pure false := by rfl) : JS X xc W Γ (.Assign [.Attribute o f pos'] e pos) (.fld i f ce) := pds_fld ho ha hs
theorem js_parT {vs : List Expr} {p3 p4 : Pos} {kt k2 : Nat} {ts : List T} (ok : Okx X k) (hg : JGs X es ts) (ha : JN X xc W Γ vs cs) (hn : (assignEach es X.env).length = ts.length := by rfl) (hst : (assignEach es X.env).findIdx? (·.1) = none := by rfl)
    (hs : swapsWithSole [.Tuple es kt p3] (.Tuple vs k2 p4) pos.line X.env = pure false := by rfl) (hw : swappedStores [.Tuple es kt p3] (.Tuple vs k2 p4) X.env = pure none := by rfl)
    (h1 : (assignEach [.Tuple es kt p3] X.env).map (·.2) = [assign (.Tuple es kt p3) X.env] := by rfl) : JS X xc W Γ (.Assign [.Tuple es kt p3] (.Tuple vs k2 p4) pos) (.parT ts cs) := pds_parT ok.cm hg ha.1 hn hst hs hw h1
theorem js_app {o : Expr} {co : C} {apos cpos : Pos} (ho : JE X xc W Γ o co) (he : JE X xc W Γ e ce) (hst : starEach [e] X.env = [(false, eval e X.env)] := by rfl) (hbase : attributeBase o "append" X.env (eval o X.env) = eval o X.env := by rfl)
    (hfew : ((backTo cpos (starEach [e] X.env)).all (fun x => !x.1) && (backToKw cpos (keywordEach [] X.env)).all (fun x => x.1.isSome)
      && decide ([e].length + ([] : List Keyword).length + (if ([] : List Keyword).isEmpty then 0 else 1) < 30)) = true := by rfl)
    (hline : (apos.endLine == cpos.line) = true := by rfl) (hsw : swapsWith (.Call (.Attribute o "append" apos) [e] [] cpos) none pos.line X.env = pure false := by rfl) : JS X xc W Γ (.Expr (.Call (.Attribute o "append" apos) [e] [] cpos) pos) (.app co ce) := pds_app ho he hst hbase hfew hline hsw
theorem js_dput {pos' : Pos} (ok : Okx X k) (ho : JE X xc W Γ a ca) (hk : JE X xc W Γ b cb) (hv : JE X xc W Γ e ce) (hs : swapsWith e (some (.Subscript a b pos')) pos.line X.env = pure false := by rfl) : JS X xc W Γ (.Assign [.Subscript a b pos'] e pos) (.dput ca cb ce) := pds_dput (by have := ok.hu; omega) ho hk hv hs
theorem js_dputp (j : Nat) {o i : Expr} {co ci : C} {x : Str} {p1 p2 p3 p4 : Pos} {kt k2 : Nat} (ok : Okx X k) (ho : JE X xc W Γ o co) (hk : JE X xc W Γ i ci) (ha : JN X xc W Γ [a, b] [ca, cb]) (hj : X.N[j]? = some x := by rfl) (hx : Loc X.env.scope x := by first | exact Or.inl rfl | exact Or.inr rfl) (hf : X.fn x = true ∨ X.env.scope.names.lookup x = some .local := by first | exact .inl rfl | exact .inr rfl)
    (hs : swapsWithSole [.Tuple [.Subscript o i p1, .Name x p2] kt p3] (.Tuple [a, b] k2 p4) pos.line X.env = pure false := by rfl) (hw : swappedStores [.Tuple [.Subscript o i p1, .Name x p2] kt p3] (.Tuple [a, b] k2 p4) X.env = pure none := by rfl)
    (h1 : (assignEach [.Tuple [.Subscript o i p1, .Name x p2] kt p3] X.env).map (·.2) = [assign (.Tuple [.Subscript o i p1, .Name x p2] kt p3) X.env] := by rfl)
    (h2 : (assignEach [.Subscript o i p1, .Name x p2] X.env).map (·.2) = assign (.Subscript o i p1) X.env :: (assignEach [.Name x p2] X.env).map (·.2) := by rfl)
    (h3 : (assignEach [.Name x p2] X.env).map (·.2) = assign (.Name x p2) X.env :: (assignEach [] X.env).map (·.2) := by rfl)
    (h4 : (assignEach [.Subscript o i p1, .Name x p2] X.env).length = 2 := by rfl) (h5 : (assignEach [.Subscript o i p1, .Name x p2] X.env).findIdx? (·.1) = none := by rfl)
    (h6 : ∀ v, assign (.Subscript o i p1) X.env v = (do
      let ov ← holding [v] (eval o X.env)
      let iv ← holding [v, ov] (eval i X.env)
      standAt p1
      holding [v, ov, iv] (setItem ov iv v)
      release [v, ov, iv] []) := by intro _; rfl) :
    JS X xc W Γ (.Assign [.Tuple [.Subscript o i p1, .Name x p2] kt p3] (.Tuple [a, b] k2 p4) pos) (.dputp co ci j ca cb) := pds_dputp ok.cm ok.nd hj hx hf (by have := ok.hu; omega) ho hk ha.1 hs hw h1 h2 h3 h4 h5 h6
theorem j_bi {x : Str} {id : String} (bi : BI) (hc : CallP X (.builtin id) (biD bi)) (hm : X.mg x = none) (hv : bootBuiltins x = some (.builtin id)) (ha : JN X xc W Γ (e :: es) cs) (hg : Gl X x := by rfl) (hn : x ≠ "__name__" := by decide) (hdb : (x == ("__debug__" : Str)) = false := by decide)
    (he : starEach (e :: es) X.env = (false, eval e X.env) :: starEach es X.env := by rfl) (hpl : (backTo pos (starEach es X.env)).any (·.1) = false := by rfl) : JE X xc W Γ (.Call (.Name x p) (e :: es) [] pos) (.bi bi cs) := pd_bi hc hg hm hv ha.1 hn hdb he hpl
theorem j_bt {x : Str} {id : String} (bi : BI) (hc : CallP X (.type id) (biD bi)) (hm : X.mg x = none) (hv : bootBuiltins x = some (.type id)) (ha : JN X xc W Γ (e :: es) cs) (hg : Gl X x := by rfl) (hn : x ≠ "__name__" := by decide) (hdb : (x == ("__debug__" : Str)) = false := by decide)
    (he : starEach (e :: es) X.env = (false, eval e X.env) :: starEach es X.env := by rfl) (hpl : (backTo pos (starEach es X.env)).any (·.1) = false := by rfl) : JE X xc W Γ (.Call (.Name x p) (e :: es) [] pos) (.bi bi cs) := pd_biT hc hg hm hv ha.1 hn hdb he hpl
theorem boot_len' : bootBuiltins "len" = some (.builtin "len") := by decide +kernel
theorem boot_all' : bootBuiltins "all" = some (.builtin "all") := by decide +kernel
theorem boot_any' : bootBuiltins "any" = some (.builtin "any") := by decide +kernel
theorem boot_max' : bootBuiltins "max" = some (.builtin "max") := by decide +kernel
theorem boot_rep' : bootBuiltins "repr" = some (.builtin "repr") := by decide +kernel
theorem boot_srt' : bootBuiltins "sorted" = some (.builtin "sorted") := by decide +kernel
theorem boot_int' : bootBuiltins "int" = some (.type "int") := by decide +kernel
theorem boot_tup' : bootBuiltins "tuple" = some (.type "tuple") := by decide +kernel
theorem boot_lst' : bootBuiltins "list" = some (.type "list") := by decide +kernel
theorem boot_str' : bootBuiltins "str" = some (.type "str") := by decide +kernel
theorem boot_bool' : bootBuiltins "bool" = some (.type "bool") := by decide +kernel
theorem boot_dict' : bootBuiltins "dict" = some (.type "dict") := by decide +kernel
theorem j_len (hm : X.mg "len" = none) (ha : JN X xc W Γ (e :: es) cs) (hg : Gl X "len" := by rfl) (he : starEach (e :: es) X.env = (false, eval e X.env) :: starEach es X.env := by rfl) (hpl : (backTo pos (starEach es X.env)).any (·.1) = false := by rfl) : JE X xc W Γ (.Call (.Name "len" p) (e :: es) [] pos) (.bi .len cs) := j_bi .len len_ok hm boot_len' ha hg (by decide) (by decide) he hpl
theorem j_all (ok : Okx X k) (hm : X.mg "all" = none) (ha : JN X xc W Γ (e :: es) cs) (hg : Gl X "all" := by rfl) (he : starEach (e :: es) X.env = (false, eval e X.env) :: starEach es X.env := by rfl) (hpl : (backTo pos (starEach es X.env)).any (·.1) = false := by rfl) : JE X xc W Γ (.Call (.Name "all" p) (e :: es) [] pos) (.bi .all cs) := j_bi .all (all_ok ok.cm) hm boot_all' ha hg (by decide) (by decide) he hpl
theorem j_any (ok : Okx X k) (hm : X.mg "any" = none) (ha : JN X xc W Γ (e :: es) cs) (hg : Gl X "any" := by rfl) (he : starEach (e :: es) X.env = (false, eval e X.env) :: starEach es X.env := by rfl) (hpl : (backTo pos (starEach es X.env)).any (·.1) = false := by rfl) : JE X xc W Γ (.Call (.Name "any" p) (e :: es) [] pos) (.bi .any cs) := j_bi .any (any_ok ok.cm) hm boot_any' ha hg (by decide) (by decide) he hpl
theorem j_min (ok : Okx X k) (hm : X.mg "min" = none) (ha : JN X xc W Γ (e :: es) cs) (hg : Gl X "min" := by rfl) (he : starEach (e :: es) X.env = (false, eval e X.env) :: starEach es X.env := by rfl) (hpl : (backTo pos (starEach es X.env)).any (·.1) = false := by rfl) : JE X xc W Γ (.Call (.Name "min" p) (e :: es) [] pos) (.bi .min cs) := j_bi .min (min_ok ok.cm) hm boot_min' ha hg (by decide) (by decide) he hpl
theorem j_max (ok : Okx X k) (hm : X.mg "max" = none) (ha : JN X xc W Γ (e :: es) cs) (hg : Gl X "max" := by rfl) (he : starEach (e :: es) X.env = (false, eval e X.env) :: starEach es X.env := by rfl) (hpl : (backTo pos (starEach es X.env)).any (·.1) = false := by rfl) : JE X xc W Γ (.Call (.Name "max" p) (e :: es) [] pos) (.bi .max cs) := j_bi .max (max_ok ok.cm) hm boot_max' ha hg (by decide) (by decide) he hpl
theorem j_repr (ok : Okx X k) (hm : X.mg "repr" = none) (ha : JN X xc W Γ (e :: es) cs) (hg : Gl X "repr" := by rfl) (he : starEach (e :: es) X.env = (false, eval e X.env) :: starEach es X.env := by rfl) (hpl : (backTo pos (starEach es X.env)).any (·.1) = false := by rfl) : JE X xc W Γ (.Call (.Name "repr" p) (e :: es) [] pos) (.bi .repr cs) := j_bi .repr (repr_ok ok.gd ok.hu) hm boot_rep' ha hg (by decide) (by decide) he hpl
theorem j_sorted (ok : Okx X k) (hm : X.mg "sorted" = none) (ha : JN X xc W Γ (e :: es) cs) (hg : Gl X "sorted" := by rfl) (he : starEach (e :: es) X.env = (false, eval e X.env) :: starEach es X.env := by rfl) (hpl : (backTo pos (starEach es X.env)).any (·.1) = false := by rfl) : JE X xc W Γ (.Call (.Name "sorted" p) (e :: es) [] pos) (.bi .sorted cs) := j_bi .sorted (sorted_ok ok.hu) hm boot_srt' ha hg (by decide) (by decide) he hpl
theorem j_toint (hm : X.mg "int" = none) (ha : JN X xc W Γ (e :: es) cs) (hg : Gl X "int" := by rfl) (he : starEach (e :: es) X.env = (false, eval e X.env) :: starEach es X.env := by rfl) (hpl : (backTo pos (starEach es X.env)).any (·.1) = false := by rfl) : JE X xc W Γ (.Call (.Name "int" p) (e :: es) [] pos) (.bi .int cs) := j_bt .int int_ok hm boot_int' ha hg (by decide) (by decide) he hpl
theorem j_totup (hm : X.mg "tuple" = none) (ha : JN X xc W Γ (e :: es) cs) (hg : Gl X "tuple" := by rfl) (he : starEach (e :: es) X.env = (false, eval e X.env) :: starEach es X.env := by rfl) (hpl : (backTo pos (starEach es X.env)).any (·.1) = false := by rfl) : JE X xc W Γ (.Call (.Name "tuple" p) (e :: es) [] pos) (.bi .tuple cs) := j_bt .tuple tuple_ok hm boot_tup' ha hg (by decide) (by decide) he hpl
theorem j_tolst (hm : X.mg "list" = none) (ha : JN X xc W Γ (e :: es) cs) (hg : Gl X "list" := by rfl) (he : starEach (e :: es) X.env = (false, eval e X.env) :: starEach es X.env := by rfl) (hpl : (backTo pos (starEach es X.env)).any (·.1) = false := by rfl) : JE X xc W Γ (.Call (.Name "list" p) (e :: es) [] pos) (.bi .list cs) := j_bt .list list_ok hm boot_lst' ha hg (by decide) (by decide) he hpl
theorem j_todict (ok : Okx X k) (hm : X.mg "dict" = none) (ha : JN X xc W Γ (e :: es) cs) (hg : Gl X "dict" := by rfl) (he : starEach (e :: es) X.env = (false, eval e X.env) :: starEach es X.env := by rfl) (hpl : (backTo pos (starEach es X.env)).any (·.1) = false := by rfl) : JE X xc W Γ (.Call (.Name "dict" p) (e :: es) [] pos) (.bi .dict cs) := j_bt .dict (dict_ok ok.cm ok.hu) hm boot_dict' ha hg (by decide) (by decide) he hpl
theorem j_dzip {p3 : Pos} (ok : Okx X k) (hm : X.mg "dict" = none) (hmz : X.mg "zip" = none) (ha : JN X xc W Γ (e :: es) cs) (hg : Gl X "dict" := by rfl) (hgz : Gl X "zip" := by rfl) (he : starEach (e :: es) X.env = (false, eval e X.env) :: starEach es X.env := by rfl) (hpl : (backTo p3 (starEach es X.env)).any (·.1) = false := by rfl)
    (he0 : starEach [.Call (.Name "zip" p2) (e :: es) [] p3] X.env = [(false, eval (.Call (.Name "zip" p2) (e :: es) [] p3) X.env)] := by rfl) : JE X xc W Γ (.Call (.Name "dict" p) [.Call (.Name "zip" p2) (e :: es) [] p3] [] pos) (.dzip cs) := pd_dzip ok.cm ok.hu hg hm hgz hmz ha.1 he hpl he0
theorem j_isi (t : Ty) {x : Str} {b : String} (hmi : X.mg "isinstance" = none) (hm : X.mg x = none) (hv : bootBuiltins x = some (.type b)) (ha : JE X xc W Γ a ca) (hb : t.name = some b := by rfl) (hg : Gl X "isinstance" := by rfl) (hgx : Gl X x := by rfl) (hn : x ≠ "__name__" := by decide) (hd : (x == ("__debug__" : Str)) = false := by decide)
    (he : starEach [a, .Name x p2] X.env = (false, eval a X.env) :: starEach [.Name x p2] X.env := by rfl) (he2 : starEach [.Name x p2] X.env = [(false, eval (.Name x p2) X.env)] := by rfl) : JE X xc W Γ (.Call (.Name "isinstance" p) [a, .Name x p2] [] pos) (.isi ca [t]) := pd_isi hg hmi hb ha (pe_bltn hgx hm hv rfl hn hd) he he2
theorem j_isi2 (t1 t2 : Ty) {x y : Str} {b1 b2 : String} {kt : Nat} {p3 pt : Pos} (hmi : X.mg "isinstance" = none) (hm1 : X.mg x = none) (hv1 : bootBuiltins x = some (.type b1)) (hm2 : X.mg y = none) (hv2 : bootBuiltins y = some (.type b2)) (ha : JE X xc W Γ a ca) (hb1 : t1.name = some b1 := by rfl) (hb2 : t2.name = some b2 := by rfl) (hg : Gl X "isinstance" := by rfl) (hg1 : Gl X x := by rfl) (hg2 : Gl X y := by rfl)
    (hn1 : x ≠ "__name__" := by decide) (hd1 : (x == ("__debug__" : Str)) = false := by decide) (hn2 : y ≠ "__name__" := by decide) (hd2 : (y == ("__debug__" : Str)) = false := by decide)
    (he : starEach [a, .Tuple [.Name x p2, .Name y p3] kt pt] X.env = (false, eval a X.env) :: starEach [.Tuple [.Name x p2, .Name y p3] kt pt] X.env := by rfl)
    (he1 : starEach [.Name x p2, .Name y p3] X.env = (false, eval (.Name x p2) X.env) :: starEach [.Name y p3] X.env := by rfl) (he2 : starEach [.Name y p3] X.env = [(false, eval (.Name y p3) X.env)] := by rfl) :
    JE X xc W Γ (.Call (.Name "isinstance" p) [a, .Tuple [.Name x p2, .Name y p3] kt pt] [] pos) (.isi ca [t1, t2]) :=
  pd_isiT hg hmi ha (paimp (pa_cons (pe_bltn (v := .ty b1) hg1 hm1 hv1 rfl hn1 hd1) (pa_cons (pe_bltn (v := .ty b2) hg2 hm2 hv2 rfl hn2 hd2) pa_nil he2) he1) fun σ H Q h => by
    have e : tysOf [t1, t2] = [.ty b1, .ty b2] := by simp [tysOf, hb1, hb2]
    rw [e] at h
    exact h) (show 2 ≤ sizeLine by decide) he
theorem j_ix (ok : Okx X k) (ha : JE X xc W Γ a ca) (hb : JE X xc W Γ b cb) (hs : PlainIx b := by intro _ _; rfl) : JE X xc W Γ (.Subscript a b pos) (.ix ca cb) := pd_ix (by have := ok.hu; omega) hs ha hb
theorem jo_none : JO X xc W Γ none .nop := pdo_none
theorem jo_some (h : JE X xc W Γ e ce) (hc : evO Γ ce = fun env => intM (evC Γ ce env) := by rfl) : JO X xc W Γ (some e) ce := by
  unfold JO
  rw [hc]
  exact pdo_some h
theorem j_sl {lo hi : Option Expr} {cl ch : C} (ha : JE X xc W Γ a ca) (hl : JO X xc W Γ lo cl) (hh : JO X xc W Γ hi ch) : JE X xc W Γ (.Subscript a (.Slice lo hi none p2) pos) (.sl ca cl ch) := pd_sl ha hl hh
theorem j_slr {lo hi : Option Expr} {cl ch : C} {j : Nat} {p1 p3 : Pos} (ha : JE X xc W Γ a ca) (hl : JO X xc W Γ lo cl) (hh : JO X xc W Γ hi ch) : JE X xc W Γ (.Subscript a (.Slice lo hi (some (.UnaryOp .USub (.Constant (.int 1) j p1) p2)) p3) pos) (.slr ca cl ch) := pd_back ha hl hh
/-! what is walked -/
theorem ji_walk {tg : Expr} (h : JE X xc W Γ e ce) (hc : evI Γ ce = fun env => walkM (evC Γ ce env) := by rfl) : JI X xc W Γ tg e ce := by
  unfold JI
  rw [hc]
  exact pdi_walk h
theorem ji_rng1 {tg : Expr} (hm : X.mg "range" = none) (ha : JL X xc W Γ [a] [ca]) (hg : Gl X "range" := by rfl) (hs : starEach [a] X.env = [(false, eval a X.env)] := by rfl) (hc : evL Γ [ca] = fun env => consM (evC Γ ca env) (evL Γ [] env) := by rfl) : JI X xc W Γ tg (.Call (.Name "range" p) [a] [] pos) (.rng [ca]) :=
  pdi_rng1 hg hm ha hs fun env s ds s' h => evL_len1 hc h
theorem ji_rng2 {tg : Expr} (hm : X.mg "range" = none) (ha : JL X xc W Γ [a, b] [ca, cb]) (hg : Gl X "range" := by rfl) (hs : starEach [a, b] X.env = [(false, eval a X.env), (false, eval b X.env)] := by rfl) (hs2 : starEach [b] X.env = [(false, eval b X.env)] := by rfl)
    (hc : evL Γ [ca, cb] = fun env => consM (evC Γ ca env) (evL Γ [cb] env) := by rfl) (hc2 : evL Γ [cb] = fun env => consM (evC Γ cb env) (evL Γ [] env) := by rfl) : JI X xc W Γ tg (.Call (.Name "range" p) [a, b] [] pos) (.rng [ca, cb]) :=
  pdi_rng2 hg hm ha hs hs2 fun env s ds s' h => evL_len2 hc hc2 h
theorem ji_zip {elts : List Expr} {kk : Nat} {tpos : Pos} (hm : X.mg "zip" = none) (ha : JL X xc W Γ [a, b] cs) (hg : Gl X "zip" := by rfl) (hs : starEach [a, b] X.env = (false, eval a X.env) :: starEach [b] X.env := by rfl) (hpl : (backTo pos (starEach [b] X.env)).any (·.1) = false := by rfl) :
    JI X xc W Γ (.Tuple elts kk tpos) (.Call (.Name "zip" p) [a, b] [] pos) (.zip cs) := pdi_zip hg hm ha hs hpl
theorem ji_enum {elts : List Expr} {kk : Nat} {tpos : Pos} (hm : X.mg "enumerate" = none) (ha : JL X xc W Γ [a] cs) (hg : Gl X "enumerate" := by rfl) (hs : starEach [a] X.env = [(false, eval a X.env)] := by rfl) : JI X xc W Γ (.Tuple elts kk tpos) (.Call (.Name "enumerate" p) [a] [] pos) (.enum cs) := pdi_enum hg hm ha hs
/-! targets -/
theorem jg_nm (i : Nat) {x : Str} (nd : X.N.Nodup) (hi : X.N[i]? = some x := by rfl) (hx : Loc X.env.scope x := by first | exact Or.inl rfl | exact Or.inr rfl) (hf : X.fn x = true ∨ X.env.scope.names.lookup x = some .local := by first | exact .inl rfl | exact .inr rfl) : JG X (.Name x pos) (.nm i) := pdg_nm (pg_name nd hi hx hf)
theorem jgs_nil : JGs X [] [] := pdgs_nil
theorem jgs_cons {t : T} {ts : List T} (h1 : JG X e t) (h2 : JGs X es ts) (hs : (assignEach (e :: es) X.env).map (·.2) = assign e X.env :: (assignEach es X.env).map (·.2) := by rfl) : JGs X (e :: es) (t :: ts) := pdgs_cons h1 h2 hs
theorem jg_tup {ts : List T} {n : Nat} (ok : Okx X k) (h : JGs X es ts) (hn : (assignEach es X.env).length = ts.length := by rfl) (hst : (assignEach es X.env).findIdx? (·.1) = none := by rfl) : JG X (.Tuple es n pos) (.tup ts) := pdg_tup ok.cm h hn hst
/-! tests of a comprehension -/
theorem jts_nil : JTs X xc W Γ [] (.k (.bl true)) := ⟨fun pins s σ H Q I ⟨w, env, s0, rel, p⟩ => pts_nil.run pins s σ H Q I (by
  obtain ⟨c, e1, q⟩ := p (.bl true) H w (Go.refl _ _) rel.st (.of (.bl true))
  cases e1
  exact q)⟩
theorem jts_one (h : JT X xc W Γ e ce) : JTs X xc W Γ [e] ce := pts_one h
/-! comprehensions -/
theorem j_lc {elt tg iter : Expr} {ifs : List Expr} {scope : Scope} {own : List (Str × Nat)} {t : T} {ci ct : C} (ok : Okx X k) (bk : BlkOk X.N X.env.scope scope own) (hi : JI X xc W Γ tg iter ci)
    (hg : ∀ (s : Shared) (H : Hp) (C : Addr) (cl : List (Str × Addr)) (fp : List Addr), JG (X.blk s H scope (compEnvC scope cl C X.env) fp) tg t)
    (ht : ∀ (s : Shared) (H : Hp) (C : Addr) (cl : List (Str × Addr)) (fp : List Addr), JTs (X.blk s H scope (compEnvC scope cl C X.env) fp) xc WF Γ ifs ct)
    (he : ∀ (s : Shared) (H : Hp) (C : Addr) (cl : List (Str × Addr)) (fp : List Addr), JE (X.blk s H scope (compEnvC scope cl C X.env) fp) xc WF Γ elt ce)
    (hsub : ∀ j ∈ slotsT t, j ∈ own.map (·.2)) (hs : ∀ x, foldedSetIterable iter X.env x = pure x := by intro _; rfl) :
    JE X xc W Γ (.ListComp elt [⟨tg, iter, ifs, 0⟩] scope pos) (.lc (own.map (·.2)) t ci ct ce) := pd_lc ok.cm ok.nd hi bk hg ht he hs hsub
theorem j_lc2 {elt tg iter tg1 iter1 : Expr} {ifs1 : List Expr} {scope : Scope} {own : List (Str × Nat)} {vs1 : List Nat} {t t2 : T} {ci ci2 ct : C} (ok : Okx X k) (bk : BlkOk X.N X.env.scope scope own) (hv : ∀ i ∈ vs1, i ∈ own.map (·.2)) (hi : JI X xc W Γ tg iter ci)
    (hg : ∀ (s : Shared) (H : Hp) (C : Addr) (cl : List (Str × Addr)) (fp : List Addr), JG (X.blk s H scope (compEnvC scope cl C X.env) fp) tg t)
    (hi1 : ∀ (s : Shared) (H : Hp) (C : Addr) (cl : List (Str × Addr)) (fp : List Addr), JI (X.blk s H scope (compEnvC scope cl C X.env) fp) xc WF Γ tg1 iter1 ci2)
    (hg1 : ∀ (s : Shared) (H : Hp) (C : Addr) (cl : List (Str × Addr)) (fp : List Addr), JG (X.blk s H scope (compEnvC scope cl C X.env) fp) tg1 t2)
    (ht1 : ∀ (s : Shared) (H : Hp) (C : Addr) (cl : List (Str × Addr)) (fp : List Addr), JTs (X.blk s H scope (compEnvC scope cl C X.env) fp) xc WF Γ ifs1 ct)
    (he : ∀ (s : Shared) (H : Hp) (C : Addr) (cl : List (Str × Addr)) (fp : List Addr), JE (X.blk s H scope (compEnvC scope cl C X.env) fp) xc WF Γ elt ce)
    (hsub : ∀ j ∈ slotsT t, j ∈ own.map (·.2)) (hsub2 : ∀ j ∈ slotsT t2, j ∈ vs1) (hs : ∀ x, foldedSetIterable iter X.env x = pure x := by intro _; rfl) (hs1 : ∀ env x, foldedSetIterable iter1 env x = pure x := by intro _ _; rfl) :
    JE X xc W Γ (.ListComp elt [⟨tg, iter, [], 0⟩, ⟨tg1, iter1, ifs1, 0⟩] scope pos) (.lc2 (own.map (·.2)) t ci vs1 t2 ci2 ct ce) := pd_lc2 ok.cm ok.nd hi bk hv hg hi1 hg1 ht1 he hs hs1 hsub hsub2
/-! statements -/
theorem js_nil : JSs X xc W Γ [] [] := pds_nil
theorem js_cons {st : Stmt} {sts : List Stmt} {s : S} {ss : List S} (h1 : JS X xc W Γ st s) (h2 : JSs X xc W Γ sts ss) : JSs X xc W Γ (st :: sts) (s :: ss) := pds_cons h1 h2
theorem js_pass : JS X xc W Γ (.Pass pos) .pass := pds_pass
theorem js_brk : JS X xc W Γ (.Break pos) .brk := pds_brk
theorem js_cont : JS X xc W Γ (.Continue pos) .cont := pds_cont
theorem js_expr (h : JE X xc W Γ e ce) (hs : swapsWith e none pos.line X.env = pure false := by rfl) : JS X xc W Γ (.Expr e pos) (.expr ce) := pds_expr h hs
theorem js_ret (h : JE X xc W Γ e ce) : JS X xc W Γ (.Return (some e) pos) (.ret ce) := pds_ret h
theorem js_retN : JS X xc W Γ (.Return none pos) .retN := pds_retN
theorem js_set (i : Nat) {x : Str} (ok : Okx X k) (h : JE X xc W Γ e ce) (hi : X.N[i]? = some x := by rfl) (hx : Loc X.env.scope x := by first | exact Or.inl rfl | exact Or.inr rfl) (hs : swapsWith e (some (.Name x p)) pos.line X.env = pure false := by rfl) (hf : X.fn x = true ∨ X.env.scope.names.lookup x = some .local := by first | exact .inl rfl | exact .inr rfl) :
    JS X xc W Γ (.Assign [.Name x p] e pos) (.asg (.nm i) ce) := pds_set ok.nd hi hx h hs hf
theorem js_asg {tg : Expr} {t : T} (h : JE X xc W Γ e ce) (hg : JG X tg t) (hs : swapsWithSole [tg] e pos.line X.env = pure false := by rfl) (hw : swappedStores [tg] e X.env = pure none := by rfl) (h1 : (assignEach [tg] X.env).map (·.2) = [assign tg X.env] := by rfl) : JS X xc W Γ (.Assign [tg] e pos) (.asg t ce) := pds_asg h hg hs hw h1
theorem js_if {sa sb : List Stmt} {ma mb : List S} (hc : JT X xc W Γ c cc) (ha : JSs X xc W Γ sa ma) (hb : JSs X xc W Γ sb mb) : JS X xc W Γ (.If c sa sb pos) (.ite cc ma mb) := pds_if hc ha hb
theorem js_for {tg iter : Expr} {sb : List Stmt} {mb : List S} {t : T} {ci : C} (ok : Okx X k) (hp : PassesOwn (model X.prog X.w) X.A X.env X.xe) (hi : JI X xc W Γ tg iter ci) (hg : JG X tg t) (hb : JSs X xc W Γ sb mb) (hs : ∀ x, foldedSetIterable iter X.env x = pure x := by intro _; rfl) : JS X xc W Γ (.For tg iter sb [] pos) (.for_ t ci mb) := pds_for hp ok.cm hi hg hb hs
theorem js_while (n : Nat) {sb : List Stmt} {mb : List S} (hp : PassesOwn (model X.prog X.w) X.A X.env X.xe) (hc : JT X xc W Γ c cc) (hb : JSs X xc W Γ sb mb) : JS X xc W Γ (.While c sb [] pos) (.while_ n cc mb) := pds_while hp hc hb
theorem js_par2 (i j : Nat) {x y : Str} {px py pt pt2 : Pos} {kt k2 : Nat} (ok : Okx X k) (ha : JN X xc W Γ [a, b] cs) (hi : X.N[i]? = some x := by rfl) (hj : X.N[j]? = some y := by rfl) (hij : i ≠ j := by decide) (hx : X.env.scope.names.lookup x = some .local := by rfl) (hy : X.env.scope.names.lookup y = some .local := by rfl)
    (hw : swappedStores [.Tuple [.Name x px, .Name y py] kt pt] (.Tuple [a, b] k2 pt2) X.env = pure (some [x, y]) := by rfl) (hs : swapsWithSole [.Tuple [.Name x px, .Name y py] kt pt] (.Tuple [a, b] k2 pt2) pos.line X.env = pure false := by rfl) :
    JS X xc W Γ (.Assign [.Tuple [.Name x px, .Name y py] kt pt] (.Tuple [a, b] k2 pt2) pos) (.par [i, j] cs) := pds_par2 ok.cm ok.nd hi hj hij hx hy ha.1 hw hs
theorem js_par3 (i j l : Nat) {x y z : Str} {px py pz pt pt2 : Pos} {kt k2 : Nat} (ok : Okx X k) (ha : JN X xc W Γ [a, b, c] cs) (hi : X.N[i]? = some x := by rfl) (hj : X.N[j]? = some y := by rfl) (hl : X.N[l]? = some z := by rfl) (hij : i ≠ j := by decide) (hil : i ≠ l := by decide) (hjl : j ≠ l := by decide)
    (hx : X.env.scope.names.lookup x = some .local := by rfl) (hy : X.env.scope.names.lookup y = some .local := by rfl) (hz : X.env.scope.names.lookup z = some .local := by rfl)
    (hw : swappedStores [.Tuple [.Name x px, .Name y py, .Name z pz] kt pt] (.Tuple [a, b, c] k2 pt2) X.env = pure (some [x, y, z]) := by rfl) (hs : swapsWithSole [.Tuple [.Name x px, .Name y py, .Name z pz] kt pt] (.Tuple [a, b, c] k2 pt2) pos.line X.env = pure false := by rfl) :
    JS X xc W Γ (.Assign [.Tuple [.Name x px, .Name y py, .Name z pz] kt pt] (.Tuple [a, b, c] k2 pt2) pos) (.par [i, j, l] cs) := pds_par3 ok.cm ok.nd hi hj hl hij hil hjl hx hy hz ha.1 hw hs
theorem js_setLc (i : Nat) {y : Str} {py spos : Pos} {elt tg iter : Expr} {ifs : List Expr} {scope : Scope} {own : List (Str × Nat)} {t : T} {ci ct : C} (ok : Okx X k) (hsw : swapsWith (.ListComp elt [⟨tg, iter, ifs, 0⟩] scope pos) (some (.Name y py)) spos.line X.env = pure true) (bk : BlkOk X.N X.env.scope scope own) (hi : JI X xc W Γ tg iter ci)
    (hg : ∀ (s : Shared) (H : Hp) (C : Addr) (cl : List (Str × Addr)) (fp : List Addr), JG (X.blk s H scope (compEnvC scope cl C X.env) fp) tg t)
    (ht : ∀ (s : Shared) (H : Hp) (C : Addr) (cl : List (Str × Addr)) (fp : List Addr), JTs (X.blk s H scope (compEnvC scope cl C X.env) fp) xc WF Γ ifs ct)
    (he : ∀ (s : Shared) (H : Hp) (C : Addr) (cl : List (Str × Addr)) (fp : List Addr), JE (X.blk s H scope (compEnvC scope cl C X.env) fp) xc WF Γ elt ce)
    (hsub : ∀ j ∈ slotsT t, j ∈ own.map (·.2)) (hy : X.N[i]? = some y := by rfl) (hyl : X.env.scope.names.lookup y = some .local := by rfl) (hs : ∀ x, foldedSetIterable iter X.env x = pure x := by intro _; rfl) :
    JS X xc W Γ (.Assign [.Name y py] (.ListComp elt [⟨tg, iter, ifs, 0⟩] scope pos) spos) (.asg (.nm i) (.lc (own.map (·.2)) t ci ct ce)) := pds_setLc ok.cm ok.nd hy hyl hsw hi bk hg ht he hs hsub
theorem js_setLc2 (i : Nat) {y : Str} {py spos : Pos} {elt tg iter tg1 iter1 : Expr} {ifs1 : List Expr} {scope : Scope} {own : List (Str × Nat)} {vs1 : List Nat} {t t2 : T} {ci ci2 ct : C} (ok : Okx X k) (hsw : swapsWith (.ListComp elt [⟨tg, iter, [], 0⟩, ⟨tg1, iter1, ifs1, 0⟩] scope pos) (some (.Name y py)) spos.line X.env = pure true) (bk : BlkOk X.N X.env.scope scope own) (hv : ∀ i ∈ vs1, i ∈ own.map (·.2)) (hi : JI X xc W Γ tg iter ci)
    (hg : ∀ (s : Shared) (H : Hp) (C : Addr) (cl : List (Str × Addr)) (fp : List Addr), JG (X.blk s H scope (compEnvC scope cl C X.env) fp) tg t)
    (hi1 : ∀ (s : Shared) (H : Hp) (C : Addr) (cl : List (Str × Addr)) (fp : List Addr), JI (X.blk s H scope (compEnvC scope cl C X.env) fp) xc WF Γ tg1 iter1 ci2)
    (hg1 : ∀ (s : Shared) (H : Hp) (C : Addr) (cl : List (Str × Addr)) (fp : List Addr), JG (X.blk s H scope (compEnvC scope cl C X.env) fp) tg1 t2)
    (ht1 : ∀ (s : Shared) (H : Hp) (C : Addr) (cl : List (Str × Addr)) (fp : List Addr), JTs (X.blk s H scope (compEnvC scope cl C X.env) fp) xc WF Γ ifs1 ct)
    (he : ∀ (s : Shared) (H : Hp) (C : Addr) (cl : List (Str × Addr)) (fp : List Addr), JE (X.blk s H scope (compEnvC scope cl C X.env) fp) xc WF Γ elt ce)
    (hsub : ∀ j ∈ slotsT t, j ∈ own.map (·.2)) (hsub2 : ∀ j ∈ slotsT t2, j ∈ vs1) (hy : X.N[i]? = some y := by rfl) (hyl : X.env.scope.names.lookup y = some .local := by rfl) (hs : ∀ x, foldedSetIterable iter X.env x = pure x := by intro _; rfl) (hs1 : ∀ env x, foldedSetIterable iter1 env x = pure x := by intro _ _; rfl) :
    JS X xc W Γ (.Assign [.Name y py] (.ListComp elt [⟨tg, iter, [], 0⟩, ⟨tg1, iter1, ifs1, 0⟩] scope pos) spos) (.asg (.nm i) (.lc2 (own.map (·.2)) t ci vs1 t2 ci2 ct ce)) := pds_setLc2 ok.cm ok.nd hy hyl hsw hi bk hv hg hi1 hg1 ht1 he hs hs1 hsub hsub2
theorem js_raise (n : Nat) {x : Str} {pos' : Pos} (ok : Okx X k) (tk : Takes X W) (S : SupC X.prog X.K (xc.cls n) (xc.fld n)) (hm : X.mg x = some (.ref (xc.cls n))) (hms : X.mg "super" = none) (h : JE X xc W Γ e ce) (hg : Gl X x := by rfl) (hdb : (x == ("__debug__" : Str)) = false := by decide) (hst : starEach [e] X.env = [(false, eval e X.env)] := by rfl) :
    JS X xc W Γ (.Raise (some (.Call (.Name x p) [e] [] pos)) none pos') (.raise n ce) := pds_raise ok.cm tk S (ok.hr.mono (by omega)) hg hm hms h hdb hst
theorem js_tryR (n i j : Nat) {x nme y : Str} {no : List Nat} {sb : List Stmt} {mb : List S} {np pos' p1 p2 p3 p4 p5 py : Pos} (ok : Okx X k) (tk : Takes X W) (hx : XcAt X.prog X.K X.mg xc n x no) (hmr : X.mg "repr" = none)
    (hb : ∀ (W' : WX) (pn : List (Addr × Obj)) (xe : Value → Shared → Prop), Takes (X.tr pn xe) W' → PassesOwn (model X.prog X.w) X.A X.env xe → JSs (X.tr pn xe) xc W' Γ sb mb)
    (hs : X.stack = X.env :: X.outer := by rfl) (hfr : X.env.frame = some X.env.locals := by rfl) (hi : X.N[i]? = some nme := by rfl) (hln : X.env.kindOf nme = some .local := by rfl) (hj : X.N[j]? = some y := by rfl) (hlj : X.env.scope.names.lookup y = some .local := by rfl)
    (hg : Gl X x := by rfl) (hdb : (x == ("__debug__" : Str)) = false := by decide) (hgr : Gl X "repr" := by rfl) (hd1 : (nme == ("__debug__" : Str)) = false := by decide) (hd2 : (nme == ("__classdict__" : Str)) = false := by decide)
    (hsw : ∀ env : Env, swapsWith (.Call (.Name "repr" p1) [.Attribute (.Name nme p2) (xc.fld n) p3] [] p4) (some (.Name y py)) p5.line env = pure false := by intro _; rfl) :
    JS X xc W Γ (.Try sb [.ExceptHandler (some (.Name x np)) (some nme) [.Assign [.Name y py] (.Call (.Name "repr" p1) [.Attribute (.Name nme p2) (xc.fld n) p3] [] p4) p5] pos'] [] [] pos) (.tryR n no i j mb) :=
  pds_tryR hs hfr ok.nd hi hln hj hlj ⟨hg, hdb, .inl hx.at_⟩ tk ok.hu ok.gd hx.yes hx.no_ hx.xf hx.sup.fld hgr hmr hd1 hd2 hsw hb
/-! ### try with clauses that return -/
abbrev clsH (X : Cx) (xc : XC) (i : Nat) (l : List (Nat × HK)) : List Cl := l.map fun p => (.ref (xc.cls p.1), tsH X.K xc i p.1 p.2)
theorem jc_nil {i : Nat} {n : Str} : MasOk X n [] (clsH X xc i []) := .nil
theorem jc_tag (c i : Nat) {x n w : Str} {no : List Nat} {l : List (Nat × HK)} {hs : List ExceptHandler} {np p' p1 p2 p3 p4 p5 p6 p7 : Pos} {kt c0 : Nat} (ok : Okx X k) (hx : XcAt X.prog X.K X.mg xc c x no) (hmr : X.mg "repr" = none) (r : MasOk X n hs (clsH X xc i l))
    (hi : X.N[i]? = some n := by rfl) (hln : X.env.kindOf n = some .local := by rfl) (hg : Gl X x := by rfl) (hdb : (x == ("__debug__" : Str)) = false := by decide) (hgr : Gl X "repr" := by rfl) (hd1 : (n == ("__debug__" : Str)) = false := by decide) (hd2 : (n == ("__classdict__" : Str)) = false := by decide) :
    MasOk X n (.ExceptHandler (some (.Name x np)) (some n) [.Return (some (.Tuple [.Constant (.str w) c0 p6, .Call (.Name "repr" p1) [.Attribute (.Name n p2) (xc.fld c) p3] [] p4] kt p5)) p7] p' :: hs) (clsH X xc i ((c, .tagR w) :: l)) :=
  .cons ⟨hg, hdb, .inl hx.at_⟩ (fun a oe cls d pn hz hf => hk_tag ok.hu ok.gd hgr hmr hi hln hx.xf hx.sup.fld hd1 hd2 hz hf) r
theorem jc_lstR (c i : Nat) {x n : Str} {no : List Nat} {l : List (Nat × HK)} {hs : List ExceptHandler} {np p' p1 p2 p3 p4 p5 p7 : Pos} (ok : Okx X k) (hx : XcAt X.prog X.K X.mg xc c x no) (hmr : X.mg "repr" = none) (r : MasOk X n hs (clsH X xc i l))
    (hi : X.N[i]? = some n := by rfl) (hln : X.env.kindOf n = some .local := by rfl) (hg : Gl X x := by rfl) (hdb : (x == ("__debug__" : Str)) = false := by decide) (hgr : Gl X "repr" := by rfl) (hd1 : (n == ("__debug__" : Str)) = false := by decide) (hd2 : (n == ("__classdict__" : Str)) = false := by decide) :
    MasOk X n (.ExceptHandler (some (.Name x np)) (some n) [.Return (some (.List [.Call (.Name "repr" p1) [.Attribute (.Name n p2) (xc.fld c) p3] [] p4] p5)) p7] p' :: hs) (clsH X xc i ((c, .lstR) :: l)) :=
  .cons ⟨hg, hdb, .inl hx.at_⟩ (fun a oe cls d pn hz hf => hk_lstR ok.hu ok.gd hgr hmr hi hln hx.xf hx.sup.fld hd1 hd2 hz hf) r
theorem jc_lstF (c i : Nat) {x n : Str} {no : List Nat} {l : List (Nat × HK)} {hs : List ExceptHandler} {np p' p2 p3 p5 p7 : Pos} (ok : Okx X k) (hx : XcAt X.prog X.K X.mg xc c x no) (r : MasOk X n hs (clsH X xc i l))
    (hi : X.N[i]? = some n := by rfl) (hln : X.env.kindOf n = some .local := by rfl) (hg : Gl X x := by rfl) (hdb : (x == ("__debug__" : Str)) = false := by decide) (hd1 : (n == ("__debug__" : Str)) = false := by decide) (hd2 : (n == ("__classdict__" : Str)) = false := by decide) :
    MasOk X n (.ExceptHandler (some (.Name x np)) (some n) [.Return (some (.List [.Attribute (.Name n p2) (xc.fld c) p3] p5)) p7] p' :: hs) (clsH X xc i ((c, .lstF) :: l)) :=
  .cons ⟨hg, hdb, .inl hx.at_⟩ (fun a oe cls d pn hz hf => hk_lstF hi hln hx.xf hx.sup.fld hd1 hd2 hz hf) r
abbrev Exm (X : Cx) (xc : XC) (l : List (Nat × HK)) : Prop := ∀ p ∈ l, ∀ q ∈ l, PySem.W.exmOne X.K (.ref (xc.cls p.1)) (.ref (xc.cls q.1)) = some (p.1 == q.1)
theorem exm1 {c : Nat} {x : Str} {no : List Nat} {h : HK} (hx : XcAt X.prog X.K X.mg xc c x no) : Exm X xc [(c, h)] := fun p hp q hq => by
  rw [List.mem_singleton.mp hp, List.mem_singleton.mp hq, hx.yes]; simp
theorem exm2 {c d : Nat} {x y : Str} {no no' : List Nat} {h h' : HK} (hx : XcAt X.prog X.K X.mg xc c x no) (hy : XcAt X.prog X.K X.mg xc d y no') (h1 : d ∈ no := by decide) (h2 : c ∈ no' := by decide) (ne : (c == d) = false := by decide) : Exm X xc [(c, h), (d, h')] := fun p hp q hq => by
  have ne' : (d == c) = false := by rw [beq_eq_false_iff_ne] at ne ⊢; exact fun z => ne z.symm
  simp only [List.mem_cons, List.not_mem_nil, or_false] at hp hq
  rcases hp with rfl | rfl <;> rcases hq with rfl | rfl
  · rw [hx.yes]; simp
  · rw [hy.no_ c h2]; simp [ne]
  · rw [hx.no_ d h1]; simp [ne']
  · rw [hy.yes]; simp
theorem js_tryH (i : Nat) {n : Str} {l : List (Nat × HK)} {k₀ : ExceptHandler} {ks : List ExceptHandler} {sb : List Stmt} {mb : List S} (ok : Okx X k) (tk : Takes X W) (hc : MasOk X n (k₀ :: ks) (clsH X xc i l)) (exm : Exm X xc l)
    (hb : ∀ (W' : WX) (pn : List (Addr × Obj)) (xe : Value → Shared → Prop), Takes (X.tr pn xe) W' → PassesOwn (model X.prog X.w) X.A X.env xe → JSs (X.tr pn xe) xc W' Γ sb mb)
    (hs : X.stack = X.env :: X.outer := by rfl) (hfr : X.env.frame = some X.env.locals := by rfl) (hi : X.N[i]? = some n := by rfl) (hln : X.env.kindOf n = some .local := by rfl) : JS X xc W Γ (.Try sb (k₀ :: ks) [] [] pos) (.tryH l i mb) :=
  pds_tryH hs hfr ok.nd hi hln tk hb hc exm
end
end PI

set_option maxHeartbeats 1000000
/-! PI, part w: the end of a law. -/
namespace PI
open PySem L2 PyProof.Rows
/-- no list stands in the written part -/
def noList (K : PySem.W.Frag) : Bool := K.all fun p => !(p.2.cls == .type "list")
theorem frag_mem : ∀ {K : List (Addr × Obj)} {a : Addr} {o : Obj}, K.lookup a = some o → (a, o) ∈ K
  | [], _, _, e => by cases e
  | (b, p) :: K, a, o, e => by
    rw [List.lookup_cons] at e
    split at e
    · rename_i h
      cases e
      rw [beq_iff_eq.mp h]
      exact List.mem_cons_self ..
    · exact List.mem_cons_of_mem _ (frag_mem e)
theorem noList_at {K : PySem.W.Frag} (h : noList K = true) {a : Addr} {o : Obj} (e : K.lookup a = some o) : o.cls ≠ .type "list" := fun z => by
  have m : (a, o) ∈ K := frag_mem e
  have q := List.all_eq_true.mp h _ m
  simp only [z] at q
  exact absurd q (by decide)
/-- the heap's view at the start: the script alone, as it is -/
def hp0 (a : Addr) (vs : List Value) (ns : List Int) : Hp := fun b => if b = a then some (.frz { cls := .type "list", data := .seq vs.toArray } (.lst (ns.map V.int))) else none
theorem reps_ints (K : PySem.W.Frag) (H : Hp) : ∀ ns : List Int, Reps K H (ns.map V.int) (ns.map D.int)
  | [] => .nil
  | n :: ns => .cons (.int n) (reps_ints K H ns)
theorem lawG {P : Program} {w : World} {K : PySem.W.Frag} {mg mb : Str → Option Value} {xc : XC} {k : Nat} {fa a : Addr} {fd : FuncData} {x : Str} {m : List D → M D} {s₁ : Shared} {vs : List Value} {ns : List Int}
    (KX : K.In s₁.heap) (hns : s₁.heap.Ns mainGlobals mg) (hb : s₁.heap.Ns builtinsNs mb) (hbb : ∀ x : Str, x ≠ "__name__" → mb x = bootBuiltins x) (hlim : s₁.heap.NoLimit) (hg : s₁.gens = #[])
    (ha : s₁.heap.get? a = some { cls := .type "list", data := .seq vs.toArray }) (hi : IntsAre vs ns) (hl : ns.length ≤ sizeLine) (hr : Room k callerA) (hK : noList K = true)
    (F : ∀ base : Heap, K.In base → base.Ns mainGlobals mg → FnG P w K mg base (L2.CX P w) k fa fd [x] (spM xc K 1 m)) (hbind : ∀ (s : Shared) (u : Value), K.In s.heap → BindsTo s fd ⟨[u], []⟩ [(x, u)])
    (hm : ∃ s', m [.lst (ns.map D.int)] ⟨none, []⟩ = .ok (.bl true) s') :
    codeAny (model P w) callerA (.call (.ref fa) ⟨[.ref a], []⟩) (fun r s' => r = .ok (.ret (.bool true)) ∧ OldK s₁.heap s'.heap ∧ s'.os = s₁.os ∧ AllBare s'.gens) s₁ := by
  have nK : K.lookup a = none := by
    cases z : K.lookup a with
    | none => rfl
    | some o =>
      have e := KX a o z
      rw [ha] at e
      cases e
      exact absurd rfl (noList_at hK z)
  have at0 : hp0 a vs ns a = some (.frz { cls := .type "list", data := .seq vs.toArray } (.lst (ns.map V.int))) := if_pos rfl
  have off : ∀ {b : Addr}, b ≠ a → hp0 a vs ns b = none := fun h => if_neg h
  have some0 : ∀ {b : Addr} {o : HO}, hp0 a vs ns b = some o → b = a := fun {b o} h => by
    by_cases z : b = a
    · exact z
    · rw [off z] at h; cases h
  have hok : HOk P w (hp0 a vs ns) s₁.heap := fun b o e => by
    have z := some0 e
    subst z
    rw [at0] at e
    cases e
    exact ⟨ha, by rw [List.length_map]; exact hl, vs, _, vals_ints hi, ha⟩
  have notA : ∀ {b : Addr} {o : Obj}, s₁.heap.get? b = some o → o.cls ≠ .type "list" ∨ (∃ es ep, o.data = .dict es ep) → b ≠ a := fun {b o} e h z => by
    rw [z, ha] at e
    cases e
    rcases h with h | ⟨es, ep, h⟩
    · exact h rfl
    · cases h
  have keep : ∀ {b : Addr} {o : Obj}, s₁.heap.get? b = some o → b ≠ a → (hidT s₁.heap (hp0 a vs ns)).get? b = some o := fun e z => hidT_get e (off z)
  have nsK : ∀ {b : Addr} {m : Str → Option Value}, s₁.heap.Ns b m → (hidT s₁.heap (hp0 a vs ns)).Ns b m := fun {b m} ⟨o, es, ep, e, d, r⟩ => ⟨o, es, ep, keep e (notA e (.inr ⟨es, ep, d⟩)), d, r⟩
  have kin : K.In (hidT s₁.heap (hp0 a vs ns)) := fun b o e => keep (KX b o e) fun z => by rw [z, nK] at e; cases e
  have md : Mod K mg (hidT s₁.heap (hp0 a vs ns)) := by
    obtain ⟨mc, l1, l2⟩ := hlim
    exact ⟨kin, nsK hns, ⟨mb, nsK hb, hbb⟩, mc, nsK l1, l2⟩
  have e0 : Env0 P w K mg (hidT s₁.heap (hp0 a vs ns)) callerA [] s₁ (hp0 a vs ns) := ⟨rfl, md, fun b o e => of_hidT e, Nat.le_of_eq (hidT_size _ _), trivial, fun b z => absurd (show b ∈ ([] : List Addr) from z) (by simp), hok, .of_eq hg⟩
  obtain ⟨s2, em⟩ := hm
  have sp0 : spM xc K 1 m [.ref a] (hp0 a vs ns) (fun v _ => v = .bl true) (fun _ _ _ => False) := by
    refine ⟨rfl, ⟨none, []⟩, [.lst (ns.map D.int)], ⟨none, []⟩, ⟨trivial, rfl, fun i a c h => by simp at h, List.nodup_nil⟩, .cons (.of (.lst ⟨_, at0⟩ (reps_ints _ _ ns))) .nil, ?_⟩
    rw [em]
    intro v H' w' _ _ r
    cases r
    rfl
  refine codeAny_mono ((F _ kin (nsK hns)).run callerA [] s₁ _ ⟨[.ref a], []⟩ [.ref a] [.ref a] _ _ hr rfl e0 (hbind s₁ (.ref a) KX) (.cons rfl .nil) sp0) fun r s' z => ?_
  cases r with
  | error e =>
    obtain ⟨_, _, _, _, _, _, _, _, _, _, _, _, q⟩ := z
    exact q.elim
  | ok fl =>
    cases fl with
    | next => exact z.elim
    | brk => exact z.elim
    | cont => exact z.elim
    | ret u =>
      obtain ⟨v, H', os, bare, un, hok', rv, q⟩ := z
      have q' : v = .bl true := q
      subst q'
      obtain rfl : u = Value.bool true := rv
      refine ⟨rfl, OldK.of_keep fun b o e => ?_, os, bare⟩
      by_cases hb : b = a
      · subst hb
        obtain ⟨e2, _⟩ := hok' b _ (un.frzs b _ _ at0)
        rw [ha] at e
        cases e
        exact e2
      · exact un.keep b o e (off hb) (fun z => absurd (show b ∈ ([] : List Addr) from z) (by simp)) (by simp)
theorem walkG {l : PySem.W.OpenLaw} {n k : Nat} {q : Program} {loose : List Str} {XP : (Str → Option Value) → Heap → Prop} {YP : World → Heap → Prop} {d : DefRec} {K : Params → PySem.W.Frag} {xc : XC} {m : List D → M D} {x : Str}
    (hn : l.most = some n) (hn2 : n ≤ sizeLine) (hdf : d.params.defaults = []) (hr : Room k callerA) (hY : ∀ (w : World) (h : Heap), YP w h → (K w.params).In h) (hK : ∀ w : World, noList (K w.params) = true)
    (F : ∀ (w : World) (mg : Str → Option Value) (fa : Addr) (h : Heap), (K w.params).In h → h.Ns mainGlobals mg → mg d.name = some (.ref fa) →
      ∃ (fd : FuncData) (xc : XC), (∀ (s : Shared) (u : Value), (K w.params).In s.heap → BindsTo s fd ⟨[u], []⟩ [(x, u)]) ∧ ∀ base : Heap, (K w.params).In base → base.Ns mainGlobals mg → FnG l.prog w (K w.params) mg base (L2.CX l.prog w) k fa fd [x] (spM xc (K w.params) 1 m))
    (hm : ∀ ns : List Int, ns.length ≤ n → ∃ s', m [.lst (ns.map D.int)] ⟨none, []⟩ = .ok (.bl true) s') : PySem.W.WalkO q loose XP YP l.row.toRowW d [] (fun f vs => PySem.call f vs) := by
  refine Att.attach_call hn hdf fun w s₀ s₁ mg mb fa o pm cd doc a vs ns G Y ho hd hcd hmg hobj hints hlen hg => ?_
  have kx := hY w _ Y
  obtain ⟨fd, xc, hb, hF⟩ := F w mg fa _ kx G.T.g hmg
  exact lawG kx G.T.g G.T.b G.T.builtins G.T.nolimit hg hobj hints (Nat.le_trans hlen hn2) hr (hK w) hF hb (hm ns hlen)
theorem walkG2 {l : PySem.W.OpenLaw} {n k : Nat} {q : Program} {loose : List Str} {XP : (Str → Option Value) → Heap → Prop} {YP : World → Heap → Prop} {d : DefRec} {K : Params → PySem.W.Frag} {x : Str}
    (hn : l.most = some n) (hn2 : n ≤ sizeLine) (hdf : d.params.defaults = []) (hr : Room k callerA) (hY : ∀ (w : World) (h : Heap), YP w h → (K w.params).In h) (hK : ∀ w : World, noList (K w.params) = true)
    (F : ∀ (w : World) (mg : Str → Option Value) (fa : Addr) (h : Heap), (K w.params).In h → h.Ns mainGlobals mg → mg d.name = some (.ref fa) →
      ∃ (fd : FuncData) (xc : XC) (m : List D → M D), (∀ (s : Shared) (u : Value), (K w.params).In s.heap → BindsTo s fd ⟨[u], []⟩ [(x, u)]) ∧ (∀ base : Heap, (K w.params).In base → base.Ns mainGlobals mg → FnG l.prog w (K w.params) mg base (L2.CX l.prog w) k fa fd [x] (spM xc (K w.params) 1 m)) ∧
        ∀ ns : List Int, ns.length ≤ n → ∃ s', m [.lst (ns.map D.int)] ⟨none, []⟩ = .ok (.bl true) s') : PySem.W.WalkO q loose XP YP l.row.toRowW d [] (fun f vs => PySem.call f vs) := by
  refine Att.attach_call hn hdf fun w s₀ s₁ mg mb fa o pm cd doc a vs ns G Y ho hd hcd hmg hobj hints hlen hg => ?_
  have kx := hY w _ Y
  obtain ⟨fd, xc, m, hb, hF, hm⟩ := F w mg fa _ kx G.T.g hmg
  exact lawG kx G.T.g G.T.b G.T.builtins G.T.nolimit hg hobj hints (Nat.le_trans hlen hn2) hr (hK w) hF hb (hm ns hlen)
end PI

set_option maxHeartbeats 1000000
/-! PI, part y: the state of draws. -/
namespace PI
open PySem L2 PyProof.Rows
theorem sto_m {K : PySem.W.Frag} {w w' : Wd} {s : SS} {m' : MS} {H H' : Hp} (t : Sto K w s H) (x : Ext H H') (hc : ∀ b ∈ w.ρ, H' b = H b) (hρ : w'.ρ = w.ρ) (hm : MAt K H' w'.m (some m')) (nd : w'.ws.Nodup) : Sto K w' { s with m := some m' } H' :=
  ⟨hm, by rw [hρ]; exact t.len, fun i a c h1 h2 => by
    rw [hρ] at h1
    exact (t.cs i a c h1 h2).at x (hc a (List.mem_of_getElem? h1)), nd⟩
/-- the state of draws in the heap -/
theorem mat_at {K : PySem.W.Frag} {w : Wd} {s : SS} {H : Hp} {v : V} (t : Sto K w s H) (r : RepT K w H v .drw) : ∃ a l m c, w.m = some (a, l) ∧ v = .ref a ∧ s.m = some m ∧
    H a = some (.dK [(.inr "cells", .ref c), (.inr "left", .ref l), (.inr "at", .int m.at_)]) ∧ FzL H c (m.cells.map V.int) ∧ H l = some (.lst (m.left.map V.int)) ∧ m.cells.length ≤ 63 ∧ m.left.length ≤ 63 := by
  obtain ⟨a, l, e, rfl⟩ := r
  have hm := t.m
  rw [e] at hm
  cases es : s.m with
  | none => rw [es] at hm; exact hm.elim
  | some m =>
    rw [es] at hm
    obtain ⟨c, h1, h2, h3, h4, h5⟩ := hm
    exact ⟨a, l, m, c, e, rfl, rfl, h1, h2, h3, h4, h5⟩
def onM {α : Type} (f : MS → Option α) (d : D) : M α := fun s => match d, s.m with
  | .drw, some m => match f m with
    | some a => .ok a s
    | none => .stuck
  | _, _ => .stuck
def mAtD (m : MS) : Option D := some (.int m.at_)
def mCellsD (m : MS) : Option D := some (.lst (m.cells.map .int))
def mHeadD (m : MS) : Option D := m.left.head?.map .int
def mSomeD (m : MS) : Option D := some (.bl (!m.left.isEmpty))
theorem plains_ints : ∀ ns : List Int, plains (ns.map D.int) = true ∧ deps (ns.map D.int) = 0
  | [] => ⟨rfl, rfl⟩
  | n :: ns => by
    obtain ⟨h1, h2⟩ := plains_ints ns
    simp only [List.map_cons, plains, plain, deps, dep, h1, h2]
    decide
theorem ne_nil_ints (ns : List Int) : neD (.lst (ns.map .int)) (.lst []) = some (.bl (!ns.isEmpty)) := by cases ns <;> rfl
section
variable {X : Cx} {xc : XC} {W : WX}
theorem onM_read {K : PySem.W.Frag} {σ : L2.St} {w : Wd} {s : SS} {H : Hp} {v : V} {d : D} {f : MS → Option D} {Q : VK} (t : Sto K w s H) (r : RepT K w H v d) (p : Post K xc W σ w H Q (onM f d s)) :
    ∃ a l m c e, v = .ref a ∧ H a = some (.dK [(.inr "cells", .ref c), (.inr "left", .ref l), (.inr "at", .int m.at_)]) ∧ FzL H c (m.cells.map V.int) ∧ H l = some (.lst (m.left.map V.int)) ∧ m.cells.length ≤ 63 ∧ m.left.length ≤ 63 ∧ f m = some e ∧ ∀ u H', Same H H' → Rep K H' u e → Q u H' := by
  unfold onM at p
  cases d with
  | drw =>
    obtain ⟨a, l, m, c, e1, e2, e3, h1, h2, h3, h4, h5⟩ := mat_at t r
    rw [e3] at p
    dsimp only at p
    cases ef : f m with
    | none => rw [ef] at p; exact p.elim
    | some e =>
      rw [ef] at p
      exact ⟨a, l, m, c, e, e2, h1, h2, h3, h4, h5, ef, fun u H' sm ru => p u H' w (sgo sm) (t.same sm) (.of ru)⟩
  | _ => exact p.elim
theorem pd_mAt {o : Expr} {pos p : Pos} {j : Nat} {m : Env' → M D} (hu : X.A.units + 65 < cLine) (ho : PE X o (tE X.K xc W m)) : PE X (.Subscript o (.Constant (.str "at") j p) pos) (tE X.K xc W fun env => m env >>= onM mAtD) :=
  pimp (pe_dget (by omega) ho pe_str (fun _ _ => rfl)) fun σ H Q ⟨w, env, s, rel, q⟩ => by
    refine (tE_of rel q).imp2 fun v H1 ⟨w1, d, s1, g, rel1, r, p1⟩ => ?_
    obtain ⟨a, l, m, c, e, e1, h1, h2, h3, h4, h5, ef, fin⟩ := onM_read rel1.st r p1
    cases ef
    exact ⟨a, _, e1, .inl ⟨_, .inr "at", .inl h1, rfl, rfl⟩, fin _ _ (Same.refl _) (.int _)⟩
theorem pd_mCells {o : Expr} {pos p : Pos} {j : Nat} {m : Env' → M D} (hu : X.A.units + 65 < cLine) (ho : PE X o (tE X.K xc W m)) : PE X (.Subscript o (.Constant (.str "cells") j p) pos) (tE X.K xc W fun env => m env >>= onM mCellsD) :=
  pimp (pe_dget (by omega) ho pe_str (fun _ _ => rfl)) fun σ H Q ⟨w, env, s, rel, q⟩ => by
    refine (tE_of rel q).imp2 fun v H1 ⟨w1, d, s1, g, rel1, r, p1⟩ => ?_
    obtain ⟨a, l, m, c, e, e1, h1, h2, h3, h4, h5, ef, fin⟩ := onM_read rel1.st r p1
    cases ef
    exact ⟨a, _, e1, .inl ⟨_, .inr "cells", .inl h1, rfl, rfl⟩, fin _ _ (Same.refl _) (.lst h2 (reps_ints _ _ _))⟩
theorem pd_mHead {o : Expr} {pos pos2 p p2 : Pos} {j j2 : Nat} {m : Env' → M D} (hu : X.A.units + 65 < cLine) (ho : PE X o (tE X.K xc W m)) : PE X (.Subscript (.Subscript o (.Constant (.str "left") j p) pos) (.Constant (.int 0) j2 p2) pos2) (tE X.K xc W fun env => m env >>= onM mHeadD) :=
  pimp (pe_ix (ix_ok (by omega)) (pe_dget (by omega) ho pe_str (fun _ _ => rfl)) pe_int (fun _ _ => rfl)) fun σ H Q ⟨w, env, s, rel, q⟩ => by
    refine (tE_of rel q).imp2 fun v H1 ⟨w1, d, s1, g, rel1, r, p1⟩ => ?_
    obtain ⟨a, l, m, c, e, e1, h1, h2, h3, h4, h5, ef, fin⟩ := onM_read rel1.st r p1
    refine ⟨a, _, e1, .inl ⟨_, .inr "left", .inl h1, rfl, rfl⟩, .lst (m.left.map .int), .int 0, e, ⟨l, _, rfl, .inl h3, reps_ints _ _ _⟩, .int 0, ?_, fin⟩
    unfold mHeadD at ef
    cases hl : m.left with
    | nil => rw [hl] at ef; cases ef
    | cons x xs =>
      rw [hl] at ef
      cases ef
      show atI (List.map D.int (x :: xs)) ((0 : Nat) : Int) = some (.int x)
      exact atI_nat rfl
theorem pt_mSome {o : Expr} {pos pos2 p p2 : Pos} {j : Nat} {m : Env' → M D} (hu : X.A.units + 65 < cLine) (ho : PE X o (tE X.K xc W m)) : PT X (.Compare (.Subscript o (.Constant (.str "left") j p) pos) [.NotEq] [.List [] p2] pos2) (tTst X.K xc W fun env => m env >>= onM mSomeD) :=
  ptimp (pt_cmpR (ne_ok hu) (pe_dget (by omega) ho pe_str (fun _ _ => rfl)) (pfrz (pe_lst pa_nil)) rfl) fun σ H Q ⟨w, env, s, rel, q⟩ => by
    refine (tE_of rel q).imp2 fun v H1 ⟨w1, d, s1, g, rel1, r, p1⟩ => ?_
    obtain ⟨a, l, m, c, e, e1, h1, h2, h3, h4, h5, ef, fin⟩ := onM_read rel1.st r p1
    cases ef
    refine ⟨a, _, e1, .inl ⟨_, .inr "left", .inl h1, rfl, rfl⟩, Nat.zero_le _, fun p hp => fr_new (K := X.K) hp .nil fun u H2 sm ru => ?_⟩
    refine ⟨.lst (m.left.map .int), .lst [], .bl (!m.left.isEmpty), ⟨l, _, rfl, .inl (sm _ _ h3), reps_ints _ _ _⟩, ru.rd, ?_, fun u' H' sm' ru' => ?_⟩
    · exact ne_nil_ints _
    · exact fin u' H' (sm.trans sm') ru'
/-! ### stores -/
def mPutS (f : MS → D → Option MS) (x v : Env' → M D) : SM := fun env s => match v env s with
  | .ok d s' => match x env s' with
    | .ok .drw s'' => match s''.m with
      | some m => match f m d with
        | some m' => .nx env { s'' with m := some m' }
        | none => .stuck
      | none => .stuck
    | .ok _ _ => .stuck
    | .exc c f s'' => .exc c f env s''
    | .stuck => .stuck
  | .exc c f s' => .exc c f env s'
  | .stuck => .stuck
def putAt (m : MS) : D → Option MS
  | .int i => some { m with at_ := i }
  | _ => none
def putHead (m : MS) : D → Option MS
  | .int i => match m.left with
    | _ :: r => some { m with left := i :: r }
    | [] => none
  | _ => none
/-- m["left"] = m["left"][1:] -/
def mCutS (x : Env' → M D) : SM := fun env s => match x env s with
  | .ok .drw s'' => match s''.m with
    | some m => .nx env { s'' with m := some { m with left := m.left.drop 1 } }
    | none => .stuck
  | .ok _ _ => .stuck
  | .exc c f s'' => .exc c f env s''
  | .stuck => .stuck
theorem nd_m {w : Wd} {a l : Addr} (h : w.ws.Nodup) (e : w.m = some (a, l)) : a ≠ l ∧ a ∉ w.ρ ∧ l ∉ w.ρ := by
  unfold Wd.ws at h
  rw [e] at h
  obtain ⟨h1, h2, h3⟩ := List.nodup_append.mp h
  simp at h1
  exact ⟨h1, fun z => h3 a (by simp) a z rfl, fun z => h3 l (by simp) l z rfl⟩
theorem fz_dK {H H' : Hp} {a : Addr} {kvs : List (Key × V)} (h : H a = some (.dK kvs)) (e : ∀ b, b ≠ a → H' b = H b) : Ext H H' := ⟨fun b o eb f => by
  by_cases z : b = a
  · subst z; rw [h] at eb; cases eb; exact f.elim
  · rw [e b z]; exact eb⟩
theorem pds_mAt {o e : Expr} {pos pos' p : Pos} {j : Nat} {x v : Env' → M D} (hu : X.A.units + 65 < cLine) (ho : PE X o (tE X.K xc W x)) (he : PE X e (tE X.K xc W v)) (hs : swapsWith e (some (.Subscript o (.Constant (.str "at") j p) pos')) pos.line X.env = pure false) :
    PS X (.Assign [.Subscript o (.Constant (.str "at") j p) pos'] e pos) (tS X.K xc W (mPutS putAt x v)) :=
  psimp (ps_dput (by omega) ho pe_str he hs) fun E σ H ⟨w, env, s, rel, q⟩ => by
    unfold mPutS at q
    refine ⟨w, env, s, rel, ?_⟩
    cases z : v env s with
    | exc c f s' => rw [z] at q; exact exc_post rel q
    | stuck => rw [z] at q; exact q
    | ok d s' =>
      rw [z] at q
      dsimp only at q
      intro u H1 w1 g1 t1 r1
      have rel1 := rel.go g1 t1
      refine ⟨w1, env, s', rel1, ?_⟩
      cases z2 : x env s' with
      | exc c f s2 => rw [z2] at q; exact exc_post rel1 (PostS.mono (r := .exc c f env s2) g1 q)
      | stuck => rw [z2] at q; exact q
      | ok d2 s2 =>
        rw [z2] at q
        intro u2 H2 w2 g2 t2 r2
        cases d2 with
        | drw =>
          obtain ⟨a, l, m, c, em, e2, e3, h1, h2, h3, h4, h5⟩ := mat_at t2 r2
          dsimp only at q
          rw [e3] at q
          dsimp only at q
          unfold putAt at q
          split at q
          · rename_i m' hf
            split at hf
            · rename_i i
              cases hf
              have ei : u = .int i := by cases r1; rfl
              subst ei
              obtain ⟨n1, n2, n3⟩ := nd_m t2.nd em
              refine ⟨a, _, e2, .inl ⟨_, .inr "at", h1, rfl, by show 3 < sizeLine; decide, rfl⟩, ?_⟩
              have x2 : Ext H2 (upd H2 a (.dK [(.inr "cells", .ref c), (.inr "left", .ref l), (.inr "at", .int i)])) := fz_dK h1 fun b hb => upd_ne hb
              have g3 : Go w2 H2 w2 (upd H2 a (.dK [(.inr "cells", .ref c), (.inr "left", .ref l), (.inr "at", .int i)])) := ⟨fun b o eb f => by
                by_cases hb : b = a
                · subst hb
                  rcases f with f | f
                  · exact absurd (show b ∈ w2.ws by unfold Wd.ws; rw [em]; simp) f
                  · rw [h1] at eb; cases eb; exact f.elim
                · rw [upd_ne hb]; exact eb, fun _ h => .inl h, ⟨[], by simp⟩, fun _ => rfl⟩
              have t3 : Sto X.K w2 { s2 with m := some { m with at_ := i } } (upd H2 a (.dK [(.inr "cells", .ref c), (.inr "left", .ref l), (.inr "at", .int i)])) := by
                refine sto_m t2 x2 (fun b hb => upd_ne fun z => n2 (z ▸ hb)) rfl ?_ t2.nd
                rw [em]
                exact ⟨c, upd_same, h2.mono x2, by rw [upd_ne (Ne.symm n1)]; exact h3, h4, h5⟩
              exact q σ _ w2 ((g1.trans g2).trans g3) ((rel1.go g2 t2).go g3 t3)
            · cases hf
          · exact q.elim
        | _ => exact q.elim
theorem go_m {w : Wd} {H : Hp} {a l b : Addr} {o : HO} (em : w.m = some (a, l)) (hb : b = a ∨ b = l) (nf : ∀ u, H b = some u → ¬ Fz u) : Go w H w (upd H b o) := ⟨fun c u eb f => by
  by_cases hc : c = b
  · subst hc
    rcases f with f | f
    · refine absurd ?_ f
      unfold Wd.ws
      rw [em]
      rcases hb with z | z <;> rw [z] <;> simp
    · exact absurd f (nf u eb)
  · rw [upd_ne hc]; exact eb, fun _ h => .inl h, ⟨[], by simp⟩, fun _ => rfl⟩
theorem pds_mHead {o e : Expr} {pos pos' pos2 p p2 : Pos} {j j2 : Nat} {x v : Env' → M D} (hu : X.A.units + 65 < cLine) (ho : PE X o (tE X.K xc W x)) (he : PE X e (tE X.K xc W v))
    (hs : swapsWithSole [.Subscript (.Subscript o (.Constant (.str "left") j p) pos2) (.Constant (.int 0) j2 p2) pos'] e pos.line X.env = pure false) (hw : swappedStores [.Subscript (.Subscript o (.Constant (.str "left") j p) pos2) (.Constant (.int 0) j2 p2) pos'] e X.env = pure none)
    (h1 : (assignEach [.Subscript (.Subscript o (.Constant (.str "left") j p) pos2) (.Constant (.int 0) j2 p2) pos'] X.env).map (·.2) = [assign (.Subscript (.Subscript o (.Constant (.str "left") j p) pos2) (.Constant (.int 0) j2 p2) pos') X.env]) :
    PS X (.Assign [.Subscript (.Subscript o (.Constant (.str "left") j p) pos2) (.Constant (.int 0) j2 p2) pos'] e pos) (tS X.K xc W (mPutS putHead x v)) :=
  psimp (ps_asg he (pg_sub (pe_dget (by omega) ho pe_str (fun _ _ => rfl)) pe_int set_list (fun _ => rfl)) hs hw h1) fun E σ H ⟨w, env, s, rel, q⟩ => by
    unfold mPutS at q
    refine ⟨w, env, s, rel, ?_⟩
    cases z : v env s with
    | exc c f s' => rw [z] at q; exact exc_post rel q
    | stuck => rw [z] at q; exact q
    | ok d s' =>
      rw [z] at q
      dsimp only at q
      intro u H1 w1 g1 t1 r1
      have rel1 := rel.go g1 t1
      refine ⟨w1, env, s', rel1, ?_⟩
      cases z2 : x env s' with
      | exc c f s2 => rw [z2] at q; exact exc_post rel1 (PostS.mono (r := .exc c f env s2) g1 q)
      | stuck => rw [z2] at q; exact q
      | ok d2 s2 =>
        rw [z2] at q
        intro u2 H2 w2 g2 t2 r2
        cases d2 with
        | drw =>
          obtain ⟨a, l, m, c, em, e2, e3, h1, h2, h3, h4, h5⟩ := mat_at t2 r2
          dsimp only at q
          rw [e3] at q
          dsimp only at q
          unfold putHead at q
          split at q
          · rename_i m' hf
            split at hf
            · rename_i i
              split at hf
              · rename_i y r hl
                cases hf
                have ei : u = .int i := by cases r1; rfl
                subst ei
                obtain ⟨n1, n2, n3⟩ := nd_m t2.nd em
                refine ⟨a, _, e2, .inl ⟨_, .inr "left", .inl h1, rfl, rfl⟩, l, _, 0, 0, rfl, rfl, h3, ?_, ?_⟩
                · rw [hl]
                  show ixN (List.map V.int (y :: r)).length 0 = some 0
                  unfold ixN
                  simp
                have el : (m.left.map V.int).set 0 (.int i) = (i :: r).map V.int := by rw [hl]; rfl
                rw [el]
                have nf : ∀ u, H2 l = some u → ¬ Fz u := fun u z f => by rw [h3] at z; cases z; exact f
                have g3 : Go w2 H2 w2 (upd H2 l (.lst ((i :: r).map V.int))) := go_m em (.inr rfl) nf
                have x2 := g3.ext
                have t3 : Sto X.K w2 { s2 with m := some { m with left := i :: r } } (upd H2 l (.lst ((i :: r).map V.int))) := by
                  refine sto_m t2 x2 (fun b hb => upd_ne fun z => n3 (z ▸ hb)) rfl ?_ t2.nd
                  rw [em]
                  refine ⟨c, by rw [upd_ne n1]; exact h1, h2.mono x2, upd_same, h4, ?_⟩
                  rw [hl] at h5
                  simpa using h5
                exact q σ _ w2 ((g1.trans g2).trans g3) ((rel1.go g2 t2).go g3 t3)
              · cases hf
            · cases hf
          · exact q.elim
        | _ => exact q.elim
theorem pds_mCut {o o' : Expr} {pos pos' pos2 pos3 p p2 p3 p4 : Pos} {j j2 j3 : Nat} {i : Nat} (hu : X.A.units + 65 < cLine) (ho : PE X o (tVar i)) (ho' : PE X o' (tVar i))
    (hs : swapsWith (.Subscript (.Subscript o' (.Constant (.str "left") j2 p2) pos2) (.Slice (some (.Constant (.int 1) j3 p3)) none none p4) pos3) (some (.Subscript o (.Constant (.str "left") j p) pos')) pos.line X.env = pure false) :
    PS X (.Assign [.Subscript o (.Constant (.str "left") j p) pos'] (.Subscript (.Subscript o' (.Constant (.str "left") j2 p2) pos2) (.Slice (some (.Constant (.int 1) j3 p3)) none none p4) pos3) pos) (tS X.K xc W (mCutS fun env => rd env i)) :=
  psimp (ps_dput (by omega) ho pe_str (pe_slice sl_list (pe_dget (by omega) ho' pe_str (fun _ _ => rfl)) (po_some pe_int) po_none) hs) fun E σ H ⟨w, env, s, rel, q⟩ => by
    unfold mCutS at q
    dsimp only at q
    rcases rd_cases env i s with ⟨d, e1, e2⟩ | e
    case inr => rw [e] at q; exact q.elim
    rw [e2] at q
    obtain ⟨v, ev, rv⟩ := rel.sl i d e1
    cases d with
    | drw =>
      obtain ⟨a, l, m, c, em, e4, e3, h1, h2, h3, h4, h5⟩ := mat_at rel.st rv
      dsimp only at q
      rw [e3] at q
      dsimp only at q
      obtain ⟨n1, n2, n3⟩ := nd_m rel.st.nd em
      refine ⟨v, ev, a, _, e4, .inl ⟨_, .inr "left", .inl h1, rfl, rfl⟩, 1, rfl, l, _, rfl, .inl (.inl h3), fun pa hp => ?_⟩
      have pna : a ≠ pa := ne_of_none h1 hp
      have ha' : upd H pa (.lst (cutV (m.left.map V.int) (some 1) none)) a = some (.dK [(.inr "cells", .ref c), (.inr "left", .ref l), (.inr "at", .int m.at_)]) := by rw [upd_ne pna]; exact h1
      refine ⟨v, ev, a, _, e4, .inl ⟨_, .inr "left", ha', rfl, by show 3 < sizeLine; decide, rfl⟩, ?_⟩
      have ec : cutV (m.left.map V.int) (some 1) none = (m.left.drop 1).map V.int := by
        cases m.left with
        | nil => rfl
        | cons y r =>
          have s1 : HT.sIx (List.map V.int (y :: r)).length 0 (some 1) = 1 := by
            unfold HT.sIx
            simp
            try omega
          have s2 : HT.sIx (List.map V.int (y :: r)).length (List.map V.int (y :: r)).length none = r.length + 1 := by
            unfold HT.sIx
            simp
          unfold cutV
          rw [s1, s2]
          show List.take (r.length + 1 - 1) (List.map V.int r) = List.map V.int r
          exact List.take_of_length_le (by simp)
      rw [ec]
      have ep : putK [((.inr "cells" : Key), V.ref c), (.inr "left", .ref l), (.inr "at", .int m.at_)] (.inr "left") (.ref pa) = [(.inr "cells", .ref c), (.inr "left", .ref pa), (.inr "at", .int m.at_)] := rfl
      rw [ep]
      have lna : l ≠ pa := ne_of_none h3 hp
      let H1 := upd (upd H pa (.lst ((m.left.drop 1).map V.int))) a (.dK [(.inr "cells", .ref c), (.inr "left", .ref pa), (.inr "at", .int m.at_)])
      have off : ∀ b, b ≠ a → b ≠ pa → H1 b = H b := fun b z1 z2 => by show upd _ _ _ b = _; rw [upd_ne z1, upd_ne z2]
      have x2 : Ext H H1 := ⟨fun b o eb f => by
        by_cases z1 : b = a
        · subst z1; rw [h1] at eb; cases eb; exact f.elim
        · rw [off b z1 (ne_of_none eb hp)]; exact eb⟩
      have aw : a ∈ w.ws := by unfold Wd.ws; rw [em]; simp
      have pw : pa ∉ w.ρ := fun z => by
        obtain ⟨o, eo⟩ := ws_some rel.st (show pa ∈ w.ws from List.mem_append_right _ z)
        rw [hp] at eo
        cases eo
      have nd : (Wd.mk (some (a, pa)) w.ρ).ws.Nodup := by
        have := nd_ρ rel.st.nd
        show ([a, pa] ++ w.ρ).Nodup
        refine List.nodup_append.mpr ⟨by simp [pna], this, fun b hb b' hb' e => ?_⟩
        subst e
        rcases List.mem_cons.mp hb with z | z
        · exact n2 (z ▸ hb')
        · exact pw (List.mem_singleton.mp z ▸ hb')
      have g3 : Go w H ⟨some (a, pa), w.ρ⟩ H1 := by
        refine ⟨fun b o eb f => ?_, fun b hb => ?_, ⟨[], by simp⟩, fun _ => by rw [em]; rfl⟩
        · by_cases z1 : b = a
          · subst z1
            rcases f with f | f
            · exact absurd aw f
            · rw [h1] at eb; cases eb; exact f.elim
          · rw [off b z1 (ne_of_none eb hp)]; exact eb
        · have hb' : b ∈ [a, pa] ++ w.ρ := hb
          rcases List.mem_append.mp hb' with z | z
          · rcases List.mem_cons.mp z with z | z
            · exact .inl (z ▸ aw)
            · exact .inr (by rw [List.mem_singleton.mp z]; exact hp)
          · exact .inl (List.mem_append_right _ z)
      have t3 : Sto X.K ⟨some (a, pa), w.ρ⟩ { s with m := some { m with left := m.left.drop 1 } } H1 := by
        refine sto_m rel.st x2 (fun b hb => off b (fun z => n2 (z ▸ hb)) fun z => pw (z ▸ hb)) rfl ?_ nd
        refine ⟨c, upd_same, h2.mono x2, by show upd _ _ _ pa = _; rw [upd_ne (Ne.symm pna), upd_same], h4, ?_⟩
        show (m.left.drop 1).length ≤ 63
        rw [List.length_drop]
        omega
      exact q σ H1 _ g3 (rel.go g3 t3)
    | _ => exact q.elim
end
end PI

set_option maxHeartbeats 1000000
/-! PI, part z: the next draw, and the first state. -/
namespace PI
open PySem L2 PyProof.Rows
theorem FnAt.imp {P : Program} {w : World} {K : PySem.W.Frag} {mg : Str → Option Value} {base : Heap} {xc : XC} {k : Nat} {x : Str} {ps : List Str} {m m' : List D → M D} (F : FnAt P w K mg base xc k x ps m) (h : ∀ ds s, m' ds s = .stuck ∨ m' ds s = m ds s) : FnAt P w K mg base xc k x ps m' := by
  obtain ⟨f, fd, h1, h2, h3, h4⟩ := F.at_
  have sp : ∀ vs H Q E, spM xc K ps.length m' vs H Q E → spM xc K ps.length m vs H Q E := fun vs H Q E ⟨l, w, ds, s, t, r, p⟩ => by
    refine ⟨l, w, ds, s, t, r, ?_⟩
    rcases h ds s with e | e
    · rw [e] at p; exact p.elim
    · rw [← e]; exact p
  exact ⟨f, fd, h1, h2, h3, fun vs H Q E z => h4.len vs H Q E (sp vs H Q E z), fun A out s H args us vs Q E hr hg e0 bt r z => h4.run A out s H args us vs Q E hr hg e0 bt r (sp vs H Q E z)⟩
/-! ### the next number -/
def mixD (m : MS) (n : Int) : Int :=
  let t := m.at_ + 1
  let cell := if m.cells.isEmpty then 5 else m.cells.getD ((t * t + t / 2) % (m.cells.length : Int)).toNat 0
  let blend := (cell * 40692 + t * 65539 + 7001 * t * t) % 2147483399
  ((blend * 48271 + 1013 * t) % 2147483647 / 13) % n
def nextMS (m : MS) (n : Int) : Int × MS := match m.left.dropWhile (· == 0) with
  | x :: r => (x % n, { m with left := (x / n) :: r })
  | [] => (mixD m n, { m with left := [], at_ := m.at_ + 1 })
def GRD : Int := 2 ^ 40
/-- guarded: few draws, a small bound -/
def nextM : List D → M D
  | [.drw, .int n] => fun s => match s.m with
    | some m => if 0 < n && n < 1073741824 && 0 ≤ m.at_ && m.at_ < GRD && decide (m.left.length ≤ 63) then .ok (.int (nextMS m n).1) { s with m := some (nextMS m n).2 } else .stuck
    | none => .stuck
  | _ => M.stk
abbrev v0 : Env' → M D := fun env => rd env 0
abbrev nextTest : Env' → M D := fun env => andM (rd env 0 >>= onM mSomeD) ((rd env 0 >>= onM mHeadD) >>= fun x => M.ret (.int 0) >>= fun y => op2 eqD x y)
abbrev nextTail : List S := [
  .asg (.nm 5) (.ite (.cmp .ne (.v 4) (.lst [])) (.bi .int [.ix (.v 4) (.bin .mod (.bi .int [.bin .add (.bin .mul (.v 3) (.v 3)) (.bin .fdiv (.v 3) (.k (.int 2)))]) (.bi .len [.v 4]))]) (.k (.int 5))),
  .asg (.nm 6) (.bin .mod (.bi .int [.bin .add (.bin .add (.bin .mul (.v 5) (.k (.int 40692))) (.bin .mul (.v 3) (.k (.int 65539)))) (.bin .mul (.bin .mul (.k (.int 7001)) (.v 3)) (.v 3))]) (.k (.int 2147483399))),
  .ret (.bin .mod (.bi .int [.bin .fdiv (.bin .mod (.bi .int [.bin .add (.bin .mul (.v 6) (.k (.int 48271))) (.bin .mul (.k (.int 1013)) (.v 3))]) (.k (.int 2147483647))) (.k (.int 13))]) (.v 1))]
def nextS (Γ : Fns) : SM :=
  seqS (whileS 65 nextTest (seqS (mCutS v0) passS))
    (seqS (ifS (fun env => rd env 0 >>= onM mSomeD) (seqS (asgS (.nm 2) fun env => rd env 0 >>= onM mHeadD) (seqS (mPutS putHead v0 (evC Γ (.bin .fdiv (.v 2) (.v 1)))) (evSs Γ [.ret (.bin .mod (.bi .int [.v 2]) (.v 1))]))) passS)
      (seqS (parS [3, 4] fun env => consN ((rd env 0 >>= onM mAtD) >>= fun x => M.ret (.int 1) >>= fun y => op2 (binD .add) x y) (consN (rd env 0 >>= onM mCellsD) (M.ret [])))
        (seqS (mPutS putAt v0 (evC Γ (.v 3))) (evSs Γ nextTail))))
theorem bnd_ok {α β : Type} {x : M α} {f : α → M β} {s s' : SS} {a : α} (h : x s = .ok a s') : (x >>= f) s = f a s' := by
  rw [M_bind]
  unfold M.bnd
  rw [h]
theorem rd_ok {env : Env'} {i : Nat} {d : D} {s : SS} (h : env[i]? = some (some d)) : rd env i s = .ok d s := by
  unfold rd
  rw [h]
  rfl
theorem onM_ok {α : Type} {f : MS → Option α} {m : MS} {a : α} {s : SS} (e : s.m = some m) (h : f m = some a) : onM f .drw s = .ok a s := by
  unfold onM
  rw [e]
  dsimp only
  rw [h]
/-- the while: zeros go -/
theorem while_zeros {env : Env'} (h0 : env[0]? = some (some .drw)) : ∀ (fuel : Nat) (m : MS) (s : SS), s.m = some m → m.left.length < fuel →
    whileL nextTest (seqS (mCutS v0) passS) fuel env s = .nx env { s with m := some { m with left := m.left.dropWhile (· == 0) } }
  | 0, _, _, _, h => absurd h (Nat.not_lt_zero _)
  | fuel + 1, m, s, em, hl => by
    obtain ⟨cells, left, at_⟩ := m
    cases left with
    | nil =>
      have t1 : nextTest env s = .ok (.bl false) s := by
        show andM _ _ s = _
        unfold andM
        rw [bnd_ok (s' := s) (a := .bl false) (by rw [bnd_ok (rd_ok h0)]; exact onM_ok em rfl)]
        rfl
      unfold whileL
      rw [t1]
      dsimp only
      rw [show s = { s with m := some ⟨cells, [], at_⟩ } from by obtain ⟨m1, c1⟩ := s; cases em; rfl]
      rfl
    | cons x r =>
      have t1 : nextTest env s = .ok (.bl (x == 0)) s := by
        show andM _ _ s = _
        unfold andM
        rw [bnd_ok (s' := s) (a := .bl true) (by rw [bnd_ok (rd_ok h0)]; exact onM_ok em rfl)]
        dsimp only
        rw [bnd_ok (s' := s) (a := .int x) (by rw [bnd_ok (rd_ok h0)]; exact onM_ok em rfl)]
        rfl
      unfold whileL
      rw [t1]
      by_cases hx : x = 0
      · subst hx
        dsimp only
        have t2 : seqS (mCutS v0) passS env s = .nx env { s with m := some ⟨cells, r, at_⟩ } := by
          unfold seqS mCutS
          rw [show v0 env s = .ok .drw s from rd_ok h0]
          dsimp only
          rw [em]
          rfl
        have := while_zeros h0 fuel ⟨cells, r, at_⟩ { s with m := some ⟨cells, r, at_⟩ } rfl (by simpa using hl)
        show (match seqS (mCutS v0) passS env s with | .nx e s => _ | .cont e s => _ | .brk e s => _ | r => r) = _
        rw [t2]
        dsimp only
        rw [this]
        simp
      · have hb : (x == 0) = false := beq_eq_false_iff_ne.mpr hx
        rw [hb]
        dsimp only
        rw [show s = { s with m := some ⟨cells, x :: r, at_⟩ } from by obtain ⟨m1, c1⟩ := s; cases em; rfl]
        simp [hb]
theorem seqS_nx {a b : SM} {env env' : Env'} {s s' : SS} (h : a env s = .nx env' s') : seqS a b env s = b env' s' := by
  unfold seqS
  rw [h]
theorem seqS_rt {a b : SM} {env : Env'} {d : D} {s s' : SS} (h : a env s = .rt d s') : seqS a b env s = .rt d s' := by
  unfold seqS
  rw [h]
theorem ifS_t {c : Env' → M D} {a b : SM} {env : Env'} {s s' : SS} (h : c env s = .ok (.bl true) s') : ifS c a b env s = a env s' := by
  unfold ifS
  rw [h]
theorem ifS_f {c : Env' → M D} {a b : SM} {env : Env'} {s s' : SS} (h : c env s = .ok (.bl false) s') : ifS c a b env s = b env s' := by
  unfold ifS
  rw [h]
theorem next_left {Γ : Fns} {n x : Int} {r cells : List Int} {at_ : Int} {cs : List (Bool × OC)} (h1 : 0 < n) (h2 : n < 1073741824) :
    ifS (fun env => rd env 0 >>= onM mSomeD) (seqS (asgS (.nm 2) fun env => rd env 0 >>= onM mHeadD) (seqS (mPutS putHead v0 (evC Γ (.bin .fdiv (.v 2) (.v 1)))) (evSs Γ [.ret (.bin .mod (.bi .int [.v 2]) (.v 1))]))) passS
      (startE 7 [.drw, .int n]) ⟨some ⟨cells, x :: r, at_⟩, cs⟩ = .rt (.int (x % n)) ⟨some ⟨cells, (x / n) :: r, at_⟩, cs⟩ := by
  have f1 : binD .fdiv (.int x) (.int n) = some (.int (x / n)) := by
    show (if (decide (0 < n) && decide (n < 1073741824)) = true then _ else _) = _
    rw [decide_eq_true h1, decide_eq_true h2]
    rfl
  have f2 : binD .mod (.int x) (.int n) = some (.int (x % n)) := by
    show (if 0 < n then _ else _) = _
    rw [if_pos h1]
  let env1 : Env' := [some .drw, some (.int n), some (.int x), none, none, none, none]
  have e1 : asgS (.nm 2) (fun env => rd env 0 >>= onM mHeadD) (startE 7 [.drw, .int n]) ⟨some ⟨cells, x :: r, at_⟩, cs⟩ = .nx env1 ⟨some ⟨cells, x :: r, at_⟩, cs⟩ := rfl
  have e2 : mPutS putHead v0 (evC Γ (.bin .fdiv (.v 2) (.v 1))) env1 ⟨some ⟨cells, x :: r, at_⟩, cs⟩ = .nx env1 ⟨some ⟨cells, (x / n) :: r, at_⟩, cs⟩ := by
    have v : evC Γ (.bin .fdiv (.v 2) (.v 1)) env1 ⟨some ⟨cells, x :: r, at_⟩, cs⟩ = .ok (.int (x / n)) ⟨some ⟨cells, x :: r, at_⟩, cs⟩ := by
      show op2 (binD .fdiv) (.int x) (.int n) _ = _
      unfold op2
      show (match binD .fdiv (.int x) (.int n) with | some d => _ | none => _) = _
      rw [f1]
    unfold mPutS
    rw [v]
    rfl
  have e3 : evSs Γ [.ret (.bin .mod (.bi .int [.v 2]) (.v 1))] env1 ⟨some ⟨cells, (x / n) :: r, at_⟩, cs⟩ = .rt (.int (x % n)) ⟨some ⟨cells, (x / n) :: r, at_⟩, cs⟩ := by
    have v : evC Γ (.bin .mod (.bi .int [.v 2]) (.v 1)) env1 ⟨some ⟨cells, (x / n) :: r, at_⟩, cs⟩ = .ok (.int (x % n)) ⟨some ⟨cells, (x / n) :: r, at_⟩, cs⟩ := by
      show op2 (binD .mod) (.int x) (.int n) _ = _
      unfold op2
      show (match binD .mod (.int x) (.int n) with | some d => _ | none => _) = _
      rw [f2]
    refine seqS_rt ?_
    show retS _ _ _ = _
    unfold retS
    rw [v]
    rfl
  have e0 : (rd (startE 7 [.drw, .int n]) 0 >>= onM mSomeD) ⟨some ⟨cells, x :: r, at_⟩, cs⟩ = .ok (.bl true) ⟨some ⟨cells, x :: r, at_⟩, cs⟩ := rfl
  rw [ifS_t e0, seqS_nx e1, seqS_nx e2, e3]
theorem op2_ok {f : D → D → Option D} {x y d : D} {s : SS} (h : f (vw s x) (vw s y) = some d) : op2 f x y s = .ok d s := by
  unfold op2
  rw [h]
theorem mul_small {i j : Int} (h : small i = true ∨ small j = true) : binD .mul (.int i) (.int j) = some (.int (i * j)) := by
  show (if (small i || small j) = true then _ else _) = _
  rw [if_pos (by simpa using h)]
theorem fdiv_pos {i j : Int} (h1 : 0 < j) (h2 : j < 1073741824) : binD .fdiv (.int i) (.int j) = some (.int (i / j)) := by
  show (if (decide (0 < j) && decide (j < 1073741824)) = true then _ else _) = _
  rw [decide_eq_true h1, decide_eq_true h2]
  rfl
theorem mod_pos {i j : Int} (h1 : 0 < j) : binD .mod (.int i) (.int j) = some (.int (i % j)) := by
  show (if 0 < j then _ else _) = _
  rw [if_pos h1]
/-- an arithmetic step -/
theorem bin_ok' {Γ : Fns} {o : BOp} {a b : C} {env : Env'} {s : SS} {i j k : Int} (ha : evC Γ a env s = .ok (.int i) s) (hb : evC Γ b env s = .ok (.int j) s) (h : binD o (.int i) (.int j) = some (.int k)) : evC Γ (.bin o a b) env s = .ok (.int k) s := by
  show (evC Γ a env >>= fun x => evC Γ b env >>= fun y => op2 (binD o) x y) s = _
  rw [bnd_ok ha, bnd_ok hb, op2_ok h]
theorem int_ok' {Γ : Fns} {a : C} {env : Env'} {s : SS} {i : Int} (ha : evC Γ a env s = .ok (.int i) s) : evC Γ (.bi .int [a]) env s = .ok (.int i) s := by
  show biM intD (consN (evC Γ a env) (M.ret [])) s = _
  unfold biM consN
  rw [bnd_ok (s' := s) (a := [.int i]) (by rw [bnd_ok ha]; rfl)]
  rfl
theorem small_of {i : Int} (h1 : -(2 ^ 64) < i) (h2 : i < 2 ^ 64) : small i = true := by
  unfold small
  rw [decide_eq_true h1, decide_eq_true h2]
  rfl
theorem next_mix {Γ : Fns} {n t : Int} {cells : List Int} {cs : List (Bool × OC)} {m : MS} (h1 : 0 < n) (ht : 0 ≤ t) (ht2 : t ≤ GRD) :
    evSs Γ nextTail [some .drw, some (.int n), none, some (.int t), some (.lst (cells.map .int)), none, none] ⟨some m, cs⟩ =
      .rt (.int ((((((if cells.isEmpty then 5 else cells.getD ((t * t + t / 2) % (cells.length : Int)).toNat 0) * 40692 + t * 65539 + 7001 * t * t) % 2147483399) * 48271 + 1013 * t) % 2147483647 / 13) % n)) ⟨some m, cs⟩ := by
  have g : GRD = 1099511627776 := by decide
  rw [g] at ht2
  generalize hs : (⟨some m, cs⟩ : SS) = s
  generalize hcell : (if cells.isEmpty then 5 else cells.getD ((t * t + t / 2) % (cells.length : Int)).toNat 0) = cell
  let env1 : Env' := [some .drw, some (.int n), none, some (.int t), some (.lst (cells.map .int)), none, none]
  let env2 : Env' := [some .drw, some (.int n), none, some (.int t), some (.lst (cells.map .int)), some (.int cell), none]
  have sm : ∀ {i : Int}, -(2 ^ 64) < i → i < 2 ^ 64 → small i = true := fun a b => small_of a b
  have st : small t = true := sm (by omega) (by omega)
  have c1 : evC Γ (.ite (.cmp .ne (.v 4) (.lst [])) (.bi .int [.ix (.v 4) (.bin .mod (.bi .int [.bin .add (.bin .mul (.v 3) (.v 3)) (.bin .fdiv (.v 3) (.k (.int 2)))]) (.bi .len [.v 4]))]) (.k (.int 5))) env1 s = .ok (.int cell) s := by
    have q : evC Γ (.cmp .ne (.v 4) (.lst [])) env1 s = .ok (.bl (!cells.isEmpty)) s := by
      show op2 neD (.lst (cells.map .int)) (.lst []) s = _
      exact op2_ok (ne_nil_ints cells)
    show iteM _ _ _ s = _
    unfold iteM
    rw [bnd_ok q]
    cases hcs : cells with
    | nil =>
      rw [hcs] at hcell
      cases hcell
      rfl
    | cons c0 cr =>
      rw [← hcs]
      have hne : cells.isEmpty = false := by rw [hcs]; rfl
      rw [hne] at hcell ⊢
      change evC Γ (.bi .int [_]) env1 s = _
      have hlen : (0 : Int) < (cells.length : Int) := by rw [hcs]; simp
      have l : evC Γ (.bi .len [.v 4]) env1 s = .ok (.int (cells.length : Int)) s := by
        show R.ok (D.int (((cells.map D.int).length : Nat) : Int)) s = _
        rw [List.length_map]
      have k1 := bin_ok' (Γ := Γ) (env := env1) (s := s) (a := .bin .mul (.v 3) (.v 3)) (b := .bin .fdiv (.v 3) (.k (.int 2))) (o := .add) (bin_ok' (i := t) (j := t) (o := .mul) rfl rfl (mul_small (.inl st))) (bin_ok' (i := t) (j := 2) (o := .fdiv) rfl rfl (fdiv_pos (by decide) (by decide))) rfl
      have k2 := bin_ok' (o := .mod) (int_ok' k1) l (mod_pos hlen)
      refine int_ok' ?_
      show (evC Γ (.v 4) env1 >>= fun x => evC Γ _ env1 >>= fun y => op2 ixD x y) s = _
      have q4 : evC Γ (.v 4) env1 s = .ok (.lst (cells.map .int)) s := rfl
      rw [bnd_ok q4, bnd_ok k2]
      refine op2_ok ?_
      have hlo := Int.emod_nonneg (t * t + t / 2) (Int.ne_of_gt hlen)
      have hhi := Int.emod_lt_of_pos (t * t + t / 2) hlen
      have hidx : ((t * t + t / 2) % (cells.length : Int)).toNat < cells.length := by omega
      show atI (cells.map D.int) ((t * t + t / 2) % (cells.length : Int)) = some (.int cell)
      have ek : (t * t + t / 2) % (cells.length : Int) = ((((t * t + t / 2) % (cells.length : Int)).toNat : Nat) : Int) := by omega
      rw [ek]
      refine atI_nat ?_
      rw [List.getElem?_map, List.getElem?_eq_getElem hidx]
      rw [← hcell]
      simp [List.getD, List.getElem?_eq_getElem hidx]
  have e1 : asgS (.nm 5) (evC Γ (.ite (.cmp .ne (.v 4) (.lst [])) (.bi .int [.ix (.v 4) (.bin .mod (.bi .int [.bin .add (.bin .mul (.v 3) (.v 3)) (.bin .fdiv (.v 3) (.k (.int 2)))]) (.bi .len [.v 4]))]) (.k (.int 5)))) env1 s = .nx env2 s := by
    unfold asgS
    rw [c1]
    rfl
  have k3 := bin_ok' (Γ := Γ) (env := env2) (s := s) (o := .add) (bin_ok' (o := .add) (a := .bin .mul (.v 5) (.k (.int 40692))) (b := .bin .mul (.v 3) (.k (.int 65539))) (bin_ok' (i := cell) (j := 40692) (o := .mul) rfl rfl (mul_small (.inr (by decide)))) (bin_ok' (i := t) (j := 65539) (o := .mul) rfl rfl (mul_small (.inl st))) rfl)
    (bin_ok' (o := .mul) (a := .bin .mul (.k (.int 7001)) (.v 3)) (b := .v 3) (bin_ok' (i := 7001) (j := t) (o := .mul) rfl rfl (mul_small (.inr st))) rfl (mul_small (.inr st))) rfl
  have k4 := bin_ok' (o := .mod) (b := .k (.int 2147483399)) (int_ok' k3) rfl (mod_pos (by decide))
  generalize hbl : (cell * 40692 + t * 65539 + 7001 * t * t) % 2147483399 = blend at k4
  have b1 : 0 ≤ blend := by rw [← hbl]; exact Int.emod_nonneg _ (by decide)
  have b2 : blend < 2147483399 := by rw [← hbl]; exact Int.emod_lt_of_pos _ (by decide)
  let env3 : Env' := [some .drw, some (.int n), none, some (.int t), some (.lst (cells.map .int)), some (.int cell), some (.int blend)]
  have e2 : asgS (.nm 6) (evC Γ (.bin .mod (.bi .int [.bin .add (.bin .add (.bin .mul (.v 5) (.k (.int 40692))) (.bin .mul (.v 3) (.k (.int 65539)))) (.bin .mul (.bin .mul (.k (.int 7001)) (.v 3)) (.v 3))]) (.k (.int 2147483399)))) env2 s = .nx env3 s := by
    unfold asgS
    rw [k4]
    rfl
  have k5 := bin_ok' (Γ := Γ) (env := env3) (s := s) (o := .add) (a := .bin .mul (.v 6) (.k (.int 48271))) (b := .bin .mul (.k (.int 1013)) (.v 3)) (bin_ok' (i := blend) (j := 48271) (o := .mul) rfl rfl (mul_small (.inr (by decide)))) (bin_ok' (i := 1013) (j := t) (o := .mul) rfl rfl (mul_small (.inr st))) rfl
  have k6 := bin_ok' (o := .mod) (b := .k (.int 2147483647)) (int_ok' k5) rfl (mod_pos (by decide))
  have k7 := bin_ok' (o := .fdiv) (b := .k (.int 13)) k6 rfl (fdiv_pos (by decide) (by decide))
  have k8 := bin_ok' (o := .mod) (b := .v 1) (int_ok' k7) rfl (mod_pos h1)
  refine (seqS_nx e1).trans ((seqS_nx e2).trans ?_)
  refine seqS_rt ?_
  show retS _ _ _ = _
  unfold retS
  rw [k8]
  rfl
theorem next_eq (Γ : Fns) (ds : List D) (s : SS) : nextM ds s = .stuck ∨ nextM ds s = fnM 7 (nextS Γ) ds s := by
  unfold nextM
  split
  case h_2 => exact .inl rfl
  rename_i n
  split
  case h_2 => exact .inl rfl
  rename_i m em
  split
  case isFalse => exact .inl rfl
  rename_i hc
  right
  simp only [Bool.and_eq_true, decide_eq_true_eq] at hc
  obtain ⟨⟨⟨⟨h1, h2⟩, h3⟩, h4⟩, h5⟩ := hc
  obtain ⟨sm, scs⟩ := s
  cases em
  obtain ⟨cells, left, at_⟩ := m
  have w1 : whileS 65 nextTest (seqS (mCutS v0) passS) (startE 7 [.drw, .int n]) ⟨some ⟨cells, left, at_⟩, scs⟩ = .nx (startE 7 [.drw, .int n]) ⟨some ⟨cells, left.dropWhile (· == 0), at_⟩, scs⟩ :=
    while_zeros rfl 65 ⟨cells, left, at_⟩ ⟨some ⟨cells, left, at_⟩, scs⟩ rfl (by show left.length < 65; have : left.length ≤ 63 := h5; omega)
  unfold fnM nextS nextMS
  rw [seqS_nx w1]
  dsimp only at h3 h4 ⊢
  cases hl : left.dropWhile (· == 0) with
  | cons x r =>
    rw [seqS_rt (next_left h1 h2)]
    show _ = (if pureB (.int (x % n)) then _ else _)
    rw [if_pos (show pureB (.int (x % n)) = true from rfl)]
    unfold cutS
    rw [List.take_length]
  | nil =>
    have e0 : (fun env => rd env 0 >>= onM mSomeD) (startE 7 [.drw, .int n]) ⟨some ⟨cells, [], at_⟩, scs⟩ = .ok (.bl false) ⟨some ⟨cells, [], at_⟩, scs⟩ := rfl
    have i0 : ∀ a : SM, ifS (fun env => rd env 0 >>= onM mSomeD) a passS (startE 7 [.drw, .int n]) ⟨some ⟨cells, [], at_⟩, scs⟩ = .nx (startE 7 [.drw, .int n]) ⟨some ⟨cells, [], at_⟩, scs⟩ := fun a => by rw [ifS_f e0]; rfl
    rw [seqS_nx (i0 _)]
    let env1 : Env' := [some .drw, some (.int n), none, some (.int (at_ + 1)), some (.lst (cells.map .int)), none, none]
    have p1 : parS [3, 4] (fun env => consN ((rd env 0 >>= onM mAtD) >>= fun x => M.ret (.int 1) >>= fun y => op2 (binD .add) x y) (consN (rd env 0 >>= onM mCellsD) (M.ret []))) (startE 7 [.drw, .int n]) ⟨some ⟨cells, [], at_⟩, scs⟩ = .nx env1 ⟨some ⟨cells, [], at_⟩, scs⟩ := rfl
    rw [seqS_nx p1]
    have p2 : mPutS putAt v0 (evC Γ (.v 3)) env1 ⟨some ⟨cells, [], at_⟩, scs⟩ = .nx env1 ⟨some ⟨cells, [], at_ + 1⟩, scs⟩ := rfl
    rw [seqS_nx p2]
    have q := next_mix (Γ := Γ) (n := n) (t := at_ + 1) (cells := cells) (cs := scs) (m := ⟨cells, [], at_ + 1⟩) h1 (by omega) (by omega)
    rw [show evSs Γ nextTail env1 ⟨some ⟨cells, [], at_ + 1⟩, scs⟩ = _ from q]
    dsimp only
    rw [if_pos (show pureB (.int _) = true from rfl)]
    unfold cutS mixD
    rw [List.take_length]
end PI

set_option maxHeartbeats 1000000
/-! PI, part v: the first state of the draws. -/
namespace PI
open PySem L2 PyProof.Rows
def intsOf : List D → Option (List Int)
  | [] => some []
  | .int n :: r => (intsOf r).map (n :: ·)
  | _ => none
theorem intsOf_map : ∀ ns : List Int, intsOf (ns.map D.int) = some ns
  | [] => rfl
  | n :: ns => by
    show (intsOf (ns.map D.int)).map (n :: ·) = _
    rw [intsOf_map ns]
    rfl
theorem reps_intsOf {K : PySem.W.Frag} {H : Hp} : ∀ {ds : List D} {vs : List V} {ns : List Int}, Reps K H vs ds → intsOf ds = some ns → vs = ns.map V.int
  | [], _, _, .nil, e => by cases e; rfl
  | d :: ds, _, ns, .cons h r, e => by
    cases d with
    | int n =>
      have e' : (intsOf ds).map (n :: ·) = some ns := e
      cases z : intsOf ds with
      | none => rw [z] at e'; cases e'
      | some ms =>
        rw [z] at e'
        cases e'
        cases h
        rw [reps_intsOf r z]
        rfl
    | _ => cases e
/-- a table of lambdas -/
def tblC : Bool × OC → Bool
  | (false, .tbl _ _) => true
  | _ => false
def begD (x y : D) : M D := fun s => match x, y, s.m, s.cs.all tblC with
  | .lst xs, .lst ys, none, true => match intsOf xs, intsOf ys with
    | some ns, some ms => if decide (ns.length ≤ 63) && decide (ms.length ≤ 63) then .ok .drw { s with m := some ⟨ns, ms, 0⟩ } else .stuck
    | _, _ => .stuck
  | _, _, _, _ => .stuck
def begE (m1 m2 : Env' → M D) (env : Env') : M D := m1 env >>= fun x => m2 env >>= fun y => begD x y
section
variable {X : Cx} {xc : XC} {W : WX}
/-- a list that is frozen later -/
def tU (K : PySem.W.Frag) (xc : XC) (W : WX) (m : Env' → M D) : TE := fun σ H Q => ∃ Q2, tE K xc W m σ H Q2 ∧ ∀ v H', FrQ Q2 v H' → Q v H'
theorem pd_lcU {elt tg iter : Expr} {ifs : List Expr} {scope : Scope} {own : List (Str × Nat)} {pos : Pos} {t : T} {mi : Env' → M (List D)} {tst el : Env' → M D} (hc : X.calm = true) (hN : X.N.Nodup) (hi : PI X tg iter (tI X.K xc W mi)) (ok : BlkOk X.N X.env.scope scope own)
    (hg : ∀ (s : Shared) (H : Hp) (C : Addr) (cl : List (Str × Addr)) (fp : List Addr), PG (X.blk s H scope (compEnvC scope cl C X.env) fp) tg (tG X.K t))
    (ht : ∀ (s : Shared) (H : Hp) (C : Addr) (cl : List (Str × Addr)) (fp : List Addr), PTs (X.blk s H scope (compEnvC scope cl C X.env) fp) ifs (tTst X.K xc (fun _ _ _ _ => False) tst))
    (he : ∀ (s : Shared) (H : Hp) (C : Addr) (cl : List (Str × Addr)) (fp : List Addr), PE (X.blk s H scope (compEnvC scope cl C X.env) fp) elt (tE X.K xc (fun _ _ _ _ => False) el))
    (hs : ∀ x, foldedSetIterable iter X.env x = pure x) (hsub : ∀ j ∈ slotsT t, j ∈ own.map (·.2)) :
    PE X (.ListComp elt [⟨tg, iter, ifs, 0⟩] scope pos) (tU X.K xc W fun env => lcM (own.map (·.2)) t (mi env) tst el env) := by
  refine ⟨fun pins s σ H Q I ⟨Q2, q, hq⟩ => thn ((pe_lc (te := tE X.K xc (fun _ _ _ _ => False) fun env => el env >>= frz) hc hN hi ok hg ht (fun s H C cl fp => pd_frz (he s H C cl fp)) hs).run pins s σ H (FrQ Q2) I ?_) fun u s1 ⟨v, H1, I1, r1, z⟩ => ⟨v, H1, I1, r1, hq v H1 z⟩⟩
  obtain ⟨w, env, s, rel, p⟩ := q
  refine ⟨w, env, s, rel, ?_⟩
  have p' : Post X.K xc W σ w H Q2 (M.bnd (mi env) _ s) := p
  unfold M.bnd at p'
  cases q : mi env s with
  | ok ds s1 =>
    rw [q] at p'
    intro J H1 w1 g t1 jo l hl
    exact lc_post (W := W) jo hsub (rel.go g t1) hl (p'.mono g)
  | exc c f s' => rw [q] at p'; exact p'
  | stuck => rw [q] at p'; exact p'
theorem ws_none {K : PySem.W.Frag} {w : Wd} {s : SS} {H : Hp} (t : Sto K w s H) (hm : s.m = none) : w.m = none := by
  have h1 := t.m
  rw [hm] at h1
  cases z : w.m with
  | none => rfl
  | some p => rw [z] at h1; exact h1.elim
theorem go_none {w w' : Wd} {H H' : Hp} (g : Go w H w' H') (h : w'.m = none) : w.m = none := by
  cases z : w.m with
  | none => rfl
  | some p =>
    have := g.ms (by rw [z]; rfl)
    rw [h, z] at this
    cases this
theorem ws_rho {w : Wd} (h : w.m = none) : w.ws = w.ρ := by
  unfold Wd.ws
  rw [h]
  rfl
/-- what stands in the store is a table -/
theorem tab_cell {K : PySem.W.Frag} {w : Wd} {s : SS} {H : Hp} (t : Sto K w s H) (hc : s.cs.all tblC = true) {a : Addr} (ha : a ∈ w.ρ) : ∃ ps, H a = some (.tbl ps) := by
  obtain ⟨i, hi, e⟩ := List.getElem_of_mem ha
  have h1 : w.ρ[i]? = some a := by rw [List.getElem?_eq_getElem hi, e]
  have hl : i < s.cs.length := by rw [← t.len]; exact hi
  have h2 : s.cs[i]? = some s.cs[i] := List.getElem?_eq_getElem hl
  have z := t.cs i a _ h1 h2
  have q := List.all_eq_true.mp hc s.cs[i] (List.getElem_mem hl)
  generalize s.cs[i] = c at z q
  obtain ⟨fz, oc⟩ := c
  cases fz <;> cases oc <;> first | (obtain ⟨_, ps, hP, _⟩ := z; exact ⟨ps, hP⟩) | cases q
theorem cell_tab {K : PySem.W.Frag} {H H' : Hp} {a : Addr} {c : Bool × OC} (hc : tblC c = true) (h : CellAt K H a c) (st : ∀ b o, H b = some o → ((∃ ps, o = .tbl ps) ∨ ∃ φ, o = .ext φ) → H' b = some o) : CellAt K H' a c := by
  obtain ⟨fz, oc⟩ := c
  cases fz <;> cases oc <;> first | (cases hc; done) | skip
  obtain ⟨hx, ps, hP, h2, h3⟩ := h
  refine ⟨hx, ps, st _ _ hP (.inl ⟨_, rfl⟩), h2, fun pos cv hcv => ?_⟩
  obtain ⟨c, e1, e2⟩ := h3 pos cv hcv
  exact ⟨c, e1, st _ _ e2 (.inr ⟨_, rfl⟩)⟩
theorem pd_begun {e1 e2 : Expr} {m1 m2 : Env' → M D} {j1 j2 j3 j4 : Nat} {p1 p2 p3 p4 pos : Pos} (h1 : PE X e1 (tE X.K xc W m1)) (h2 : PE X e2 (tU X.K xc W m2)) :
    PE X (.Dict [some (.Constant (.str "cells") j1 p1), some (.Constant (.str "left") j2 p2), some (.Constant (.str "at") j3 p3)] [e1, e2, .Constant (.int 0) j4 p4] pos) (tE X.K xc W (begE m1 m2)) :=
  pimp (pe_disp (pps_cons pe_str h1 (pps_cons pe_str h2 (pps_cons pe_str pe_int pps_nil))) rfl rfl (by simp) (by show 3 ≤ 15; decide)) fun σ H Q ⟨w, env, s, rel, q⟩ => by
    intro p hp
    show tE X.K xc W m1 σ (upd H p (.dK [])) _
    have sm : Same H (upd H p (.dK [])) := snew hp
    have g0 : Go w H w (upd H p (.dK [])) := sgo sm
    have rel0 := rel.go g0 (rel.st.same sm)
    refine ⟨w, env, s, rel0, ?_⟩
    have q' : Post X.K xc W σ w H Q (M.bnd (m1 env) (fun x => M.bnd (m2 env) fun y => begD x y) s) := q
    unfold M.bnd at q'
    cases z1 : m1 env s with
    | exc c f s' => rw [z1] at q'; exact fun x v H' w' g => q' x v H' w' (g0.trans g)
    | stuck => rw [z1] at q'; exact q'
    | ok d1 s1 =>
      rw [z1] at q'
      dsimp only at q'
      intro v1 H1 w1 g1 t1 r1
      have rel1 := rel0.go g1 t1
      show tU X.K xc W m2 σ H1 _
      cases z2 : m2 env s1 with
      | exc c f s' =>
        rw [z2] at q'
        refine ⟨fun _ _ => False, ⟨w1, env, s1, rel1, ?_⟩, fun v H' ⟨a, xs, _, _, f⟩ => (f default).elim⟩
        rw [z2]
        exact fun x v H' w' g => q' x v H' w' ((g0.trans g1).trans g)
      | stuck => rw [z2] at q'; exact q'.elim
      | ok d2 s2 =>
        rw [z2] at q'
        dsimp only at q'
        refine ⟨fun v Hf => ∃ w2, Go w1 H1 w2 Hf ∧ Sto X.K w2 s2 Hf ∧ RepT X.K w2 Hf v d2, ⟨w1, env, s1, rel1, ?_⟩, fun v H2 fr => ?_⟩
        · rw [z2]
          exact fun v H' w' g t r => ⟨w', g, t, r⟩
        obtain ⟨l, ls, rfl, el, fo⟩ := fr
        unfold begD at q'
        split at q'
        case h_2 => exact q'.elim
        rename_i xs ys e3 e4
        split at q'
        case h_2 => exact q'.elim
        rename_i ns ms i1 i2
        split at q'
        case isFalse => exact q'.elim
        rename_i hlen
        simp only [Bool.and_eq_true, decide_eq_true_eq] at hlen
        obtain ⟨w2, g2, t2, r2⟩ := fo { cls := .type "list" }
        have n2 := ws_none t2 e3
        have n1 := go_none g2 n2
        have n0 := go_none g1 n1
        have tb2 : ∀ {a : Addr}, a ∈ w2.ρ → ∃ ps, upd H2 l (.frz { cls := .type "list" } (.lst ls)) a = some (.tbl ps) := fun h => tab_cell t2 e4 h
        have in12 : ∀ {a : Addr}, a ∈ w1.ρ → a ∈ w2.ρ := fun {a} h => by
          obtain ⟨e, he⟩ := g2.pre
          rw [he]; exact List.mem_append_left _ h
        have l2 : l ∉ w2.ρ := fun z => by
          obtain ⟨ps, h⟩ := tb2 z
          rw [upd_same] at h
          cases h
        have l1 : l ∉ w1.ws := by
          rw [ws_rho n1]
          exact fun z => l2 (in12 z)
        have fl : H1 l = none := by
          cases z : H1 l with
          | none => rfl
          | some u =>
            obtain ⟨w3, g3, _, _⟩ := fo { cls := .type "dict" }
            have a1 := g2.kp l u z (.inl l1)
            have a2 := g3.kp l u z (.inl l1)
            rw [upd_same] at a1 a2
            rw [← a1] at a2
            injection a2 with a3
            injection a3 with a4
            injection a4 with a5
            injection a5 with a6
            exact absurd a6 (by decide)
        have off : ∀ b, b ≠ l → upd H2 l (.frz { cls := .type "list" } (.lst ls)) b = H2 b := fun b hb => upd_ne hb
        have pw : p ∉ w.ws := fun z => by
          obtain ⟨ps, h⟩ : ∃ o, H p = some o := by
            rw [ws_rho n0] at z
            obtain ⟨i, hi, e⟩ := List.getElem_of_mem z
            have h1 : w.ρ[i]? = some p := by rw [List.getElem?_eq_getElem hi, e]
            have hl : i < s.cs.length := by rw [← rel.st.len]; exact hi
            exact (rel.st.cs i p _ h1 (List.getElem?_eq_getElem hl)).there
          rw [hp] at h
          cases h
        have pw1 : p ∉ w1.ws := fun z => by
          rcases g1.gr p z with z | z
          · exact pw z
          · rw [upd_same] at z; cases z
        have ep1 : H1 p = some (.dK []) := g1.kp p _ upd_same (.inl pw)
        have pl : p ≠ l := ne_of_none ep1 fl
        have ep2 : H2 p = some (.dK []) := by
          have := g2.kp p _ ep1 (.inl pw1)
          rw [off p pl] at this
          exact this
        have up1 : ∀ b u, H1 b = some u → (b ∉ w1.ws ∨ Fz u) → H2 b = some u := fun b u z f => by
          have := g2.kp b u z f
          rw [off b (ne_of_none z fl)] at this
          exact this
        have up0 : ∀ b u, H b = some u → (b ∉ w.ws ∨ Fz u) → H2 b = some u := fun b u z f => by
          have z0 := sm b u z
          refine up1 b u (g1.kp b u z0 f) ?_
          rcases f with f | f
          · refine .inl fun h => ?_
            rcases g1.gr b h with h | h
            · exact f h
            · rw [z0] at h; cases h
          · exact .inr f
        cases r1 with
        | lst f1 rs1 =>
        cases r2 with
        | lst f2 rs2 =>
        rename_i c cvs lvs
        have ec := reps_intsOf rs1 i1
        have eb := reps_intsOf rs2 i2
        subst ec eb
        obtain ⟨oc, f1⟩ := f1
        obtain ⟨ol, f2⟩ := f2
        rw [upd_same] at f2
        have els : ls = ms.map V.int := by cases f2; rfl
        subst els
        show H2 p = some (.dK []) ∧ _
        refine ⟨ep2, [(.inr "cells", .ref c), (.inr "left", .ref l), (.inr "at", .int 0)], rfl, by show 3 ≤ 15; decide, ?_⟩
        have em : mergeK [] [((.inr "cells" : Key), V.ref c), (.inr "left", .ref l), (.inr "at", .int 0)] = [(.inr "cells", .ref c), (.inr "left", .ref l), (.inr "at", .int 0)] := rfl
        rw [em]
        have cp : c ≠ p := fun z => by
          rw [z, ep1] at f1
          cases f1
        have ml : l ≠ p := Ne.symm pl
        have hlH : H l = none := by
          cases z : H l with
          | none => rfl
          | some u =>
            by_cases hw : l ∈ w.ws
            · rw [ws_rho n0] at hw
              obtain ⟨e, he⟩ := g1.pre
              exact absurd (in12 (by rw [he]; exact List.mem_append_left _ hw)) l2
            · rw [g1.kp l u (sm l u z) (.inl hw)] at fl; cases fl
        have g02 := (g0.trans g1).trans g2
        have stay : ∀ b o, upd H2 l (.frz { cls := .type "list" } (.lst (ms.map V.int))) b = some o → ((∃ ps, o = .tbl ps) ∨ ∃ φ, o = .ext φ) → upd H2 p (.dK [(.inr "cells", .ref c), (.inr "left", .ref l), (.inr "at", .int 0)]) b = some o := fun b o e k => by
          have nl : b ≠ l := fun z => by
            rw [z, upd_same] at e
            cases e
            rcases k with ⟨_, k⟩ | ⟨_, k⟩ <;> cases k
          rw [upd_ne nl] at e
          have np : b ≠ p := fun z => by
            rw [z, ep2] at e
            cases e
            rcases k with ⟨_, k⟩ | ⟨_, k⟩ <;> cases k
          rw [upd_ne np]
          exact e
        have p2 : p ∉ w2.ρ := fun z => by
          obtain ⟨ps, h⟩ := tb2 z
          rw [upd_ne pl, ep2] at h
          cases h
        have g3 : Go w H ⟨some (p, l), w2.ρ⟩ (upd H2 p (.dK [(.inr "cells", .ref c), (.inr "left", .ref l), (.inr "at", .int 0)])) := by
          refine ⟨fun b u z f => ?_, fun b hb => ?_, ?_, fun z => ?_⟩
          · rw [upd_ne (ne_of_none z hp)]
            exact up0 b u z f
          · have hb' : b ∈ [p, l] ++ w2.ρ := hb
            rcases List.mem_append.mp hb' with hb' | hb'
            · simp at hb'
              rcases hb' with z | z
              · exact .inr (z ▸ hp)
              · exact .inr (z ▸ hlH)
            · exact g02.gr b (by rw [ws_rho n2]; exact hb')
          · obtain ⟨e, he⟩ := g02.pre
            exact ⟨e, he⟩
          · rw [n0] at z; cases z
        refine q' _ _ ⟨some (p, l), w2.ρ⟩ g3 ⟨?_, t2.len, ?_, ?_⟩ ?_
        · exact ⟨c, upd_same, ⟨oc, by rw [upd_ne cp]; exact up1 c _ f1 (.inr trivial)⟩, by rw [upd_ne ml]; exact el, hlen.1, hlen.2⟩
        · intro i a c' h1 h2
          exact cell_tab (List.all_eq_true.mp e4 c' (List.mem_of_getElem? h2)) (t2.cs i a c' h1 h2) stay
        · show ([p, l] ++ w2.ρ).Nodup
          have nd := t2.nd
          rw [ws_rho n2] at nd
          refine List.nodup_append.mpr ⟨by simp [pl], nd, fun a ha b hb => ?_⟩
          simp at ha
          rcases ha with rfl | rfl
          · exact fun z => p2 (z ▸ hb)
          · exact fun z => l2 (z ▸ hb)
        · exact ⟨p, l, rfl, rfl⟩
/-- a def that is one return, its value as it is -/
theorem fnAt_ret {P : Program} {w : World} {K : PySem.W.Frag} {mg : Str → Option Value} {base : Heap} {k : Nat} {x : Str} {st : Stmt} {f : Addr} {fd : FuncData} {N ps : List Str} {m : Env' → M D} (F : Fun K x x st f fd) (hm : mg x = some (.ref f)) (S : FnScope N ps (defScope st))
    (hb : ∀ (kV doc pm : Value) (an : Option Addr) (cdv ct : Value) (us : List Value), us.length = ps.length → bindArgs (PySem.W.fnOf x x (defArgs st) (defBody st) (defScope st) .none kV doc pm an cdv ct) ⟨us, []⟩ = pure (ps.zip us))
    (body : ∀ (cdv : Value) (A : Around) (out : List Env) (s : Shared) (H : Hp) (E : XK), Room k (A.deeper (envOfC x (defScope st) s.heap.objs.size f cdv)) → A.guards = some [] →
      PSs (cxOf (L2.CX P w) P w K mg base N x (defScope st) f cdv A out s H E) (defBody st) (tRet (tE K xc (wE E) m))) :
    FnAt P w K mg base xc (k + 1) x ps (fun ds => m (startE N.length ds)) := by
  refine ⟨f, fd, hm, F.kp, F.binds hb, ?_⟩
  obtain ⟨oc, od, kV, doc, pm, an, cdv, ct, osl, rfl, lk, hcd⟩ := F.ex
  refine fnG_of lk hcd S (fun vs H Q E z => z.1) fun A out s H vs Q E hr hgd z => ?_
  obtain ⟨_, w0, ds, s0, t0, r0, p0⟩ := z
  refine ⟨_, body cdv A out s H E hr hgd, ?_⟩
  refine ⟨w0, startE N.length ds, s0, rel_start t0 r0, ?_⟩
  show Post K xc (wE E) (L2.start N vs) w0 H Q (m (startE N.length ds) s0)
  have p0 : Post K xc (wE E) [] w0 H Q (m (startE N.length ds) s0) := p0
  cases e : m (startE N.length ds) s0 with
  | ok d s' => rw [e] at p0; exact p0
  | exc c f s' => rw [e] at p0; exact p0
  | stuck => rw [e] at p0; exact p0
end
/-- the first state -/
def begunM : List D → M D
  | [.lst xs] => fun s => match intsOf xs, s.m, s.cs.all tblC with
    | some ns, none, true => if ns.length ≤ 63 then .ok .drw ⟨some ⟨ns, ns.filter (fun n => decide (1000000000000000000 ≤ n)), 0⟩, s.cs⟩ else .stuck
    | _, _, _ => .stuck
  | _ => M.stk
abbrev begL (Γ : Fns) : Env' → M D := evC Γ (.bi .list [.v 0])
abbrev begR (Γ : Fns) : Env' → M D := evC Γ (.lc [1] (.nm 1) (.v 0) (.cmp .ge (.v 1) (.bin .pow (.k (.int 10)) (.k (.int 18)))) (.v 1))
theorem intsOf_eq : ∀ {xs : List D} {ns : List Int}, intsOf xs = some ns → xs = ns.map D.int
  | [], _, e => by cases e; rfl
  | d :: r, ns, e => by
    cases d with
    | int n =>
      have e' : (intsOf r).map (n :: ·) = some ns := e
      cases z : intsOf r with
      | none => rw [z] at e'; cases e'
      | some ms =>
        rw [z] at e'
        cases e'
        rw [intsOf_eq z]
        rfl
    | _ => cases e
theorem beg_comp {Γ : Fns} {xs : List D} {s : SS} : ∀ ns : List Int, compM (turnM (.nm 1) (evC Γ (.cmp .ge (.v 1) (.bin .pow (.k (.int 10)) (.k (.int 18))))) (evC Γ (.v 1)) [some (.lst xs), none]) (ns.map D.int) s = .ok ((ns.filter fun n => decide (1000000000000000000 ≤ n)).map D.int) s
  | [] => rfl
  | n :: ns => by
    have ih := beg_comp (Γ := Γ) (xs := xs) (s := s) ns
    have t : evC Γ (.cmp .ge (.v 1) (.bin .pow (.k (.int 10)) (.k (.int 18)))) [some (.lst xs), some (.int n)] s = .ok (.bl (decide (1000000000000000000 ≤ n))) s := rfl
    have u : turnM (.nm 1) (evC Γ (.cmp .ge (.v 1) (.bin .pow (.k (.int 10)) (.k (.int 18))))) (evC Γ (.v 1)) [some (.lst xs), none] (.int n) s = .ok (if decide (1000000000000000000 ≤ n) = true then some (.int n) else none) s := by
      show iteM (evC Γ (.cmp .ge (.v 1) (.bin .pow (.k (.int 10)) (.k (.int 18)))) [some (.lst xs), some (.int n)]) _ _ s = _
      unfold iteM
      rw [bnd_ok t]
      cases decide (1000000000000000000 ≤ n) <;> rfl
    show (turnM _ _ _ _ _ >>= fun o => compM _ (ns.map D.int) >>= fun r => M.ret (match o with | some y => y :: r | none => r)) s = _
    rw [bnd_ok u, bnd_ok ih, List.filter_cons]
    cases decide (1000000000000000000 ≤ n) <;> rfl
theorem beg_eq (Γ : Fns) (ds : List D) (s : SS) : begunM ds s = .stuck ∨ begunM ds s = begE (begL Γ) (begR Γ) (startE 2 ds) s := by
  unfold begunM
  split
  case h_2 => exact .inl rfl
  rename_i xs
  split
  case h_2 => exact .inl rfl
  rename_i ns e1 e2 e3
  split
  case isFalse => exact .inl rfl
  rename_i hl
  right
  have ex := intsOf_eq e1
  subst ex
  obtain ⟨sm, sc⟩ := s
  cases e2
  have e3 : sc.all tblC = true := e3
  have f1 : begL Γ (startE 2 [.lst (ns.map D.int)]) ⟨none, sc⟩ = .ok (.lst (ns.map D.int)) ⟨none, sc⟩ := rfl
  have f2 : begR Γ (startE 2 [.lst (ns.map D.int)]) ⟨none, sc⟩ = .ok (.lst ((ns.filter fun n => decide (1000000000000000000 ≤ n)).map D.int)) ⟨none, sc⟩ := by
    show lcM [1] (.nm 1) (evI Γ (.v 0) _) _ _ _ _ = _
    unfold lcM
    have it : evI Γ (.v 0) (startE 2 [.lst (ns.map D.int)]) ⟨none, sc⟩ = .ok (ns.map D.int) ⟨none, sc⟩ := rfl
    rw [bnd_ok it]
    have c : M.calm (compM (turnM (.nm 1) (evC Γ (.cmp .ge (.v 1) (.bin .pow (.k (.int 10)) (.k (.int 18))))) (evC Γ (.v 1)) [some (.lst (ns.map D.int)), none]) (ns.map D.int)) ⟨none, sc⟩ = .ok ((ns.filter fun n => decide (1000000000000000000 ≤ n)).map D.int) ⟨none, sc⟩ := by
      unfold M.calm
      rw [beg_comp]
    refine (bnd_ok (f := fun r : List D => if r.length ≤ LIM then M.ret (D.lst r) else M.stk) c).trans ?_
    rw [if_pos]
    · rfl
    · rw [List.length_map]
      exact Nat.le_trans (List.length_filter_le _ _) (Nat.le_trans hl (by decide))
  unfold begE
  rw [bnd_ok f1, bnd_ok f2]
  unfold begD
  dsimp only
  rw [e3]
  dsimp only
  rw [intsOf_map, intsOf_map]
  dsimp only
  rw [decide_eq_true hl, decide_eq_true (Nat.le_trans (List.length_filter_le _ _) hl)]
  rfl
end PI

set_option maxHeartbeats 1000000
/-! PI, part u: what the top has left, gathered. -/
namespace PI
open PySem L2 PyProof.Rows
def fldX : Nat → Str
  | 0 => "value"
  | 1 => "value"
  | 2 => "value"
  | 3 => "place"
  | 4 => "place"
  | 5 => "value"
  | 6 => "value"
  | 7 => "value"
  | 8 => "number"
  | 9 => "value"
  | 10 => "place"
  | 11 => "line"
  | 12 => "tree"
  | _ => "most"
structure DefAt (K : PySem.W.Frag) (mg : Str → Option Value) (x : Str) (st : Stmt) : Prop where
  ex : ∃ f fd, Fun K x x st f fd ∧ mg x = some (.ref f)
theorem def_mk {K : PySem.W.Frag} {h : Heap} {mg : Str → Option Value} {x : Str} {st : Stmt} {f : Addr} {oc : Value} {od an : Option Addr} {osl : Array (Option Value)} {kV doc pm cdv ct : Value} (X : K.In h) (G : h.Ns mainGlobals mg)
    (a : PySem.W.nsIn K mainGlobals x = some (some (.ref f))) (l : K.lookup f = some ⟨oc, od, .func (PySem.W.fnOf x x (defArgs st) (defBody st) (defScope st) .none kV doc pm an cdv ct), osl⟩) (c : PySem.W.codeIn K cdv x = true) (k : PySem.W.keepIn K (.ref f) = true) : DefAt K mg x st :=
  ⟨f, _, fun_mk l c k, PySem.W.mg_of X G a⟩
theorem gv_mk {K : PySem.W.Frag} {h : Heap} {mg : Str → Option Value} {x : Str} {v : V} {u : Value} (X : K.In h) (G : h.Ns mainGlobals mg) (a : PySem.W.nsIn K mainGlobals x = some (some u)) (r : RelV v u) : GV mg x v := ⟨u, PySem.W.mg_of X G a, r⟩
/-- an error of the class at S is, or is not, what «except S'» names -/
theorem exm_mk {K : PySem.W.Frag} {S' S : Addr} {b : Bool} (h1 : PySem.W.subIn K (.ref S) (.type "BaseException") = some true) (h2 : PySem.W.isClsIn K S = true) (h3 : PySem.W.typeIn K (.ref S) = some (.type "type")) (h4 : PySem.W.subIn K (.ref S') (.ref S) = some b) :
    PySem.W.exmOne K (.ref S') (.ref S) = some b := by
  have e1 : (PySem.W.subIn K (.ref S) (.type "BaseException") == some true) = true := by rw [h1] <;> rfl
  have e2 : ((PySem.W.clsIn K S).isSome && PySem.W.typeIn K (.ref S) == some (.type "type")) = true := by
    have h2' : (PySem.W.clsIn K S).isSome = true := h2
    rw [h2', h3] <;> rfl
  show (if (PySem.W.subIn K (.ref S) (.type "BaseException") == some true) = true then (if ((PySem.W.clsIn K S).isSome && PySem.W.typeIn K (.ref S) == some (.type "type")) = true then PySem.W.subIn K (.ref S') (.ref S) else none) else none) = some b
  rw [if_pos e1, if_pos e2]
  exact h4
abbrev initB (msg f pn : Str) (j : Nat) (p0 p1 p2 p3 p4 p5 p6 p7 p8 p9 : Pos) : List Stmt :=
  [.Expr (.Call (.Attribute (.Call (.Name "super" p0) [] [] p1) "__init__" p2) [.Constant (.str msg) j p3] [] p4) p5,
   .Assign [.Attribute (.Name "self" p6) f p7] (.Name pn p8) p9]
/-- the facts about an own exception's class that lies at C -/
structure ExcTxt (P : Program) (K : PySem.W.Frag) (mg : Str → Option Value) (x f : Str) (C : Addr) : Prop where
  sup : SupC P K C f
  at_ : mg x = some (.ref C)
  xf : XfC K C
  isc : PySem.W.isClsIn K C = true
theorem exc_mk {P : Program} {K : PySem.W.Frag} {h : Heap} {mg : Str → Option Value} {x f : Str} {C : Addr} (X : K.In h) (G : h.Ns mainGlobals mg)
    {nm q : Str} {N : Addr} {bs bm : List Value} {sn : List Str} {sub : List Value} {ab : Bool} {col : Option Bool} {dd : Option Addr} {m0 m1 m2 m3 m5 : Option Value}
    {fI cc cda : Addr} {qual msg pn file : Str} {params : Arguments} {j : Nat} {p0 p1 p2 p3 p4 p5 p6 p7 p8 p9 : Pos} {scope : Scope} {kV doc pm ct oc ccl cl : Value} {an od cdd cld : Option Addr} {osl ccs csl : Array (Option Value)} {vs : Array Value} {tf : Tok} {ar : Arg}
    (aC : PySem.W.nsIn K mainGlobals x = some (some (.ref C)))
    (xL : K.lookup C = some (excClassObj nm q C N bs bm true sn sub ab col dd m0 m1 m2 m3 m5 "ValueError.__new__"))
    (a1 : PySem.W.findIn K (.ref C) "__init__" = some (some (.ref fI)))
    (l1 : K.lookup fI = some ⟨oc, od, .func (PySem.W.ksFn "__init__" qual params (initB msg f pn j p0 p1 p2 p3 p4 p5 p6 p7 p8 p9) scope .none kV doc pm an (.ref cda) ct cc), osl⟩)
    (l2 : K.lookup cda = some ⟨ccl, cdd, .fields vs, ccs⟩)
    (l3 : K.lookup cc = some ⟨cl, cld, .cell (some (.ref C)), csl⟩)
    (t1 : PySem.W.typeIn K (.ref fI) = some (.type "function")) (c1 : PySem.W.codeIn K (.ref cda) qual = true)
    (sa : PySem.W.findIn K (.ref C) "__setattr__" = some (some (.builtin "object.__setattr__"))) (ga : PySem.W.findIn K (.ref C) "__getattribute__" = some (some (.builtin "BaseException.__getattribute__"))) (gg : PySem.W.findIn K (.ref C) "__getattr__" = some none) (nb : PySem.W.findIn K (.ref C) f = some none)
    (kC : PySem.W.keepIn K (.ref C) = true) (eC : PySem.W.subIn K (.ref C) (.type "BaseException") = some true) (tC : PySem.W.typeIn K (.ref C) = some (.type "type")) (hC : PySem.W.hasDictIn K C = true) (iC : PySem.W.isClsIn K C = true)
    (ve : PySem.W.subIn K (.ref C) (.type "ValueError") = some true) (mr : PySem.W.mroIn K C (.ref C) = some true) (oq : PySem.W.nsIn K cStatics "thirdparty.any" = some none)
    (su : PySem.W.ks_superIn K C C "__init__" = some (some (.builtin "ValueError.__init__")))
    (rv : PySem.HandSPX.refsVE bm = true) (e6 : vs[2]? = some (.str file tf)) (e7 : ((P.main.file : Str) == file) = true) (tp : (P.main.scope.names.lookup ("super" : Str)).isSome = false)
    (e9 : (params.posonlyargs ++ params.args).head? = some ar) (e10 : ar.arg = ("self" : Str))
    (e11 : ∀ a u : Value, bindArgs (PySem.W.ksFn "__init__" qual params (initB msg f pn j p0 p1 p2 p3 p4 p5 p6 p7 p8 p9) scope .none kV doc pm an (.ref cda) ct cc) ⟨[a, u], []⟩ = pure [(("self" : Str), a), (pn, u)])
    (e12 : scope.names.lookup ("super" : Str) = some .globalImplicit) (e13 : scope.names.lookup ("__class__" : Str) = some .free) (e14 : scope.names.lookup ("self" : Str) = some .local) (e15 : scope.names.lookup pn = some .local)
    (e16 : (scope.names.all fun x => decide (x.2 ≠ .cell)) = true) (e17 : scope.kind = .function) (e18 : scope.isCoroutine = false) (e19 : scope.isGenerator = false) (e20 : (pn == ("self" : Str)) = false) (e21 : (pn == ("__debug__" : Str)) = false) (e22 : (p2.endLine == p4.line) = true) : ExcTxt P K mg x f C :=
  { sup := { T := ⟨⟨nm, q, N, bs, bm, sn, sub, ab, col, dd, m0, m1, m2, m3, m5, xL, rv⟩, sa, eC, tC, kC⟩,
             ini := ⟨fI, cc, cda, qual, params, msg, pn, j, fun i => match i with | 0 => p0 | 1 => p1 | 2 => p2 | 3 => p3 | 4 => p4 | 5 => p5 | 6 => p6 | 7 => p7 | 8 => p8 | _ => p9, scope, kV, doc, pm, ct, oc, an, od, osl, vs, file, tf, ccl, cl, cdd, cld, ccs, csl, ar,
               a1, t1, l1, c1, l2, e6, e7, l3, e9, e10, e11, e12, e13, e14, e15, (fun x hx => of_decide_eq_true (List.all_eq_true.mp e16 x hx)), e17, e18, e19, beq_eq_false_iff_ne.mp e20, e21, e22⟩,
             sup := su, ve := ve, opq := oq, sub := mr, fld := nb, top := tp },
    at_ := PySem.W.mg_of X G aC, xf := ⟨ga, gg, eC, hC⟩, isc := iC }
/-- nothing is promised -/
theorem fnAt_stk {P : Program} {w : World} {K : PySem.W.Frag} {mg : Str → Option Value} {base : Heap} {xc : XC} {k : Nat} {x : Str} {st : Stmt} {ps : List Str} (Fx : DefAt K mg x st)
    (hb : ∀ (kV doc pm : Value) (an : Option Addr) (cdv ct : Value) (us : List Value), us.length = ps.length → bindArgs (PySem.W.fnOf x x (defArgs st) (defBody st) (defScope st) .none kV doc pm an cdv ct) ⟨us, []⟩ = pure (ps.zip us)) :
    FnAt P w K mg base xc k x ps (fun _ => M.stk) := by
  obtain ⟨f, fd, F, hm⟩ := Fx.ex
  exact ⟨f, fd, hm, F.kp, F.binds hb, fun vs H Q E z => z.1, fun A out s H args us vs Q E _ _ _ _ _ z => by
    obtain ⟨_, _, _, _, _, _, p⟩ := z
    exact p.elim⟩
/-- a def by its body, one level up -/
theorem fnAt_body {P : Program} {w : World} {K : PySem.W.Frag} {mg : Str → Option Value} {base : Heap} {xc : XC} {k : Nat} {x : Str} {st : Stmt} {N ps : List Str} {b : SM} (Fx : DefAt K mg x st) (S : FnScope N ps (defScope st))
    (hb : ∀ (kV doc pm : Value) (an : Option Addr) (cdv ct : Value) (us : List Value), us.length = ps.length → bindArgs (PySem.W.fnOf x x (defArgs st) (defBody st) (defScope st) .none kV doc pm an cdv ct) ⟨us, []⟩ = pure (ps.zip us))
    (body : ∀ (f : Addr) (cdv : Value) (A : Around) (out : List Env) (s : Shared) (H : Hp) (E : XK), Okx (cxOf (L2.CX P w) P w K mg base N x (defScope st) f cdv A out s H E) k →
      Takes (cxOf (L2.CX P w) P w K mg base N x (defScope st) f cdv A out s H E) (wE E) → PassesOwn (model P w) (cxOf (L2.CX P w) P w K mg base N x (defScope st) f cdv A out s H E).A (cxOf (L2.CX P w) P w K mg base N x (defScope st) f cdv A out s H E).env (cxOf (L2.CX P w) P w K mg base N x (defScope st) f cdv A out s H E).xe →
      PSs (cxOf (L2.CX P w) P w K mg base N x (defScope st) f cdv A out s H E) (defBody st) (tS K xc (wE E) b)) :
    FnAt P w K mg base xc (k + 2) x ps (fnM N.length b) := by
  obtain ⟨f, fd, F, hm⟩ := Fx.ex
  exact fnAt_of F hm S hb fun cdv A out s H E hr hg tk hp => body f cdv A out s H E ⟨hr, hg, rfl, S.nd⟩ tk hp
theorem fnAt_ret' {P : Program} {w : World} {K : PySem.W.Frag} {mg : Str → Option Value} {base : Heap} {xc : XC} {k : Nat} {x : Str} {st : Stmt} {N ps : List Str} {m : Env' → M D} (Fx : DefAt K mg x st) (S : FnScope N ps (defScope st))
    (hb : ∀ (kV doc pm : Value) (an : Option Addr) (cdv ct : Value) (us : List Value), us.length = ps.length → bindArgs (PySem.W.fnOf x x (defArgs st) (defBody st) (defScope st) .none kV doc pm an cdv ct) ⟨us, []⟩ = pure (ps.zip us))
    (body : ∀ (f : Addr) (cdv : Value) (A : Around) (out : List Env) (s : Shared) (H : Hp) (E : XK), Okx (cxOf (L2.CX P w) P w K mg base N x (defScope st) f cdv A out s H E) k →
      PSs (cxOf (L2.CX P w) P w K mg base N x (defScope st) f cdv A out s H E) (defBody st) (tRet (tE K xc (wE E) m))) :
    FnAt P w K mg base xc (k + 2) x ps (fun ds => m (startE N.length ds)) := by
  obtain ⟨f, fd, F, hm⟩ := Fx.ex
  exact fnAt_ret F hm S hb fun cdv A out s H E hr hg => body f cdv A out s H E ⟨hr, hg, rfl, S.nd⟩
/-- what the law's own promise wants -/
theorem law_mk {P : Program} {w : World} {K : PySem.W.Frag} {mg : Str → Option Value} {fa : Addr} {k : Nat} {x p : Str} {xc : XC} {m : List D → M D} (hmg : mg x = some (.ref fa))
    (hfd : ∃ fd : FuncData, Binds K fd [p] [] ∧ ∀ base : Heap, FnG P w K mg base (L2.CX P w) k fa fd [p] (spM xc K 1 m)) :
    ∃ (fd : FuncData) (xc : XC), (∀ (s : Shared) (u : Value), K.In s.heap → BindsTo s fd ⟨[u], []⟩ [(p, u)]) ∧ ∀ base : Heap, K.In base → base.Ns mainGlobals mg → FnG P w K mg base (L2.CX P w) k fa fd [p] (spM xc K 1 m) := by
  obtain ⟨fd, hb, F⟩ := hfd
  refine ⟨fd, xc, fun s u hk => ?_, fun base _ _ => F base⟩
  have := hb s [u] hk rfl
  exact this
/-- the promise, the def's record in view -/
theorem fnG_body {P : Program} {w : World} {K : PySem.W.Frag} {mg : Str → Option Value} {xc : XC} {k : Nat} {x : Str} {st : Stmt} {N ps : List Str} {b : SM} {fa : Addr} (hmg : mg x = some (.ref fa)) (Fx : DefAt K mg x st) (S : FnScope N ps (defScope st))
    (hb : ∀ (kV doc pm : Value) (an : Option Addr) (cdv ct : Value) (us : List Value), us.length = ps.length → bindArgs (PySem.W.fnOf x x (defArgs st) (defBody st) (defScope st) .none kV doc pm an cdv ct) ⟨us, []⟩ = pure (ps.zip us))
    (body : ∀ (base : Heap) (f : Addr) (cdv : Value) (A : Around) (out : List Env) (s : Shared) (H : Hp) (E : XK), Okx (cxOf (L2.CX P w) P w K mg base N x (defScope st) f cdv A out s H E) k →
      Takes (cxOf (L2.CX P w) P w K mg base N x (defScope st) f cdv A out s H E) (wE E) → PassesOwn (model P w) (cxOf (L2.CX P w) P w K mg base N x (defScope st) f cdv A out s H E).A (cxOf (L2.CX P w) P w K mg base N x (defScope st) f cdv A out s H E).env (cxOf (L2.CX P w) P w K mg base N x (defScope st) f cdv A out s H E).xe →
      PSs (cxOf (L2.CX P w) P w K mg base N x (defScope st) f cdv A out s H E) (defBody st) (tS K xc (wE E) b)) :
    ∃ fd : FuncData, Binds K fd ps [] ∧ ∀ base : Heap, FnG P w K mg base (L2.CX P w) (k + 2) fa fd ps (spM xc K ps.length (fnM N.length b)) := by
  obtain ⟨f, fd, F, hm⟩ := Fx.ex
  rw [hmg] at hm
  cases hm
  refine ⟨fd, F.binds hb, fun base => ?_⟩
  obtain ⟨oc, od, kV, doc, pm, an, cdv, ct, osl, rfl, lk, hcd⟩ := F.ex
  refine fnG_of lk hcd S (fun vs H Q E z => z.1) fun A out s H vs Q E hr hgd z => ?_
  obtain ⟨_, w0, ds, s0, t0, r0, p0⟩ := z
  refine ⟨_, body base fa cdv A out s H E ⟨hr, hgd, rfl, S.nd⟩ (takes_of rfl rfl rfl rfl) (passes_of rfl), ?_⟩
  exact ⟨w0, startE N.length ds, s0, rel_start t0 r0, fn_post t0 p0⟩
/-! ### classes -/
structure ClsAt (K : PySem.W.Frag) (mg : Str → Option Value) (x : Str) (fn : List Str) (C : Addr) : Prop where
  glob : mg x = some (.ref C)
  keep : PySem.W.keepIn K (.ref C) = true
  makes : PySem.W.makesIn K C = true
  cls : ObjCls K C fn
theorem cls_mk {K : PySem.W.Frag} {h : Heap} {mg : Str → Option Value} {x : Str} {fn : List Str} {C : Addr} (X : K.In h) (G : h.Ns mainGlobals mg) (aC : PySem.W.nsIn K mainGlobals x = some (some (.ref C))) (kC : PySem.W.keepIn K (.ref C) = true) (mk : PySem.W.makesIn K C = true)
    (pg : PySem.W.plainGet K C Str.empty = true) (hd : PySem.W.hasDictIn K C = true) (po : PySem.W.plainOver K C = true) (sa : PySem.W.findIn K (.ref C) "__setattr__" = some (some (.builtin "object.__setattr__"))) (na : ∀ f ∈ fn, PySem.W.findIn K (.ref C) f = some none) : ClsAt K mg x fn C :=
  ⟨PySem.W.mg_of X G aC, kC, mk, ⟨pg, hd, po, sa⟩, na⟩
structure MethDef (K : PySem.W.Frag) (C : Addr) (m q : Str) (st : Stmt) : Prop where
  ex : ∃ f fd, Fun K m q st f fd ∧ PySem.W.findIn K (.ref C) m = some (some (.ref f)) ∧ PySem.W.isFn K (.ref f) = true
theorem meth_mk {K : PySem.W.Frag} {C : Addr} {m q : Str} {st : Stmt} {f : Addr} {oc : Value} {od an : Option Addr} {osl : Array (Option Value)} {kV doc pm cdv ct : Value} (a : PySem.W.findIn K (.ref C) m = some (some (.ref f))) (i : PySem.W.isFn K (.ref f) = true)
    (l : K.lookup f = some ⟨oc, od, .func (PySem.W.fnOf m q (defArgs st) (defBody st) (defScope st) .none kV doc pm an cdv ct), osl⟩) (c : PySem.W.codeIn K cdv q = true) (k : PySem.W.keepIn K (.ref f) = true) : MethDef K C m q st := ⟨f, _, fun_mk l c k, a, i⟩
abbrev BndA (m q : Str) (st : Stmt) (ps : List Str) : Prop := ∀ (kV doc pm : Value) (an : Option Addr) (cdv ct : Value) (us : List Value), us.length = ps.length → bindArgs (PySem.W.fnOf m q (defArgs st) (defBody st) (defScope st) .none kV doc pm an cdv ct) ⟨us, []⟩ = pure (ps.zip us)
abbrev BodyA (P : Program) (w : World) (K : PySem.W.Frag) (mg : Str → Option Value) (base : Heap) (xc : XC) (k : Nat) (N : List Str) (q : Str) (st : Stmt) (b : SM) : Prop :=
  ∀ (f : Addr) (cdv : Value) (A : Around) (out : List Env) (s : Shared) (H : Hp) (E : XK), Okx (cxOf (L2.CX P w) P w K mg base N q (defScope st) f cdv A out s H E) k →
      Takes (cxOf (L2.CX P w) P w K mg base N q (defScope st) f cdv A out s H E) (wE E) → PassesOwn (model P w) (cxOf (L2.CX P w) P w K mg base N q (defScope st) f cdv A out s H E).A (cxOf (L2.CX P w) P w K mg base N q (defScope st) f cdv A out s H E).env (cxOf (L2.CX P w) P w K mg base N q (defScope st) f cdv A out s H E).xe →
      PSs (cxOf (L2.CX P w) P w K mg base N q (defScope st) f cdv A out s H E) (defBody st) (tS K xc (wE E) b)
theorem mtG_body {P : Program} {w : World} {K : PySem.W.Frag} {mg : Str → Option Value} {base : Heap} {xc : XC} {k : Nat} {x : Str} {fn : List Str} {C : Addr} {m q : Str} {st : Stmt} {N ps : List Str} {b : SM} (Cx : ClsAt K mg x fn C) (Fx : MethDef K C m q st) (S : FnScope N ("self" :: ps) (defScope st)) (hb : BndA m q st ("self" :: ps))
    (body : BodyA P w K mg base xc k N q st b) : MtG P w K mg base xc (k + 2) m ps (methM C m (fnM N.length b)) := by
  obtain ⟨f, fd, F, ha, hi⟩ := Fx.ex
  refine ⟨C, _, rfl, ⟨f, fd, ⟨ha, hi, F.kp⟩, F.binds hb, ?_⟩, Cx.cls.cls⟩
  obtain ⟨oc, od, kV, doc, pm, an, cdv, ct, osl, rfl, lk, hcd⟩ := F.ex
  refine fnG_of lk hcd S (fun vs H Q E z => z.1) fun A out s H vs Q E hr hgd z => ?_
  obtain ⟨_, w0, ds, s0, t0, r0, p0⟩ := z
  refine ⟨_, body f cdv A out s H E ⟨hr, hgd, rfl, S.nd⟩ (takes_of rfl rfl rfl rfl) (passes_of rfl), ?_⟩
  exact ⟨w0, startE N.length ds, s0, rel_start t0 r0, fn_post t0 p0⟩
theorem mkG_body {P : Program} {w : World} {K : PySem.W.Frag} {mg : Str → Option Value} {base : Heap} {xc : XC} {k : Nat} {x : Str} {fn : List Str} {C : Addr} {q : Str} {st : Stmt} {N ps : List Str} {b : SM} (Cx : ClsAt K mg x fn C) (Fx : MethDef K C "__init__" q st) (S : FnScope N ("self" :: ps) (defScope st)) (hb : BndA "__init__" q st ("self" :: ps))
    (body : BodyA P w K mg base xc k N q st b) : MkG P w K mg base xc (k + 2) x ps (mkM C fn N.length b) := by
  obtain ⟨f, fd, F, ha, hi⟩ := Fx.ex
  refine ⟨C, fn, N.length, b, rfl, Cx.glob, Cx.keep, Cx.cls, f, fd, ⟨Cx.makes, ha, hi, Cx.keep⟩, F.binds hb, ?_⟩
  obtain ⟨oc, od, kV, doc, pm, an, cdv, ct, osl, rfl, lk, hcd⟩ := F.ex
  refine fnG_of lk hcd S (fun vs H Q E z => z.1) fun A out s H vs Q E hr hgd z => ?_
  obtain ⟨_, w0, ds, s0, t0, r0, p0⟩ := z
  refine ⟨_, body f cdv A out s H E ⟨hr, hgd, rfl, S.nd⟩ (takes_of rfl rfl rfl rfl) (passes_of rfl), ?_⟩
  exact ⟨w0, startE N.length ds, s0, rel_start t0 r0, p0⟩
theorem mtG_stk {P : Program} {w : World} {K : PySem.W.Frag} {mg : Str → Option Value} {base : Heap} {xc : XC} {k : Nat} {x : Str} {fn : List Str} {C : Addr} {m q : Str} {st : Stmt} {ps : List Str} (Cx : ClsAt K mg x fn C) (Fx : MethDef K C m q st) (hb : BndA m q st ("self" :: ps)) : MtG P w K mg base xc k m ps (methM C m fun _ => M.stk) := by
  obtain ⟨f, fd, F, ha, hi⟩ := Fx.ex
  exact ⟨C, _, rfl, ⟨f, fd, ⟨ha, hi, F.kp⟩, F.binds hb, fun vs H Q E z => z.1, fun A out s H args us vs Q E _ _ _ _ _ z => by
    obtain ⟨_, _, _, _, _, _, p⟩ := z
    exact p.elim⟩, Cx.cls.cls⟩
theorem mkG_stk {P : Program} {w : World} {K : PySem.W.Frag} {mg : Str → Option Value} {base : Heap} {xc : XC} {k : Nat} {x : Str} {fn : List Str} {C : Addr} {q : Str} {st : Stmt} {ps : List Str} (Cx : ClsAt K mg x fn C) (Fx : MethDef K C "__init__" q st) (hb : BndA "__init__" q st ("self" :: ps)) : MkG P w K mg base xc k x ps (mkM C fn 0 fun _ _ => .stuck) := by
  obtain ⟨f, fd, F, ha, hi⟩ := Fx.ex
  exact ⟨C, fn, 0, _, rfl, Cx.glob, Cx.keep, Cx.cls, f, fd, ⟨Cx.makes, ha, hi, Cx.keep⟩, F.binds hb, fun vs H Q E z => z.1, fun A out s H args us vs Q E _ _ _ _ _ z => by
    obtain ⟨_, _, _, _, _, _, p⟩ := z
    exact p.elim⟩
theorem MtG.up {P : Program} {w : World} {K : PySem.W.Frag} {mg : Str → Option Value} {base : Heap} {xc : XC} {j k : Nat} {m : Str} {ps : List Str} {g : List D → M D} (F : MtG P w K mg base xc j m ps g) (h : j ≤ k) : MtG P w K mg base xc k m ps g := by
  obtain ⟨C, mm, e, ⟨f, fd, h1, h2, h3⟩, c⟩ := F
  exact ⟨C, mm, e, ⟨f, fd, h1, h2, h3.up h⟩, c⟩
theorem MkG.up {P : Program} {w : World} {K : PySem.W.Frag} {mg : Str → Option Value} {base : Heap} {xc : XC} {j k : Nat} {x : Str} {ps : List Str} {g : List D → M D} (F : MkG P w K mg base xc j x ps g) (h : j ≤ k) : MkG P w K mg base xc k x ps g := by
  obtain ⟨C, fn, N, b, e, F⟩ := F
  obtain ⟨f, fd, h1, h2, h3⟩ := F.init
  exact ⟨C, fn, N, b, e, F.glob, F.keep, F.cls, f, fd, h1, h2, h3.up h⟩
def clsB : Stmt → List Stmt
  | .ClassDef (body := b) .. => b
  | _ => []
theorem law_mk2 {P : Program} {w : World} {K : PySem.W.Frag} {mg : Str → Option Value} {fa : Addr} {k n : Nat} {x p : Str} {xc : XC} {m : List D → M D} (hm : ∀ ns : List Int, ns.length ≤ n → ∃ s', m [.lst (ns.map D.int)] ⟨none, []⟩ = .ok (.bl true) s') (hmg : mg x = some (.ref fa))
    (hfd : ∃ fd : FuncData, Binds K fd [p] [] ∧ ∀ base : Heap, FnG P w K mg base (L2.CX P w) k fa fd [p] (spM xc K 1 m)) :
    ∃ (fd : FuncData) (xc : XC) (m : List D → M D), (∀ (s : Shared) (u : Value), K.In s.heap → BindsTo s fd ⟨[u], []⟩ [(p, u)]) ∧ (∀ base : Heap, K.In base → base.Ns mainGlobals mg → FnG P w K mg base (L2.CX P w) k fa fd [p] (spM xc K 1 m)) ∧ ∀ ns : List Int, ns.length ≤ n → ∃ s', m [.lst (ns.map D.int)] ⟨none, []⟩ = .ok (.bl true) s' := by
  obtain ⟨fd, hb, F⟩ := hfd
  refine ⟨fd, xc, m, fun s u hk => ?_, fun base _ _ => F base, hm⟩
  have := hb s [u] hk rfl
  exact this
end PI

set_option maxHeartbeats 1000000
/-! PI, part eq: isinstance with an own class; == and != of two instances by their own __eq__. -/
namespace PI
open PySem L2 PyProof.Rows
/-! ### isinstance(x, C) -/
def isoM (C : Addr) : List D → M D
  | [.obj c _ _] => if c = C then M.ret (.bl true) else M.stk
  | _ => M.stk
/-- what isinstance asks of the class -/
structure IsoC (K : PySem.W.Frag) (C : Addr) : Prop where
  cl : Cls K C
  ha : PySem.W.findIn K (.ref C) "__class__" = some (some (.builtin "object.__class__"))
  hn : PySem.W.specialIn K (.builtin "object.__class__") "__get__" = some (some (.builtin "getset_descriptor.__get__"))
  htk : PySem.W.takesIn K (.builtin "object.__class__") = some true
  hm : PySem.W.mroIn K C (.type "object") = some true
section
variable {X : Cx} {xc : XC} {W : WX}
theorem pd_iso {a : Expr} {x : Str} {p p2 pos : Pos} {m : Env' → M D} {C : Addr} (hg : Gl X "isinstance") (hm : X.mg "isinstance" = none) (hgx : Gl X x) (hx : X.mg x = some (.ref C)) (ic : IsoC X.K C) (ha : PE X a (tE X.K xc W m))
    (he : starEach [a, .Name x p2] X.env = (false, eval a X.env) :: starEach [.Name x p2] X.env) (he2 : starEach [.Name x p2] X.env = [(false, eval (.Name x p2) X.env)]) (hd : (x == ("__debug__" : Str)) = false) :
    PE X (.Call (.Name "isinstance" p) [a, .Name x p2] [] pos) (tE X.K xc W fun env => consN (m env) (M.ret []) >>= isoM C) := by
  have hp : (backTo pos (starEach [.Name x p2] X.env)).any (·.1) = false := by rw [he2]; rfl
  refine pimp (pe_callB call_isi hg hm (by decide +kernel) (pa_cons ha (pa_cons (pe_glob (v := .ref C) hgx hx rfl hd) pa_nil he2) he) (by decide) (by decide) he hp) fun σ H Q h => ?_
  obtain ⟨w, env, s, rel, q⟩ := h
  have q' : Post X.K xc W σ w H Q ((m env >>= fun d => isoM C [d]) s) := by
    have e : ((consN (m env) (M.ret []) >>= isoM C) : M D) = (m env >>= fun d => isoM C [d]) := by
      funext z
      show M.bnd (M.bnd (m env) fun x => M.bnd (M.ret []) fun r => M.ret (x :: r)) (isoM C) z = M.bnd (m env) (fun d => isoM C [d]) z
      unfold M.bnd
      cases m env z <;> rfl
    rw [← e]; exact q
  refine (tE_of rel q').imp2 fun v H1 ⟨w1, d, s1, g, rel1, r, p1⟩ => ?_
  cases d with
  | obj c fn fv =>
    have p2 : Post X.K xc W σ w1 H1 Q ((if c = C then M.ret (.bl true) else M.stk) s1) := p1
    clear p1
    by_cases hc : c = C
    · rw [if_pos hc] at p2
      subst hc
      have r : Rep X.K H1 v (.obj c fn fv) := r
      cases r with
      | obj ea hl cl en rs =>
        exact ⟨_, .ref c, .ref c, .ref c, true, rfl, .own c, .base (.ins ea ic.cl ic.ha ic.hn ic.htk ic.hm), (by unfold PySem.W.kitOne; simp), Post.new p2 rel1.st _ _ (Same.refl _) (.bl _)⟩
    · rw [if_neg hc] at p2; exact p2.elim
  | _ => exact p1.elim
end
/-! ### x != y by x's own __eq__ -/
section
variable {M : Model} {prog : Program} {w : World} {A : Around} {E : Value → Shared → Prop} {s : Shared} {K : PySem.W.Frag} {x y C f : Addr} {ox oy : Obj} {od od' : Option Obj}
theorem ifBound_ne {args : List Value} {Q : Option Value → Shared → Prop} (Xk : K.In s.heap) (I : PySem.W.InstAt s.heap x ox C od) (hs : PySem.W.findIn K (.ref C) "__ne__" = some (some (.builtin "object.__ne__")))
    (h : wpAny M A (call (.builtin "object.__ne__") (.ref x :: args)) (fun v => Q (some v)) E s) : wpAny M A (callSpecialIfBound? (.ref x) "__ne__" args) Q E s := by
  simp only [bindSpecialIfBound?, callSpecialIfBound?]
  refine wpAny_holding (wpAny_bind (wpAny_bind (wpAny_bind (I.type.here ((PySem.W.looks_findIn Xk hs).here (wpAny_bind (wpAny_askSetting (wpAny_ite ?_))))))))
  have go : wpAny M A (call (.builtin "object.__ne__") ([.ref x] ++ args) >>= fun v => pure (some v)) Q E s := wpAny_bind (wpAny_mono h (fun v s' z => wpAny_pure z) fun _ _ z => z)
  split
  · exact wpAny_bind (wpAny_of_eq (F.cmp_object.ne.bind _) (wpAny_pure (by exact go)))
  · exact wpAny_tryCatch (wpAny_bind (wpAny_of_eq (F.cmp_object.ne.bind _) (wpAny_pure (by exact go))))
theorem entry_ne {b : Value} {Q : Fin → Shared → Prop} (Xk : K.In s.heap) (I : PySem.W.InstAt s.heap x ox C od) (he : PySem.W.findIn K (.ref C) "__eq__" = some (some (.ref f))) (hf : PySem.W.isFn K (.ref f) = true) (hu : A.units < cLine)
    (hc : wpAny (model prog w) A (call (.ref f) [.ref x, .ref y]) (fun v s' => ∃ b, v = .bool b ∧ Q (.done (.ret (.bool (!b)))) s') E s) :
    wpAny (model prog w) A (Builtin.«object.__ne__» ⟨[.ref x, .ref y], []⟩) Q E s := by
  unfold Builtin.«object.__ne__»
  have step : ∀ r s', (∃ b, r = Value.bool b ∧ Q (.done (.ret (.bool (!b)))) s') → ∃ b, r = Value.bool b ∧ Q (.done (.ret (.bool (!b)))) s' := fun _ _ z => z
  repeat (first | with_reducible refine wpAny_cRoomFor hu ?_ | (refine wpAny_bind (m := callSpecialIfBound? (.ref x) (Str.ofString "__eq__") [.ref y]) (PySem.W.ifBound_K Xk I he hf (wpAny_mono hc (fun r s' hr => by
      obtain ⟨b, rfl, hq⟩ := step r s' hr
      repeat (first | exact hq | exact wpAny_truthy_bool hq | exact wpAny_pure hq | (refine wpAny_bind (m := truthy (.bool b)) (wpAny_truthy_bool ?_)) | wp_step)) fun _ _ e => e))) | wp_step)
theorem call_ne {Q : Value → Shared → Prop} (Xk : K.In s.heap) (I : PySem.W.InstAt s.heap x ox C od) (hm : PySem.W.mroIn K C (.type "object") = some true) (he : PySem.W.findIn K (.ref C) "__eq__" = some (some (.ref f))) (hf : PySem.W.isFn K (.ref f) = true) (hu : A.units + 1 < cLine)
    (hc : wpAny (model prog w) A.in1 (call (.ref f) [.ref x, .ref y]) (fun v s' => ∃ b, v = .bool b ∧ Q (.bool (!b)) s') E s) :
    wpAny (model prog w) A (call (.builtin "object.__ne__") [.ref x, .ref y]) Q E s :=
  wpAny_call (codeAny_call_builtin F.cmp_object.ne.plain F.cmpEntry_ne (PySem.W.check_slot F.cmpKind_ne F.cmpSplit_ne (I.type.andThen (PySem.W.looks_mroIn Xk hm)) (F.cmpArgs_ne _ _) (entry_ne (A := A.in1) (b := .none) Xk I he hf hu hc)))
theorem rc_ne {Q : Value → Shared → Prop} (Xk : K.In s.heap) (I : PySem.W.InstAt s.heap x ox C od) (J : PySem.W.InstAt s.heap y oy C od') (hm : PySem.W.mroIn K C (.type "object") = some true) (hn : PySem.W.findIn K (.ref C) "__ne__" = some (some (.builtin "object.__ne__"))) (he : PySem.W.findIn K (.ref C) "__eq__" = some (some (.ref f))) (hf : PySem.W.isFn K (.ref f) = true) (hu : A.units + 1 < cLine)
    (hc : wpAny (model prog w) A.in1 (call (.ref f) [.ref x, .ref y]) (fun v s' => ∃ b, v = .bool b ∧ Q (.bool (!b)) s') E s) :
    wpAny (model prog w) A (richCompare .NotEq (.ref x) (.ref y)) Q E s := by
  have one : wpAny (model prog w) A (tryCompare (.ref x) "__ne__" (.ref y)) (fun r s' => ∃ v, r = some v ∧ Q v s') E s := by
    unfold tryCompare
    refine wpAny_bind (ifBound_ne Xk I hn (call_ne Xk I hm he hf hu (wpAny_mono hc (fun v s' ⟨b, e, q⟩ => ⟨b, e, ?_⟩) fun _ _ e => e)))
    exact wpAny_pure ⟨_, rfl, q⟩
  simp only [richCompare, oneThing_ref, cmpInfo_NotEq]
  refine wpAny_holding (wpAny_bind (wpAny_cRoomFor (Nat.lt_of_succ_lt hu) (wpAny_bind (I.type.here (wpAny_bind (J.type.here ?_))))))
  rw [show (Value.ref C != Value.ref C) = false by simp]
  simp only [Bool.false_eq_true, if_false]
  refine wpAny_bind (wpAny_pure ?_)
  simp only [Bool.false_eq_true, if_false]
  refine wpAny_bind (wpAny_mono one (fun r s' z => ?_) fun _ _ e => e)
  obtain ⟨v, rfl, hq⟩ := z
  exact wpAny_pure hq
end
/-! ### == and != of two instances of one class -/
def eqM (C : Addr) (mm : List D → M D) : List D → M D
  | [.obj c fn fv, .obj c' fn' fv'] => if c = C ∧ c' = C then mm [.obj c fn fv, .obj c' fn' fv'] else M.stk
  | _ => M.stk
section
variable {X : Cx} {xc : XC} {W : WX}
/-- a call one step of C further in -/
theorem callG1 {k : Nat} {f : Addr} {fd : FuncData} {ps : List Str} {sp : Sp} {pins : List (Addr × Obj)} {σ : L2.St} {H : Hp} {s : Shared} {Q : VK} {us : List Value} {vs : List V} (F : FnG X.prog X.w X.K X.mg X.base (L2.CX X.prog X.w) k f fd ps sp) (hr : Room (k + 1) X.A) (hgd : X.A.guards = some []) (hb : Binds X.K fd ps []) (tk : Takes X W)
    (I : Inv X pins σ H s) (r : Vals vs us) (h : sp vs H Q (WE W σ)) : wpAny (model X.prog X.w) X.A.in1 (call (.ref f) us) (EP X pins σ Q) X.xe s := by
  have e : us ++ [] = us := List.append_nil us
  have b := hb s us I.kIn (by rw [e, ← r.length]; exact F.len _ _ _ _ h)
  rw [e] at b
  have e0 := I.env0
  have e1 : Env0 X.prog X.w X.K X.mg X.base X.A.in1 X.stack s H := ⟨e0.frames, e0.mod, e0.bs, e0.bsz, e0.funs, e0.frf, e0.hok, e0.bare⟩
  refine wpAny_call (codeAny_mono (F.run X.A.in1 X.stack s H ⟨us, []⟩ us vs Q (WE W σ) hr.in1 hgd e1 b r h) fun res s' z => ?_)
  cases res with
  | error x => exact passAt tk σ pins H s x s' I z
  | ok fl =>
    cases fl with
    | ret u => exact I.after z
    | next => exact z.elim
    | brk => exact z.elim
    | cont => exact z.elim
theorem eq_recv {w : Wd} {H : Hp} {x y : D} {v u : V} {C : Addr} {mm : List D → M D} {s : SS} {g : M D → M D} {P : R D → Prop} (hP : P .stuck → False) (hg : g M.stk s = .stuck) (r : RepT X.K w H v x) (r2 : RepT X.K w H u y) (p : P (g (eqM C mm [x, y]) s)) :
    ∃ a b dx dy fs gs, v = .ref a ∧ u = .ref b ∧ H a = some (.ins C dx fs) ∧ H b = some (.ins C dy gs) ∧ P (g (mm [x, y]) s) := by
  have bad : ∀ {z : M D}, z = M.stk → ¬ P (g z s) := fun e h => by
    rw [e, hg] at h
    exact hP h
  cases x with
  | obj c fn fv =>
    cases y with
    | obj c' fn' fv' =>
      have e : eqM C mm [.obj c fn fv, .obj c' fn' fv'] = if c = C ∧ c' = C then mm [.obj c fn fv, .obj c' fn' fv'] else M.stk := rfl
      rw [e] at p
      by_cases h : c = C ∧ c' = C
      · rw [if_pos h] at p
        obtain ⟨h1, h2⟩ := h
        subst h1
        subst h2
        have r : Rep X.K H v (.obj c' fn fv) := r
        have r2 : Rep X.K H u (.obj c' fn' fv') := r2
        cases r with
        | obj ha hl cl en rs =>
          cases r2 with
          | obj ha2 hl2 cl2 en2 rs2 => exact ⟨_, _, _, _, _, _, rfl, rfl, ha, ha2, p⟩
      · rw [if_neg h] at p; exact absurd p (bad rfl)
    | _ => exact absurd p (bad rfl)
  | _ => exact absurd p (bad rfl)
theorem inst_at {a C dx : Addr} {fs : List (Str × V)} {pins : List (Addr × Obj)} {σ : L2.St} {H : Hp} {s : Shared} (I : Inv X pins σ H s) (e : H a = some (.ins C dx fs)) : ∃ ox od, PySem.W.InstAt s.heap a ox C od := by
  obtain ⟨mA, J, _⟩ := ins_get I.hok e
  obtain ⟨od, J, _⟩ := J.look
  exact ⟨_, _, J⟩
theorem pd_neO {k : Nat} {C : Addr} {mm : List D → M D} {a b : Expr} {pos : Pos} {ma mb : Env' → M D} (ha : PE X a (tE X.K xc W ma)) (hb : PE X b (tE X.K xc W mb)) (F : MtAt X.prog X.w X.K X.mg X.base xc k C "__eq__" ["other"] mm) (hmro : PySem.W.mroIn X.K C (.type "object") = some true) (hne : PySem.W.findIn X.K (.ref C) "__ne__" = some (some (.builtin "object.__ne__")))
    (hr : Room (k + 1) X.A) (hgd : X.A.guards = some []) (tk : Takes X W) (hm : behindInMarks .NotEq b = false) :
    PE X (.Compare a [.NotEq] [b] pos) (tE X.K xc W fun env => ma env >>= fun x => mb env >>= fun y => notM (eqM C mm [x, y])) := by
  obtain ⟨f, fd, h1, h3, h4⟩ := F.at_
  refine ⟨fun pins s σ H Q I ⟨w, env, s0, rel, q⟩ => wpAny_Compare1 (binT ha hb I (R := fun x y H2 => ∃ a b dx dy fs gs, x = .ref a ∧ y = .ref b ∧ H2 a = some (.ins C dx fs) ∧ H2 b = some (.ins C dy gs) ∧ spM xc X.K 2 mm [x, y] H2 (fun v H' => ∃ t, v = .bl t ∧ Q (.bl (!t)) H') (WE W σ)) ?_ fun v u s2 x y H2 I2 rx ry z => ?_) hm⟩
  · refine (tE_of rel q).imp2 fun v H1 ⟨w1, d, s1, g, rel1, r, p1⟩ => ?_
    refine (tE_of rel1 p1).imp2 fun u H2 ⟨w2, d2, s2, g2, rel2, r2, p2⟩ => ?_
    obtain ⟨a, b, dx, dy, fs, gs, e1, e2, e3, e4, p3⟩ := eq_recv (X := X) (g := notM) (P := fun z => Post X.K xc W σ w2 H2 Q z) (fun z => z) rfl (r.mono g2) r2 p2
    refine ⟨a, b, dx, dy, fs, gs, e1, e2, e3, e4, rfl, w2, [d, d2], s2, rel2.st, .cons (r.mono g2) (.cons r2 .nil), call_post (W := W) (σ := σ) ?_⟩
    unfold notM at p3
    have p3 : Post X.K xc W σ w2 H2 Q (M.bnd (mm [d, d2]) _ s2) := p3
    unfold M.bnd at p3
    cases e : mm [d, d2] s2 with
    | stuck => rw [e] at p3; exact p3.elim
    | exc c f s' => rw [e] at p3; exact p3
    | ok z s' =>
      rw [e] at p3
      cases z with
      | bl t =>
        intro v H' w' g' st rv
        cases rv
        exact ⟨t, rfl, p3 _ _ _ g' st (.bl _)⟩
      | _ => exact p3.elim
  · obtain ⟨a, b, dx, dy, fs, gs, e1, e2, e3, e4, z⟩ := z
    subst e1
    subst e2
    obtain rfl : v = Value.ref a := rx
    obtain rfl : u = Value.ref b := ry
    obtain ⟨oa, da, ia⟩ := inst_at I2 e3
    obtain ⟨ob, db, ib⟩ := inst_at I2 e4
    refine rc_ne I2.kIn ia ib hmro hne h1.at_ h1.fn (by have := hr.un; omega) (wpAny_mono (callG1 (us := [.ref a, .ref b]) (vs := [.ref a, .ref b]) h4 hr hgd h3 tk I2 (.cons rfl (.cons rfl .nil)) z) (fun v s' q => ?_) fun _ _ e => e)
    obtain ⟨vv, H', I', rv, t, e, q⟩ := q
    subst e
    cases rv
    exact ⟨t, rfl, .bl (!t), H', I', rfl, q⟩
end
/-! ### rules -/
/-- an own __eq__, as the table has it -/
def NeG (P : Program) (w : World) (K : PySem.W.Frag) (mg : Str → Option Value) (base : Heap) (xc : XC) (k : Nat) (g : List D → M D) : Prop := ∃ C mm, g = eqM C mm ∧ MtAt P w K mg base xc k C "__eq__" ["other"] mm ∧ PySem.W.mroIn K C (.type "object") = some true ∧ PySem.W.findIn K (.ref C) "__ne__" = some (some (.builtin "object.__ne__"))
/-- isinstance with an own class, as the table has it -/
def IsG (K : PySem.W.Frag) (mg : Str → Option Value) (x : Str) (g : List D → M D) : Prop := ∃ C, g = isoM C ∧ mg x = some (.ref C) ∧ IsoC K C
section
variable {X : Cx} {xc : XC} {W : WX} {Γ : Fns} {a b : Expr} {ca cb : C} {pos p p2 : Pos} {k : Nat}
theorem two_args {ma mb : M D} {g : List D → M D} {h : M D → M D} (hh : ∀ (x : M D) (f : D → M D), h (x >>= f) = x >>= fun y => h (f y)) : h (consN ma (consN mb (M.ret [])) >>= g) = ma >>= fun x => mb >>= fun y => h (g [x, y]) := by
  have e : (consN ma (consN mb (M.ret [])) >>= g) = ma >>= fun x => mb >>= fun y => g [x, y] := by
    funext z
    show M.bnd (M.bnd ma fun x => M.bnd (M.bnd mb fun y => M.bnd (M.ret []) fun r => M.ret (y :: r)) fun r => M.ret (x :: r)) g z = M.bnd ma (fun x => M.bnd mb fun y => g [x, y]) z
    unfold M.bnd
    cases ma z with
    | ok x z1 =>
      dsimp only
      cases mb z1 <;> rfl
    | exc _ _ _ => rfl
    | stuck => rfl
  rw [e, hh]
  congr 1
  funext x
  exact hh _ _
theorem not_bnd (x : M D) (f : D → M D) : notM (x >>= f) = x >>= fun y => notM (f y) := by
  funext z
  show M.bnd (M.bnd x f) _ z = M.bnd x (fun y => M.bnd (f y) _) z
  unfold M.bnd
  cases x z <;> rfl
theorem j_neO {f : Nat} (F : NeG X.prog X.w X.K X.mg X.base xc k (Γ f)) (ok : Okx X k) (tk : Takes X W) (ha : JE X xc W Γ a ca) (hb : JE X xc W Γ b cb) (hm : behindInMarks .NotEq b = false := by rfl) : JE X xc W Γ (.Compare a [.NotEq] [b] pos) (.not (.call f [ca, cb])) := by
  obtain ⟨C, mm, eg, F, h1, h2⟩ := F
  unfold JE
  show PE X _ (tE X.K xc W fun env => notM (consN (evC Γ ca env) (consN (evC Γ cb env) (M.ret [])) >>= Γ f))
  rw [eg]
  have e : (fun env => notM (consN (evC Γ ca env) (consN (evC Γ cb env) (M.ret [])) >>= eqM C mm)) = fun env => evC Γ ca env >>= fun x => evC Γ cb env >>= fun y => notM (eqM C mm [x, y]) := funext fun env => two_args not_bnd
  rw [e]
  exact pd_neO ha hb F h1 h2 ok.hr ok.gd tk hm
theorem j_iso {f : Nat} {x : Str} (F : IsG X.K X.mg x (Γ f)) (hmi : X.mg "isinstance" = none) (ha : JE X xc W Γ a ca) (hg : Gl X "isinstance" := by rfl) (hgx : Gl X x := by rfl) (hd : (x == ("__debug__" : Str)) = false := by decide)
    (he : starEach [a, .Name x p2] X.env = (false, eval a X.env) :: starEach [.Name x p2] X.env := by rfl) (he2 : starEach [.Name x p2] X.env = [(false, eval (.Name x p2) X.env)] := by rfl) : JE X xc W Γ (.Call (.Name "isinstance" p) [a, .Name x p2] [] pos) (.call f [ca]) := by
  obtain ⟨C, eg, hm, ic⟩ := F
  unfold JE
  show PE X _ (tE X.K xc W fun env => consN (evC Γ ca env) (M.ret []) >>= Γ f)
  rw [eg]
  exact pd_iso hg hmi hgx hm ic ha he he2 hd
end
/-! ### as the top has left it -/
structure EqC (K : PySem.W.Frag) (C : Addr) : Prop where
  mro : PySem.W.mroIn K C (.type "object") = some true
  ne : PySem.W.findIn K (.ref C) "__ne__" = some (some (.builtin "object.__ne__"))
  cls : PySem.W.findIn K (.ref C) "__class__" = some (some (.builtin "object.__class__"))
  get : PySem.W.specialIn K (.builtin "object.__class__") "__get__" = some (some (.builtin "getset_descriptor.__get__"))
  tak : PySem.W.takesIn K (.builtin "object.__class__") = some true
section
variable {P : Program} {w : World} {K : PySem.W.Frag} {mg : Str → Option Value} {base : Heap} {xc : XC} {k : Nat} {x : Str} {fn : List Str} {C : Addr} {q : Str} {st : Stmt} {N : List Str} {b : SM}
theorem isG_mk (Cx : ClsAt K mg x fn C) (E : EqC K C) : IsG K mg x (isoM C) := ⟨C, rfl, Cx.glob, Cx.cls.cls, E.cls, E.get, E.tak, E.mro⟩
theorem neG_body (Cx : ClsAt K mg x fn C) (E : EqC K C) (Fx : MethDef K C "__eq__" q st) (S : FnScope N ["self", "other"] (defScope st)) (hb : BndA "__eq__" q st ["self", "other"]) (body : BodyA P w K mg base xc k N q st b) : NeG P w K mg base xc (k + 2) (eqM C (fnM N.length b)) := by
  obtain ⟨C', mm, e, F⟩ := mtG_body (ps := ["other"]) Cx Fx S hb body
  obtain ⟨f, fd, F2, ha, hi⟩ := Fx.ex
  refine ⟨C, _, rfl, ⟨⟨f, fd, ⟨ha, hi, F2.kp⟩, F2.binds hb, ?_⟩, Cx.cls.cls⟩, E.mro, E.ne⟩
  obtain ⟨oc, od, kV, doc, pm, an, cdv, ct, osl, rfl, lk, hcd⟩ := F2.ex
  refine fnG_of lk hcd S (fun vs H Q E z => z.1) fun A out s H vs Q E hr hgd z => ?_
  obtain ⟨_, w0, ds, s0, t0, r0, p0⟩ := z
  exact ⟨_, body f cdv A out s H E ⟨hr, hgd, rfl, S.nd⟩ (takes_of rfl rfl rfl rfl) (passes_of rfl), w0, startE N.length ds, s0, rel_start t0 r0, fn_post t0 p0⟩
theorem neG_stk (Cx : ClsAt K mg x fn C) (E : EqC K C) (Fx : MethDef K C "__eq__" q st) (hb : BndA "__eq__" q st ["self", "other"]) : NeG P w K mg base xc k (eqM C fun _ => M.stk) := by
  obtain ⟨f, fd, F, ha, hi⟩ := Fx.ex
  exact ⟨C, _, rfl, ⟨⟨f, fd, ⟨ha, hi, F.kp⟩, F.binds hb, fun vs H Q E z => z.1, fun A out s H args us vs Q E _ _ _ _ _ z => by
    obtain ⟨_, _, _, _, _, _, p⟩ := z
    exact p.elim⟩, Cx.cls.cls⟩, E.mro, E.ne⟩
theorem NeG.up {j k : Nat} {g : List D → M D} (F : NeG P w K mg base xc j g) (h : j ≤ k) : NeG P w K mg base xc k g := by
  obtain ⟨C, mm, e, ⟨⟨f, fd, h1, h2, h3⟩, c⟩, r⟩ := F
  exact ⟨C, mm, e, ⟨⟨f, fd, h1, h2, h3.up h⟩, c⟩, r⟩
end
end PI

set_option maxHeartbeats 4000000
/-! PI, part xn: exceptions as values: X(e), X(f=e), e.f, isinstance(e, C). -/
namespace PI
open PySem L2 PyProof.Rows
open Builtin Builtin.ObjectAttr in
/-- a built-in class under which own exception classes stand -/
structure BaseX (B newId initId : String) (bmB : List Value) : Prop where
  fb : ExcBaseFacts B newId initId bmB
  kf : PySem.W.KxsFacts B initId
  ps : ∀ self, refuseLoop self "__setattr__" bmB = pure ()
  ob : bmB.contains (.type "object") = true
theorem bx_VE : BaseX "ValueError" "ValueError.__new__" "ValueError.__init__" [.type "ValueError", .type "Exception", .type "BaseException", .type "object"] := ⟨F.excBase_ValueError, PySem.W.kxs_ValueError, F.store_ValueError.passes, by decide +kernel⟩
theorem bx_LE : BaseX "LookupError" "LookupError.__new__" "LookupError.__init__" [.type "LookupError", .type "Exception", .type "BaseException", .type "object"] := ⟨F.excBase_LookupError, PySem.W.kxs_LookupError, F.store_LookupError.passes, by decide +kernel⟩
theorem bx_OE : BaseX "OverflowError" "OverflowError.__new__" "OverflowError.__init__" [.type "OverflowError", .type "ArithmeticError", .type "Exception", .type "BaseException", .type "object"] := ⟨F.excBase_OverflowError, PySem.W.kxs_OverflowError, F.store_OverflowError.passes, by decide +kernel⟩
/-- own classes, then tl -/
def refsT (tl : List Value) : List Value → Bool
  | .ref _ :: r => refsT tl r
  | l => l == tl
theorem refsT_cases {tl : List Value} : ∀ l : List Value, refsT tl l = true → (∃ c r, l = .ref c :: r ∧ refsT tl r = true) ∨ l = tl
  | [], e => .inr (beq_iff_eq.mp e)
  | .ref c :: r, e => .inl ⟨c, r, rfl, e⟩
  | .none :: _, e => .inr (beq_iff_eq.mp e)
  | .ellipsis :: _, e => .inr (beq_iff_eq.mp e)
  | .notImplemented :: _, e => .inr (beq_iff_eq.mp e)
  | .bool _ :: _, e => .inr (beq_iff_eq.mp e)
  | .int _ _ :: _, e => .inr (beq_iff_eq.mp e)
  | .float _ _ :: _, e => .inr (beq_iff_eq.mp e)
  | .str _ _ :: _, e => .inr (beq_iff_eq.mp e)
  | .bytes _ _ :: _, e => .inr (beq_iff_eq.mp e)
  | .type _ :: _, e => .inr (beq_iff_eq.mp e)
  | .builtin _ :: _, e => .inr (beq_iff_eq.mp e)
section
open Builtin Builtin.ObjectAttr
theorem refsT_pass {tl : List Value} {self : Value} (hp : refuseLoop self "__setattr__" tl = pure ()) : ∀ l : List Value, refsT tl l = true → refuseLoop self "__setattr__" l = pure () := by
  intro l
  induction l with
  | nil =>
    intro e
    rcases refsT_cases [] e with ⟨c, r', q, h⟩ | q
    · cases q
    · rw [q]; exact hp
  | cons a r ih =>
    intro e
    rcases refsT_cases (a :: r) e with ⟨c, r', q, h⟩ | q
    · obtain ⟨rfl, rfl⟩ := List.cons.inj q
      rw [refuseLoop_ref]; exact ih h
    · rw [q]; exact hp
theorem refsT_contains {tl : List Value} (X : String) : ∀ l : List Value, refsT tl l = true → l.contains (.type X) = tl.contains (.type X) := by
  intro l
  induction l with
  | nil =>
    intro e
    rcases refsT_cases [] e with ⟨c, r', q, h⟩ | q
    · cases q
    · rw [q]
  | cons a r ih =>
    intro e
    rcases refsT_cases (a :: r) e with ⟨c, r', q, h⟩ | q
    · obtain ⟨rfl, rfl⟩ := List.cons.inj q
      rw [List.contains_cons, ih h]; rfl
    · rw [q]
variable {prog : Program} {w : World} {A : Around} {E : Value → Shared → Prop} {R : Result → Shared → Prop} {hp : Heap} {g : Array GenState} {d : Drawn} {t : Nat} {os : OsState}
/-- the first field of an own exception -/
theorem exc_osaT {B newId initId : String} {bmB : List Value} {K : PySem.W.Frag} {name : Str} {tk : Tok} {v : Value} {x C : Addr} {fv : Array Value} {cd : ClassData} (bx : BaseX B newId initId bmB)
    (X : K.In hp) (hx : hp.get? x = some { cls := .ref C, data := .fields fv }) (hcd : PySem.W.clsIn K C = some cd) (hm : refsT bmB cd.mro = true) (hh : cd.hasDict = true) (ha : PySem.W.findIn K (.ref C) name = some none)
    (hq : ∀ h' tk' dx, (∀ b o, b ≠ x → hp.get? b = some o → h'.get? b = some o) → hp.objs.size ≤ dx → dx ≠ x → h'.get? x = some { cls := .ref C, dict := some dx, data := .fields fv } →
      h'.Ns1 dx (fun y => if y = name then some v else none) → R (.ok (.ret .none)) ⟨h', g, d, tk', os⟩) :
    codeAny (model prog w) A (.call (.builtin "object.__setattr__") ⟨[.ref x, .str name tk, v], []⟩) R ⟨hp, g, d, t, os⟩ := by
  have I : PySem.W.InstAt hp x { cls := .ref C, data := .fields fv } C none := ⟨hx, rfl, rfl, trivial⟩
  have SF := F.store_object
  have hob : cd.mro.contains (.type "object") = true := (refsT_contains "object" _ hm).trans bx.ob
  have ne : cd.mro.isEmpty = false := by
    cases e : cd.mro with
    | nil => rw [e] at hob; cases hob
    | cons _ _ => rfl
  have hxs : x ≠ hp.objs.size := Nat.ne_of_lt (Heap.lt_size hx)
  have sub : PySem.W.Looks (model prog w) hp (isInstance (.ref x) (.type "object")) true := I.type.andThen (PySem.W.looks_mroIn X (by unfold PySem.W.mroIn; rw [hcd, Option.bind_some, if_neg (by rw [ne]; decide), hob]))
  refine codeAny_call_builtin SF.slot.plain SF.entry (@PySem.W.check_slot (model prog w) _ _ ⟨hp, g, d, t, os⟩ "object.__setattr__" "object" "__setattr__" (.ref x) [.str name tk, v] [] _ SF.kind SF.split sub (SF.args (.ref x) (.str name tk) v) ?_)
  have hmr : PySem.W.Looks (model prog w) hp (mroOf (.ref C)) cd.mro := (PySem.W.looks_clsIn X hcd).andThen .now
  have L3 : PySem.W.Looks (model prog w) hp (storeTaker? none) none := .now
  have hcls : PySem.W.Looks (model prog w) hp (classData C) cd := PySem.W.looks_clsIn X hcd
  rw [PySem.W.osa_eq, refuse_eq]
  refine wpAny_bind (wpAny_bind (I.type.at (wpAny_bind (hmr.at ?_))))
  rw [refsT_pass (bx.ps _) _ hm]
  refine wpAny_pure (wpAny_bind (I.type.at (wpAny_bind ((PySem.W.looks_findIn X ha).at (wpAny_bind (L3.at ?_))))))
  show wpAny _ _ (storeInOwnDict (.ref x) (.ref C) (.str name tk) name v false) _ _ _
  obtain ⟨nm, bs, mro, ns, qn, hd, sn, sb, ab, col, del⟩ := cd
  dsimp only at hh
  subst hh
  unfold storeInOwnDict ownDictForStores
  repeat (first | with_reducible refine PySem.HandSPX.store_in_new ?_ ?_ | with_reducible refine wpAny_loadPart_at hx ?_ | with_reducible refine hcls.at ?_ | wp_step)
  · exact ⟨_, #[], _, (Heap.get?_update_ne _ _ _ _ hxs.symm).trans (Heap.get?_push_at rfl rfl), rfl, fun e he => absurd he (by simp), fun _ => rfl⟩
  · intro h' tk' hn' hs
    have hx₁ : (hp.push { cls := .type "dict", data := .dict #[] }).get? x = some { cls := .ref C, data := .fields fv } := Heap.get?_push_of_some _ hx
    refine hq h' tk' hp.objs.size (fun b o hb ho => ?_) (Nat.le_refl _) hxs.symm ?_ hn'
    · exact (hs.2 b (Nat.ne_of_lt (Heap.lt_size ho))).trans ((Heap.get?_update_ne _ _ _ _ hb).trans (Heap.get?_push_of_some _ ho))
    · exact (hs.2 x hxs).trans (Heap.get?_update_self _ hx₁ rfl)
end

end PI
namespace PI
open PySem
/-! ### C(.., k = v) of an own exception class -/
section
variable {M : Model} {A : Around} {E : Value → Shared → Prop} {h : Heap} {g : Array GenState} {d : Drawn} {t : Nat} {os : OsState}
variable {nm q : Str} {C N : Addr} {bs bm bmB : List Value} {hdct : Bool} {sn : List Str} {sub : List Value} {ab : Bool} {col : Option Bool} {dd : Option Addr} {k0 k1 k2 k3 k5 : Option Value} {B newId initId : String}
theorem check_new_kw (F : ExcBaseFacts B newId initId bmB) (hT : ∀ X : String, bm.contains (.type X) = bmB.contains (.type X)) {rest : List Value} {kw : List (Str × Value)} {Q : Unit → Shared → Prop}
    (hC : h.get? C = some (excClassObj nm q C N bs bm hdct sn sub ab col dd k0 k1 k2 k3 k5 newId)) (hq : Q () ⟨h, g, d, t, os⟩) : wpAny M A (checkBuiltinCall newId ⟨.ref C :: rest, kw⟩) Q E ⟨h, g, d, t, os⟩ := by
  have hcont : (Value.ref C :: bm).contains (.type B) = true := by rw [List.contains_cons, hT, F.hasB, Bool.or_true]
  have hstar := F.noStar
  simp only [checkBuiltinCall, F.newKind, F.newSplit, F.newRow]
  repeat (first | refine wpAny_loadPart_at hC ?_ | (refine wpAny_isSubtype_exc hC ?_; rw [hcont]) | refine wpAny_staticBase_exc hC ?_ | refine wpAny_madeBy_exc hC ?_ | simp only [bne_self_eq_false, Bool.false_eq_true, if_false] | wp_step)
  exact hq
end
section
variable {prog : Program} {w : World} {A : Around} {E : Value → Shared → Prop} {R : Result → Shared → Prop} {h : Heap} {g : Array GenState} {d : Drawn} {t : Nat} {os : OsState}
variable {nm q : Str} {C N : Addr} {bs bm bmB : List Value} {hdct : Bool} {sn : List Str} {sub : List Value} {ab : Bool} {col : Option Bool} {dd : Option Addr} {k0 k1 k2 k3 k5 : Option Value} {B newId initId : String}
theorem new_kw (F : ExcBaseFacts B newId initId bmB) (hT : ∀ X : String, bm.contains (.type X) = bmB.contains (.type X)) {rest : List Value} {kw : List (Str × Value)}
    (hC : h.get? C = some (excClassObj nm q C N bs bm hdct sn sub ab col dd k0 k1 k2 k3 k5 newId))
    (hq : R (.ok (.ret (.ref (h.objs.size + 1)))) ⟨(h.push { cls := .type "tuple", data := .seq rest.toArray }).push
      { cls := .ref C, data := .fields #[.ref h.objs.size, .none, .none, .none, .bool false, .none] }, g, d, t, os⟩) (hrest : rest.length ≤ sizeLine) :
    codeAny (model prog w) A (.builtin newId ⟨.ref C :: rest, kw⟩) R ⟨h, g, d, t, os⟩ := by
  have hends := F.ends
  have hcB : (Value.ref C :: bm).contains (.type B) = true := by rw [List.contains_cons, hT, F.hasB, Bool.or_true]
  have hcA : (Value.ref C :: bm).contains (.type "AttributeError") = false := by rw [List.contains_cons, hT, F.noAttr]; rfl
  have hcN : (Value.ref C :: bm).contains (.type "NameError") = false := by rw [List.contains_cons, hT, F.noName]; rfl
  refine codeAny_builtinAt F.entry ?_
  unfold Builtin.«BaseException.__new__»
  refine wpAt_bind ?_
  show wpAt _ _ _ (stack >>= _) _ _ _
  refine wpAt_bind (wpAt_stack fun p below => wpAt_of_wpAny ?_)
  wp_walk
  refine wpAt_of_wpAny ?_
  rw [F.owner]
  repeat (first | with_reducible refine wpAny_madeHere_exc F.canon hC ?_ | with_reducible refine wpAny_loadPart_at hC ?_ | (with_reducible refine wpAny_isSubtype_exc hC ?_; first | rw [hcB] | rw [hcA] | rw [hcN]) | wp_step)
  show R _ _
  rw [Heap.size_push]
  exact hq
theorem type_call_kw (F : ExcBaseFacts B newId initId bmB) (hT : ∀ X : String, bm.contains (.type X) = bmB.contains (.type X)) {rest : List Value} {kw : List (Str × Value)} {fI : Addr} {Q : Fin → Shared → Prop}
    (hC : h.get? C = some (excClassObj nm q C N bs bm hdct sn sub ab col dd k0 k1 k2 k3 k5 newId))
    (hi : W.Looks (model prog w) h (typeLookup (.ref C) "__init__") (some (.ref fI))) (hb : ∀ self, W.Looks (model prog w) h (bindSpecial (.ref fI) self) (.ref fI, [self])) (hrest : rest.length ≤ sizeLine)
    (hq : codeAny (model prog w) A (.call (.ref fI) ⟨.ref (h.objs.size + 1) :: rest, kw⟩)
      (fun r s' => match r with | .ok (.ret v) => v = .none ∧ Q (.done (.ret (.ref (h.objs.size + 1)))) s' | .ok _ => False | .error e => E e s')
      ⟨(h.push (W.kdv_tup rest)).push (PySem.HandSPX.excO C h.objs.size), g, d, t, os⟩) :
    wpAny (model prog w) A (Builtin.«type.__call__» ⟨.ref C :: rest, kw⟩) Q E ⟨h, g, d, t, os⟩ := by
  repeat (first | with_reducible refine wpAny_loadPart_at hC ?_ | with_reducible refine wpAny_madeBy_exc hC ?_ | wp_step)
  refine codeAny_call_builtin_code (Code.quiet_builtin _ F.quiet) (check_new_kw F hT hC ?_)
  refine new_kw F hT hC ?_ hrest
  show wpAny _ _ _ _ _ _
  have k : ∀ b o, h.get? b = some o → ((h.push (W.kdv_tup rest)).push (PySem.HandSPX.excO C h.objs.size)).get? b = some o := fun b o e => Heap.get?_push_of_some _ (Heap.get?_push_of_some _ e)
  have hC₁ := k _ _ hC
  have hget : ((h.push (W.kdv_tup rest)).push (PySem.HandSPX.excO C h.objs.size)).get? (h.objs.size + 1) = some (PySem.HandSPX.excO C h.objs.size) := by heap_get
  have hcC : (Value.ref C :: bm).contains (.ref C) = true := by simp
  have i1 := hi.keeps k
  have b1 := (hb (.ref (h.objs.size + 1))).keeps k
  unfold isInstance
  repeat (first | with_reducible refine wpAny_loadPart_at hget ?_ | (with_reducible refine wpAny_isSubtype_exc hC₁ ?_; rw [hcC]) | wp_step)
  show wpAny _ _ (typeLookup (.ref C) _) _ _ _
  refine i1.at ?_
  refine wpAny_holding (wpAny_bind (b1.at ?_))
  refine wpAny_bind (wpAny_call (codeAny_mono hq fun r s' z => ?_))
  rcases r with e | (v | _ | _ | _) <;> first | exact z | exact z.elim | skip
  obtain ⟨rfl, z⟩ := z
  first
    | exact wpAny_pure (wpAny_pure z)
    | (wp_walk; exact z)
theorem call_kw (F : ExcBaseFacts B newId initId bmB) (hT : ∀ X : String, bm.contains (.type X) = bmB.contains (.type X)) {rest : List Value} {kw : List (Str × Value)} {fI : Addr}
    (hC : h.get? C = some (excClassObj nm q C N bs bm hdct sn sub ab col dd k0 k1 k2 k3 k5 newId))
    (hi : W.Looks (model prog w) h (typeLookup (.ref C) "__init__") (some (.ref fI))) (hb : ∀ self, W.Looks (model prog w) h (bindSpecial (.ref fI) self) (.ref fI, [self])) (hrest : rest.length ≤ sizeLine)
    (hq : codeAny (model prog w) (A.under (.builtin "type.__call__" ⟨.ref C :: rest, kw⟩)) (.call (.ref fI) ⟨.ref (h.objs.size + 1) :: rest, kw⟩) (W.InitBack (h.objs.size + 1) R)
      ⟨(h.push (W.kdv_tup rest)).push (PySem.HandSPX.excO C h.objs.size), g, d, t, os⟩) :
    codeAny (model prog w) A (.call (.ref C) ⟨rest, kw⟩) R ⟨h, g, d, t, os⟩ := by
  have f1 := tc_lookup
  have f2 := tc_bind (.ref C)
  have hTy : (⟨h, g, d, t, os⟩ : Shared).TypeIs (.ref C) "type" := ⟨_, hC, rfl⟩
  refine codeAny_of_tree ?_
  show wpAny _ _ (callAny (.ref C) _) _ _ _
  repeat (any_goals (first | assumption | with_reducible refine wpAny_loadPart_at hC ?_ | wp_step))
  refine ⟨rfl, ?_⟩
  refine codeAny_call_builtin_at (Code.quiet_builtin _ (by decide +kernel)) entry_typeCall (wpAny_check_type_call_sub hC (type_call_kw F hT hC hi hb hrest ?_))
  refine codeAny_mono hq fun r s' z => ?_
  rcases r with e | (v | _ | _ | _) <;> exact z
end
end PI

set_option maxHeartbeats 4000000
/-! PI, part xo: an own exception made as a value. -/
namespace PI
open PySem L2 PyProof.Rows
/-- what the written part says of the class at C, of its __init__ -/
structure SupE (P : Program) (K : PySem.W.Frag) (C : Addr) (f : Str) : Prop where
  cls : ∃ (B newId initId : String) (bmB : List Value) (nm q : Str) (N : Addr) (bs bm : List Value) (sn : List Str) (sub : List Value) (ab : Bool) (col : Option Bool) (dd : Option Addr) (k0 k1 k2 k3 k5 : Option Value), BaseX B newId initId bmB ∧
    K.lookup C = some (excClassObj nm q C N bs bm true sn sub ab col dd k0 k1 k2 k3 k5 newId) ∧ refsT bmB bm = true ∧ PySem.W.ks_superIn K C C "__init__" = some (some (.builtin initId)) ∧ PySem.W.subIn K (.ref C) (.type B) = some true
  ini : ∃ (fI cc cda : Addr) (qual : Str) (params : Arguments) (msg : Str) (j : Nat) (q : Nat → Pos) (scope : Scope) (kV doc pm ct oc : Value) (an od : Option Addr) (osl : Array (Option Value)) (vs : Array Value) (file : Str) (tf : Tok) (ccl cl : Value) (cdd cld : Option Addr) (ccs csl : Array (Option Value)) (ar : Arg),
    PySem.W.findIn K (.ref C) "__init__" = some (some (.ref fI)) ∧ PySem.W.typeIn K (.ref fI) = some (.type "function") ∧
    K.lookup fI = some ⟨oc, od, .func (PySem.W.ksFn "__init__" qual params (initBody msg f f j q) scope .none kV doc pm an (.ref cda) ct cc), osl⟩ ∧
    PySem.W.codeIn K (.ref cda) qual = true ∧ K.lookup cda = some ⟨ccl, cdd, .fields vs, ccs⟩ ∧ vs[2]? = some (.str file tf) ∧ ((P.main.file : Str) == file) = true ∧
    K.lookup cc = some ⟨cl, cld, .cell (some (.ref C)), csl⟩ ∧ (params.posonlyargs ++ params.args).head? = some ar ∧ ar.arg = ("self" : Str) ∧
    (∀ a u : Value, bindArgs (PySem.W.ksFn "__init__" qual params (initBody msg f f j q) scope .none kV doc pm an (.ref cda) ct cc) ⟨[a, u], []⟩ = pure [(("self" : Str), a), (f, u)]) ∧
    (∀ a u : Value, bindArgs (PySem.W.ksFn "__init__" qual params (initBody msg f f j q) scope .none kV doc pm an (.ref cda) ct cc) ⟨[a], [(f, u)]⟩ = pure [(("self" : Str), a), (f, u)]) ∧
    scope.names.lookup ("super" : Str) = some .globalImplicit ∧ scope.names.lookup ("__class__" : Str) = some .free ∧ scope.names.lookup ("self" : Str) = some .local ∧ scope.names.lookup f = some .local ∧
    (∀ x ∈ scope.names, x.2 ≠ .cell) ∧ scope.kind = .function ∧ scope.isCoroutine = false ∧ scope.isGenerator = false ∧ f ≠ ("self" : Str) ∧ (f == ("__debug__" : Str)) = false ∧ ((q 2).endLine == (q 4).line) = true
  sa : PySem.W.findIn K (.ref C) "__setattr__" = some (some (.builtin "object.__setattr__"))
  kC : PySem.W.keepIn K (.ref C) = true
  opq : PySem.W.nsIn K cStatics "thirdparty.any" = some none
  sub : PySem.W.mroIn K C (.ref C) = some true
  ex : ExnC K C f
  top : (P.main.scope.names.lookup ("super" : Str)).isSome = false
section
variable {P : Program} {w : World} {A : Around} {K : PySem.W.Frag}
/-- what is passed: the exception and the field's value, by place or by name -/
def InitArgs (f : Str) (e u : Value) (args : Args) : Prop := args = ⟨[e, u], []⟩ ∨ args = ⟨[e], [(f, u)]⟩
theorem init_walkE {C e t0 : Addr} {f : Str} {u : Value} {args : Args} {R : Result → Shared → Prop} {mg mb : Str → Option Value} {hp : Heap} {g : Array GenState} {d : Drawn} {t : Nat} {os : OsState} (S : SupE P K C f) (X : K.In hp) (G : hp.Ns mainGlobals mg) (B : hp.Ns builtinsNs mb)
    (hms : mg "super" = none) (hbs : mb "super" = some (.type "super")) (lim : hp.NoLimit) (room : A.depth < recursionLimit) (he : hp.get? e = some (PySem.HandSPX.excO C t0)) (hKe : K.lookup e = none) {fI : Addr} (hfI : PySem.W.findIn K (.ref C) "__init__" = some (some (.ref fI))) (ha : InitArgs f (.ref e) u args)
    (hR : ∀ h' dx t1 tk, (∀ b o, b ≠ e → hp.get? b = some o → h'.get? b = some o) → hp.objs.size ≤ dx → dx ≠ e → h'.get? e = some ({ cls := .ref C, dict := some dx, data := .fields #[.ref t1, .none, .none, .none, .bool false, .none] } : Obj) →
      h'.Ns1 dx (fun y => if y = f then some u else none) → R (.ok (.ret .none)) ⟨h', g, d, tk, os⟩) :
    codeAny (model P w) A (.call (.ref fI) args) R ⟨hp, g, d, t, os⟩ := by
  obtain ⟨fI', cc, cda, qual, params, msg, j, q, scope, kV, doc, pm, ct, oc, an, od, osl, vs, file, tf, ccl, cl, cdd, cld, ccs, csl, ar, i1, i2, i3, i4, i5, i6, i7, i8, i9, i10, i11, i11k, i12, i13, i14, i15, i16, i17, i18, i19, i20, i21, i22⟩ := S.ini
  rw [hfI] at i1
  cases i1
  obtain ⟨Bn, newId, initId, bmB, nm, qn, Nn, bs, bm, sn, sb, ab, col, dd, k0, k1, k2, k3, k5, bx, hC, hbm, hsup, hve⟩ := S.cls
  have hcl : PySem.W.clsIn K C = some { name := nm, bases := bs, mro := .ref C :: bm, ns := Nn, qualname := qn, hasDict := true, slotNames := sn, subclasses := sb, abstract := ab, collection := col, hasDel := false } := by unfold PySem.W.clsIn; rw [hC] <;> rfl
  have hbind : bindArgs (PySem.W.ksFn "__init__" qual params (initBody msg f f j q) scope .none kV doc pm an (.ref cda) ct cc) args = pure [(("self" : Str), .ref e), (f, u)] := by
    rcases ha with rfl | rfl
    · exact i11 _ _
    · exact i11k _ _
  refine ks_codeAny_call_defAt (fd := PySem.W.ksFn "__init__" qual params (initBody msg f f j q) scope .none kV doc pm an (.ref cda) ct cc) (body := initBody msg f f j q) (binds := [(("self" : Str), .ref e), (f, u)]) room (X _ _ i3) rfl lim (PySem.W.codeRec_of X i4) rfl (.of_eq hbind) i16 (fun y hy => ?_) (fun h1 hns hk => ?_) i18 i19 i17
  · rcases List.mem_cons.mp hy with z | z
    · rw [z]; exact i14
    · rw [List.mem_singleton.mp z]; exact i15
  have X1 : K.In h1 := X.keeps hk
  have he1 := hk _ _ he
  have eself : (fun x => [(("self" : Str), Value.ref e), (f, u)].reverse.lookup x) ("self" : Str) = some (.ref e) := by
    show List.lookup ("self" : Str) [(f, u), (("self" : Str), Value.ref e)] = _
    rw [List.lookup_cons, show (("self" : Str) == f) = false from beq_eq_false_iff_ne.mpr (Ne.symm i20)]
    simp
  have epn : (fun x => [(("self" : Str), Value.ref e), (f, u)].reverse.lookup x) f = some u := by
    show List.lookup f [(f, u), (("self" : Str), Value.ref e)] = _
    simp
  have hD1 := X1 _ _ hC
  have nI : interactive (callEnv (PySem.W.ksFn "__init__" qual params (initBody msg f f j q) scope .none kV doc pm an (.ref cda) ct cc) hp.objs.size fI) = false := by
    show (scope.kind == .module && _) = false
    rw [i17]; rfl
  unfold initBody
  refine ks_wpAt_execs_cons (ks_wpAt_Expr_any (ks_wpAt_MethodCall (ks_wpAt_super_base (f := fI) (cc := cda) i12 i13 (by decide) rfl (X1 _ _ i3) rfl i9 rfl (X1 _ _ i5) rfl i6 i7 S.top ?_) (sup_eval rfl i22)) nI rfl)
  refine PySem.W.ks_loadName_global i17 i12 (Calls.loadGlobal_builtin (G.keeps hk) hms (B.keeps hk) hbs ⟨rfl, ?_⟩)
  refine wpAny_loadName_free i17 i13 rfl ⟨_, X1 _ _ i8, rfl⟩ ?_
  refine wpAny_loadName_local i17 (by rw [i10]; exact i14) hns (by rw [i10]; exact eself) ?_
  refine ks_wpAny_isType_cls hD1 rfl ⟨rfl, ?_⟩
  refine ks_wpAny_call_super hD1 rfl he1 rfl (fun c z => nomatch z) (PySem.W.looks_mroIn X1 S.sub) (fun h2 e2 k2 => ?_)
  have X2 : K.In h2 := X1.keeps k2
  have LT : PySem.W.Looks (model P w) h2 (typeOf (.ref e)) (.ref C) := fun A Q E s k q => wpAny_typeOf_ref (k _ _ (k2 _ _ he1)) q
  have hI : PySem.W.Looks (model P w) h2 (isInstance (.ref e) (.type Bn)) true := LT.andThen (PySem.W.looks_subIn X2 hve)
  unfold PySem.W.ks_superIn at hsup
  rw [hcl] at hsup
  have hmro : PySem.W.Looks (model P w) h2 (mroOf (.ref C)) (.ref C :: bm) := fun A Q E s k q => wpAny_bind ((PySem.W.looks_clsIn X2 hcl) A _ E s k (wpAny_pure q))
  have hne : e ≠ C := fun z => by
    rw [z] at he1
    rw [hD1] at he1
    cases he1
  refine PySem.W.kxs_getMethod bx.kf e2 (PySem.W.looks_opaque X2 S.opq) hmro rfl X2 hsup hI hne (by decide) ?_
  have hmw : (h2.push (PySem.W.kxs_mw initId e)).get? h2.objs.size = some (PySem.W.kxs_mw initId e) := Heap.get?_push_at rfl rfl
  have k3 : ∀ b o, h2.get? b = some o → (h2.push (PySem.W.kxs_mw initId e)).get? b = some o := fun b o z => Heap.get?_push_of_some _ z
  refine PySem.W.kxs_callWith (i := initId) (x := e) rfl (Calls.evalArgs_plain (Calls.spliced_cons (Calls.Constant_str (k := j) (pos := q 3) (Calls.spliced_nil ⟨hmw, ?_⟩))))
  have X3 := X2.keeps k3
  have he3 := k3 _ _ (k2 _ _ he1)
  refine wpAny_call (codeAny_of_tree ?_)
  show wpAny _ _ (callAny (.ref h2.objs.size) ⟨[Value.str msg _], []⟩) _ _ _
  simp only [callAny]
  refine wpAny_bind (wpAny_load hmw ?_)
  simp only [show (Value.type "method-wrapper" == Value.type "method" || Value.type "method-wrapper" == Value.type "builtin_function_or_method" || Value.type "method-wrapper" == Value.type "method-wrapper") = true by decide, if_true]
  refine PySem.W.KFB.if_so (by decide) (wpAny_bind (PySem.W.check_bound_init bx.fb.toExcCallFacts (X3 _ _ hC) he3 rfl (wpAny_bind (wpAny_pure (wpAny_pure ⟨plainId_quiet bx.fb.init.plain _, codeAny_builtin bx.fb.initEntry ?_⟩)))))
  refine PySem.W.exc_init_tree (cls := .ref C) (t0 := t0) (dv := none) (c2 := .none) (c3 := .none) (b4 := .bool false) he3 (by show 1 ≤ sizeLine; decide) fun h4 k4 he4 _ => ?_
  have hns4 : h4.Ns hp.objs.size (fun x => [(("self" : Str), Value.ref e), (f, u)].reverse.lookup x) := by
    obtain ⟨oL, es, ep, hL, r⟩ := hns
    have nL : hp.objs.size ≠ e := fun z => absurd (Heap.lt_size he) (by rw [z]; exact Nat.lt_irrefl _)
    exact ⟨oL, es, ep, k4 _ _ nL (k3 _ _ (k2 _ _ hL)), r⟩
  have kk : ∀ b o, b ≠ e → hp.get? b = some o → h4.get? b = some o := fun b o hb z => k4 b o hb (k3 _ _ (k2 _ _ (hk _ _ z)))
  have nKe : K.lookup e = none := hKe
  have X4 : K.In h4 := fun b o z => kk b o (fun y => by rw [y, nKe] at z; cases z) (X _ _ z)
  refine ks_wpAt_execs_cons (wpAt_of_wpAny (plainObj_wpAny_Assign_Attribute (wpAny_Name (wpAny_loadName_local i17 i15 hns4 epn (wpAny_Name (wpAny_loadName_local i17 i14 hns4 eself ?_))) i21) ?_))
  · refine PySem.W.set_plain X4 (ox := { cls := .ref C, dict := none, data := .fields #[.ref (h2.push (PySem.W.kxs_mw initId e)).objs.size, .none, .none, .none, .bool false, .none] }) (od := none) ⟨he4, rfl, rfl, trivial⟩ S.sa ?_
    refine exc_osaT bx X4 he4 hcl (show refsT bmB (.ref C :: bm) = true from hbm) rfl S.ex.fld (fun h5 tk5 dx k5 hdx dne he5 hn5 => ?_)
    refine wpAt_of_wpAny (wpAny_execs_nil ?_)
    exact hR h5 dx _ tk5 (fun b o hb z => k5 b o hb (kk b o hb z)) (Nat.le_trans (Nat.le_of_lt hns4.lt) hdx) dne he5 hn5
  · rfl
end
section
variable {X : Cx}
/-- the exception is made: it and its dict are new -/
theorem mk_run {C : Addr} {f : Str} {v : V} {u : Value} {rest : List Value} {kw : List (Str × Value)} {pins : List (Addr × Obj)} {σ : L2.St} {H1 : Hp} {s1 : Shared} {Q : VK} {E : Value → Shared → Prop} (S : SupE X.prog X.K C f) (hr : Room 1 X.A) (hms : X.mg "super" = none) (I1 : Inv X pins σ H1 s1) (ru : RelV v u)
    (hrest : rest.length ≤ sizeLine) (ha : ∀ e : Addr, InitArgs f (.ref e) u ⟨.ref e :: rest, kw⟩)
    (q : ∀ a dx, H1 a = none → H1 dx = none → dx ≠ a → Q (.ref a) (upd (upd H1 dx (exd dx [(f, v)])) a (exo a C (some dx)))) : wpAny (model X.prog X.w) X.A (call (.ref C) rest kw) (EP X pins σ Q) E s1 := by
  obtain ⟨Bn, newId, initId, bmB, nm, qn, Nn, bs, bm, sn, sb, ab, col, dd, k0, k1, k2, k3, k5, bx, hC, hbm, hsup, hve⟩ := S.cls
  obtain ⟨fI, hfI, tI⟩ : ∃ fI, PySem.W.findIn X.K (.ref C) "__init__" = some (some (.ref fI)) ∧ PySem.W.typeIn X.K (.ref fI) = some (.type "function") := by
    obtain ⟨fI, _, _, _, _, _, _, _, _, _, _, _, _, _, _, _, _, _, _, _, _, _, _, _, _, _, _, i1, i2, _⟩ := S.ini
    exact ⟨fI, i1, i2⟩
  obtain ⟨hp, g, dr, tk, os⟩ := s1
  have hsz : hp.objs.size ≤ hp.objs.size + 1 := Nat.le_succ _
  have hn : H1 (hp.objs.size + 1) = none := I1.hok.fresh hsz
  have kk : ∀ b o, hp.get? b = some o → ((hp.push (PySem.W.kdv_tup rest)).push (PySem.HandSPX.excO C hp.objs.size)).get? b = some o := fun b o z => Heap.get?_push_of_some _ (Heap.get?_push_of_some _ z)
  have hget : ((hp.push (PySem.W.kdv_tup rest)).push (PySem.HandSPX.excO C hp.objs.size)).get? (hp.objs.size + 1) = some (PySem.HandSPX.excO C hp.objs.size) := by heap_get
  have X1 := I1.kIn
  have nK : X.K.lookup (hp.objs.size + 1) = none := by
    cases z : X.K.lookup (hp.objs.size + 1) with
    | none => rfl
    | some o => exact absurd (Heap.lt_size (X1 _ _ z)) (Nat.not_lt.mpr hsz)
  obtain ⟨mb, hb1, hb2⟩ := I1.mod.blt
  have bk : ∀ b o, X.base.get? b = some o → ((hp.push (PySem.W.kdv_tup rest)).push (PySem.HandSPX.excO C hp.objs.size)).get? b = some o := fun b o z => kk b o (I1.bk b o z)
  refine wpAny_call (call_kw bx.fb (fun Y => refsT_contains Y bm hbm) (X1 _ _ hC) (PySem.W.looks_findIn X1 hfI) (fun self => PySem.W.bind_fn X1 self tI) hrest ?_)
  refine init_walkE S (X1.keeps kk) (I1.mod.glob.keeps bk) (hb1.keeps bk) hms ((hb2 _ (by decide)).trans (by first | rfl | kernel_rfl)) (I1.nolimit.keeps kk) (hr.make C rest kw).depth hget nK hfI (ha _) fun h2 dx t1 tk2 k2' hdx dne he2 hn2 => ⟨rfl, ?_⟩
  have hdx' : hp.objs.size ≤ dx := Nat.le_trans (Nat.le_trans hsz (Nat.le_succ _)) (by simpa [Heap.push] using hdx)
  have hnd : H1 dx = none := I1.hok.fresh hdx'
  have new : ∀ {b : Addr} {o : Obj}, hp.get? b = some o → b ≠ dx := fun {b o} z y => absurd (Heap.lt_size z) (by rw [y]; exact Nat.not_lt.mpr hdx')
  have nea : ∀ {b : Addr} {o : Obj}, hp.get? b = some o → b ≠ hp.objs.size + 1 := fun {b o} z y => absurd (Heap.lt_size z) (by rw [y]; exact Nat.not_lt.mpr hsz)
  have k2 : ∀ b o, hp.get? b = some o → h2.get? b = some o := fun b o z => k2' b o (nea z) (kk b o z)
  have low : ∀ {b : Addr} {o : HO}, H1 b = some o → b ≠ hp.objs.size + 1 ∧ b ≠ dx := fun {b o} z => ⟨ne_of_none z hn, ne_of_none z hnd⟩
  have U : Un (frs X.stack) [] H1 (upd (upd H1 dx (exd dx [(f, v)])) (hp.objs.size + 1) (exo (hp.objs.size + 1) C (some dx))) hp h2 := by
    refine ⟨fun b o z n _ _ => k2 b o z, fun b o z n _ _ => ⟨o.slots, k2 b o z⟩, fun b o z n _ => ?_, fun b o z _ => ⟨o, k2 b o z⟩, fun b xs z => ?_, fun b o y z => ?_, fun b ps z => ?_⟩
    · rw [upd_ne (nea z), upd_ne (new z)]; exact n
    · rw [upd_ne (low z).1, upd_ne (low z).2]; exact z
    · rw [upd_ne (low z).1, upd_ne (low z).2]; exact z
    · exact ⟨#[], by rw [upd_ne (low z).1, upd_ne (low z).2, z]; simp⟩
  have hok2 : HOk X.prog X.w (upd (upd H1 dx (exd dx [(f, v)])) (hp.objs.size + 1) (exo (hp.objs.size + 1) C (some dx))) h2 := fun b o z => by
    by_cases hb : b = hp.objs.size + 1
    · subst hb
      rw [upd_same] at z
      cases z
      exact exo_ok he2
    · rw [upd_ne hb] at z
      by_cases hd : b = dx
      · subst hd
        rw [upd_same] at z
        cases z
        exact exd_ok hn2 (relO_put (fs := []) ru fun g => trivial)
      · rw [upd_ne hd] at z
        refine (I1.hok b o z).stay (fun c y hc w => k2 c y w) (fun c hc => ?_) (fun c xs hc => ?_)
        · rw [upd_ne (low hc).1, upd_ne (low hc).2]; exact hc
        · rw [upd_ne (low hc).1, upd_ne (low hc).2]; exact hc
  have J : Inv X pins σ (upd (upd H1 dx (exd dx [(f, v)])) (hp.objs.size + 1) (exo (hp.objs.size + 1) C (some dx))) ⟨h2, g, dr, tk2, os⟩ := I1.call' (ch := []) rfl U hok2 I1.bare (fun b z => absurd z (by simp))
  exact ⟨.ref (hp.objs.size + 1), _, J, rfl, q _ _ hn hnd dne⟩
/-- X(e) -/
def tMkE (C : Addr) (f : Str) (te : TE) : TE := fun σ H Q => te σ H fun v H1 => ∀ a dx, H1 a = none → H1 dx = none → dx ≠ a → Q (.ref a) (upd (upd H1 dx (exd dx [(f, v)])) a (exo a C (some dx)))
theorem pe_mkE {x f : Str} {C : Addr} {e : Expr} {te : TE} {p pos : Pos} (S : SupE X.prog X.K C f) (hr : Room 1 X.A) (hg : Gl X x) (hm : X.mg x = some (.ref C)) (hms : X.mg "super" = none) (he : PE X e te)
    (hdb : (x == ("__debug__" : Str)) = false) (hst : starEach [e] X.env = [(false, eval e X.env)]) : PE X (.Call (.Name x p) [e] [] pos) (tMkE C f te) := by
  refine ⟨fun pins s σ H Q I h => ?_⟩
  refine wpAny_Call_Name_kw (ld_glob I hg hm ?_ hdb)
  refine PySem.W.callWith_K (h₀ := X.base) I.ok.mod.kin S.kC (thn ((pa_cons he pa_nil hst).run pos pins s σ H (fun vs H1 => match vs with | [v] => ∀ a dx, H1 a = none → H1 dx = none → dx ≠ a → Q (.ref a) (upd (upd H1 dx (exd dx [(f, v)])) a (exo a C (some dx))) | _ => False) I h) fun us s1 ⟨vs, H1, I1, r1, q⟩ => ⟨I1.kIn, ?_⟩) hst rfl
  match vs, q, r1 with
  | [v], q, r1 =>
  obtain ⟨u, rfl, ru⟩ : ∃ u, us = [u] ∧ RelV v u := by
    cases r1 with
    | cons a b => cases b; exact ⟨_, rfl, a⟩
  exact mk_run (kw := []) S hr hms I1 ru (by show 1 ≤ sizeLine; decide) (fun e => .inl rfl) q
/-- X(f=e) -/
theorem pe_mkEk {x f : Str} {C : Addr} {e : Expr} {te : TE} {p pos kp : Pos} (S : SupE X.prog X.K C f) (hr : Room 1 X.A) (hg : Gl X x) (hm : X.mg x = some (.ref C)) (hms : X.mg "super" = none) (he : PE X e te)
    (hdb : (x == ("__debug__" : Str)) = false) : PE X (.Call (.Name x p) [] [⟨some f, e, kp⟩] pos) (tMkE C f te) := by
  refine ⟨fun pins s σ H Q I h => ?_⟩
  refine wpAny_Call_Name_kw (ld_glob I hg hm ?_ hdb)
  refine PySem.W.callWith_KW0 (h₀ := X.base) I.ok.mod.kin S.kC (by rfl) (thn ((pk_cons he pk_nil).run pos pins s σ H (fun vs H1 => match vs with | [v] => ∀ a dx, H1 a = none → H1 dx = none → dx ≠ a → Q (.ref a) (upd (upd H1 dx (exd dx [(f, v)])) a (exo a C (some dx))) | _ => False) I h) fun us s1 ⟨vs, H1, I1, r1, q⟩ => ⟨I1.kIn, ?_⟩) (by rfl)
  match vs, q, r1 with
  | [v], q, r1 =>
  obtain ⟨u, rfl, ru⟩ : ∃ u, us = [u] ∧ RelV v u := by
    cases r1 with
    | cons a b => cases b; exact ⟨_, rfl, a⟩
  exact mk_run (rest := []) (kw := [(f, u)]) S hr hms I1 ru (by show 0 ≤ sizeLine; decide) (fun e => .inr rfl) q
end
end PI

set_option maxHeartbeats 2000000
/-! PI, part xp: exceptions as data: rules. -/
namespace PI
open PySem L2 PyProof.Rows
/-- X(d): the exception -/
def mkxM (c : Nat) (C : Addr) (f : Str) : List D → M D
  | [d] => if pureB d then M.ret (.exn c C f d) else M.stk
  | _ => M.stk
/-- x.f -/
def xatM (f : Str) : List D → M D
  | [.exn _ _ g d] => if g = f then M.ret d else M.stk
  | _ => M.stk
/-- isinstance(x, ..): tb tells by the class's number -/
def isxM (cls : Nat → Addr) (tb : Nat → Option Bool) : List D → M D
  | [.exn c C _ _] => if C = cls c then M.opt ((tb c).map D.bl) else M.stk
  | _ => M.stk
theorem consN_one {m : M D} {g : List D → M D} : ((consN m (M.ret []) >>= g) : M D) = (m >>= fun d => g [d]) := by
  funext z
  show M.bnd (M.bnd m fun x => M.bnd (M.ret []) fun r => M.ret (x :: r)) g z = M.bnd m (fun d => g [d]) z
  unfold M.bnd
  cases m z <;> rfl
section
variable {X : Cx} {xc : XC} {W : WX}
theorem mkE_read {C : Addr} {c : Nat} {f : Str} {m : Env' → M D} (ex : ExnC X.K C f) : ∀ σ H Q, tE X.K xc W (fun env => consN (m env) (M.ret []) >>= mkxM c C f) σ H Q → tMkE C f (tE X.K xc W m) σ H Q := fun σ H Q h => by
  obtain ⟨w, env, s, rel, q⟩ := h
  have q : Post X.K xc W σ w H Q ((consN (m env) (M.ret []) >>= mkxM c C f) s) := q
  rw [consN_one] at q
  refine (tE_of rel q).imp2 fun v H1 ⟨w1, d, s1, g, rel1, r, p1⟩ => ?_
  intro a dx ha hdx ne
  have p2 : Post X.K xc W σ w1 H1 Q ((if pureB d then M.ret (.exn c C f d) else M.stk) s1) := p1
  clear p1
  by_cases hp : pureB d = true
  · rw [if_pos hp] at p2
    have sm : Same H1 (upd (upd H1 dx (exd dx [(f, v)])) a (exo a C (some dx))) := fun b o e => by
      rw [upd_ne (ne_of_none e ha), upd_ne (ne_of_none e hdx)]; exact e
    exact Post.new p2 rel1.st _ _ sm (.exn c upd_same (by rw [upd_ne ne, upd_same]) ex ((r.pure hp).mono (sext sm)))
  · rw [if_neg hp] at p2; exact p2.elim
theorem pe_xe {e : Expr} {te : TE} {n : Str} {pos : Pos} (he : PE X e te) (hb : attributeBase e n X.env (eval e X.env) = eval e X.env) :
    PE X (.Attribute e n pos) (fun σ H Q => te σ H fun x H1 => ∃ (a C dx : Addr) (fs : List (Str × V)) (v : V), x = .ref a ∧ H1 a = some (exo a C (some dx)) ∧ H1 dx = some (exd dx fs) ∧ XfC X.K C ∧ PySem.W.findIn X.K (.ref C) n = some none ∧ fs.lookup n = some v ∧ Q v H1) := by
  refine ⟨fun pins s σ H Q I h => ?_⟩
  refine attr_of hb (thn (he.run pins s σ H _ I h) fun u s1 hh => ?_)
  obtain ⟨x, H1, I1, rx, a, C, dx, fs, v, ex, ea, ed, T, hno, l, q⟩ := hh
  subst ex
  obtain rfl : u = Value.ref a := rx
  obtain ⟨t1, ha⟩ := exo_at I1.hok ea
  obtain ⟨mA, hns, hr⟩ := exd_at I1.hok ed
  obtain ⟨od, ho, hl⟩ := lookIn_ns hns
  obtain ⟨u, hu, ru⟩ := RelO.some_of (v := v) (o := mA n) (by rw [← l]; exact hr n)
  have J : PySem.W.InstAt s1.heap a ({ cls := .ref C, dict := some dx, data := .fields #[.ref t1, .none, .none, .none, .bool false, .none] } : Obj) C (some od) := ⟨ha, rfl, rfl, ho⟩
  exact HandSPX.exc_get I1.kIn J T.ga T.gg T.exC (PySem.W.findObj_own T.hdC hno rfl (by rw [hl, hu])) (handed_of ru) ⟨v, H1, I1.tok _, ru, q⟩
theorem pd_xat {e : Expr} {n : Str} {pos : Pos} {m : Env' → M D} (he : PE X e (tE X.K xc W m)) (hb : attributeBase e n X.env (eval e X.env) = eval e X.env) : PE X (.Attribute e n pos) (tE X.K xc W fun env => consN (m env) (M.ret []) >>= xatM n) :=
  pimp (pe_xe he hb) fun σ H Q ⟨w, env, s, rel, q⟩ => by
    have q : Post X.K xc W σ w H Q ((consN (m env) (M.ret []) >>= xatM n) s) := q
    rw [consN_one] at q
    refine (tE_of rel q).imp2 fun v H1 ⟨w1, d, s1, g, rel1, r, p1⟩ => ?_
    cases d with
    | exn c C f d =>
      have p2 : Post X.K xc W σ w1 H1 Q ((if f = n then M.ret d else M.stk) s1) := p1
      clear p1
      by_cases hf : f = n
      · rw [if_pos hf] at p2
        subst hf
        have r : Rep X.K H1 v (.exn c C f d) := r
        cases r with
        | exn _ h1 h2 ex rd => exact ⟨_, _, _, _, _, rfl, h1, h2, ex.xf, ex.fld, by simp, Post.new p2 rel1.st _ _ (Same.refl _) rd⟩
      · rw [if_neg hf] at p2; exact p2.elim
    | _ => exact p1.elim
/-! ### isinstance -/
def rIsE (K : PySem.W.Frag) : List V → Hp → VK → Prop := fun xs H Q => ∃ (a C dx : Addr) (c : V) (f : Str) (fs : List (Str × V)) (u : Value) (b : Bool), xs = [.ref a, c] ∧ ClsV c u ∧ H a = some (exo a C (some dx)) ∧ H dx = some (exd dx fs) ∧ ExnC K C f ∧ PySem.W.kitOne K (.ref C) u = some b ∧ Q (.bl b) H
def rIsET (K : PySem.W.Frag) : List V → Hp → VK → Prop := fun xs H Q => ∃ (a C dx tp : Addr) (cs : List V) (f : Str) (fs : List (Str × V)) (us : List Value) (b : Bool), xs = [.ref a, .ref tp] ∧ H tp = some (.tup cs) ∧ Paired ClsV cs us ∧ H a = some (exo a C (some dx)) ∧ H dx = some (exd dx fs) ∧ ExnC K C f ∧ PySem.W.kitAny K (.ref C) us = some b ∧ Q (.bl b) H
theorem kit_exn {pins : List (Addr × Obj)} {σ : L2.St} {H : Hp} {s : Shared} {a C dx : Addr} {f : Str} {fs : List (Str × V)} (I : Inv X pins σ H s) (ea : H a = some (exo a C (some dx))) (ed : H dx = some (exd dx fs)) (T : ExnC X.K C f) : ∃ P : Heap → Prop, PySem.W.KitX X.K (.ref a) (.ref C) P ∧ P s.heap := by
  obtain ⟨t1, ha⟩ := exo_at I.hok ea
  obtain ⟨mA, hns, hr⟩ := exd_at I.hok ed
  obtain ⟨od, ho, hl⟩ := lookIn_ns hns
  have J : PySem.W.InstAt s.heap a ({ cls := .ref C, dict := some dx, data := .fields #[.ref t1, .none, .none, .none, .bool false, .none] } : Obj) C (some od) := ⟨ha, rfl, rfl, ho⟩
  exact ⟨_, PySem.W.kitx_exc T.cl T.xf.ga T.xf.gg T.xf.exC T.ca T.cn T.ct T.cm, J⟩
theorem call_isE : CallR X (.builtin "isinstance") (rIsE X.K) := by
  intro pins s σ H xs us Q I r h
  obtain ⟨a, C, dx, c, f, fs, u, b, rfl, k, ea, ed, T, e, q⟩ := h
  obtain ⟨u1, u2, rfl, r1, r2⟩ := vals2 r
  cases (show u1 = Value.ref a from r1)
  have e2 := k.eq r2
  subst e2
  obtain ⟨P, Z, p⟩ := kit_exn I ea ed T
  exact PySem.W.kia_one Z I.kIn p e (fun z => nomatch z) fun tk => ⟨.bl b, H, I.tok tk, rfl, q⟩
theorem call_isET : CallR X (.builtin "isinstance") (rIsET X.K) := by
  intro pins s σ H xs us Q I r h
  obtain ⟨a, C, dx, tp, cs, f, fs, ws, b, rfl, hT, k, ea, ed, T, e, q⟩ := h
  obtain ⟨u1, u2, rfl, r1, r2⟩ := vals2 r
  cases (show u1 = Value.ref a from r1)
  cases (show u2 = Value.ref tp from r2)
  obtain ⟨P, Z, p⟩ := kit_exn I ea ed T
  obtain ⟨_, its, rv, o, h1, h2, n, h3⟩ := (show ObjOk X.prog X.w H s.heap tp (.tup cs) from I.hok tp _ hT)
  have e3 := ClsV.all k rv
  subst e3
  obtain ⟨oc, od, dt, sl⟩ := o
  simp only at h2 h3
  subst h2 h3
  exact PySem.W.kia_tup Z I.kIn p h1 e (fun z => nomatch z) fun tk => ⟨.bl b, H, I.tok tk, rfl, q⟩
def JCl (X : Cx) (e : Expr) (u : Value) : Prop := ∃ c, PE X e (tC c) ∧ ClsV c u
def JCls (X : Cx) (es : List Expr) (us : List Value) : Prop := ∃ cs, PA X es (fun _ H Q => Q cs H) ∧ Paired ClsV cs us
theorem jcl_own {x : Str} {C : Addr} {pos : Pos} (hm : X.mg x = some (.ref C)) (hg : Gl X x := by rfl) (hd : (x == ("__debug__" : Str)) = false := by decide) : JCl X (.Name x pos) (.ref C) := ⟨.ref C, pe_glob hg hm rfl hd, .own C⟩
theorem jcl_ty {x : Str} {n : String} {pos : Pos} (hm : X.mg x = none) (hv : bootBuiltins x = some (.type n) := by decide +kernel) (hg : Gl X x := by rfl) (hn : x ≠ "__name__" := by decide) (hd : (x == ("__debug__" : Str)) = false := by decide) : JCl X (.Name x pos) (.type n) := ⟨.ty n, pe_bltn hg hm hv rfl hn hd, .ty n⟩
theorem jcls_nil : JCls X [] [] := ⟨[], pa_nil, .nil⟩
theorem jcls_cons {e : Expr} {es : List Expr} {u : Value} {us : List Value} (h : JCl X e u) (hr : JCls X es us) (hs : starEach (e :: es) X.env = (false, eval e X.env) :: starEach es X.env := by rfl) : JCls X (e :: es) (u :: us) := by
  obtain ⟨c, h1, h2⟩ := h
  obtain ⟨cs, h3, h4⟩ := hr
  exact ⟨c :: cs, paimp (pa_cons h1 h3 hs) fun σ H Q q => q, .cons h2 h4⟩
/-- isinstance with such classes, as the table has it -/
def IsX (K : PySem.W.Frag) (xc : XC) (us : List Value) (g : List D → M D) : Prop := ∃ tb, g = isxM xc.cls tb ∧ ∀ c b, tb c = some b → PySem.W.kitAny K (.ref (xc.cls c)) us = some b
theorem kitAny_one {K : PySem.W.Frag} {t u : Value} {b : Bool} (h : PySem.W.kitAny K t [u] = some b) : PySem.W.kitOne K t u = some b := by
  unfold PySem.W.kitAny at h
  cases e : PySem.W.kitOne K t u with
  | none => rw [e] at h; cases h
  | some v =>
    rw [e] at h
    cases v with
    | true => exact h
    | false => exact h
variable {Γ : Fns} {a : Expr} {ca : C} {k : Nat} {p pos : Pos}
theorem j_isx (id : Nat) {e : Expr} {u : Value} (F : IsX X.K xc [u] (Γ id)) (hmi : X.mg "isinstance" = none) (ha : JE X xc W Γ a ca) (hc : JCl X e u) (hg : Gl X "isinstance" := by rfl)
    (he : starEach [a, e] X.env = (false, eval a X.env) :: starEach [e] X.env := by rfl) (he2 : starEach [e] X.env = [(false, eval e X.env)] := by rfl) : JE X xc W Γ (.Call (.Name "isinstance" p) [a, e] [] pos) (.call id [ca]) := by
  obtain ⟨tb, eg, hk⟩ := F
  obtain ⟨c, h1, h2⟩ := hc
  have hp : (backTo pos (starEach [e] X.env)).any (·.1) = false := by rw [he2]; rfl
  refine pimp (pe_callB call_isE hg hmi (by decide +kernel) (pa_cons ha (pa_cons h1 pa_nil he2) he) (by decide) (by decide) he hp) fun σ H Q h => ?_
  obtain ⟨w, env, s, rel, q⟩ := h
  have q : Post X.K xc W σ w H Q ((consN (evC Γ ca env) (M.ret []) >>= Γ id) s) := q
  rw [eg, consN_one] at q
  refine (tE_of rel q).imp2 fun v H1 ⟨w1, d, s1, g, rel1, r, p1⟩ => ?_
  cases d with
  | exn n C f d =>
    have p2 : Post X.K xc W σ w1 H1 Q ((if C = xc.cls n then M.opt ((tb n).map D.bl) else M.stk) s1) := p1
    clear p1
    by_cases hC : C = xc.cls n
    · rw [if_pos hC] at p2
      subst hC
      have r : Rep X.K H1 v (.exn n (xc.cls n) f d) := r
      cases r with
      | exn _ g1 g2 ex rd =>
        cases et : tb n with
        | none => rw [et] at p2; exact p2.elim
        | some b =>
          rw [et] at p2
          exact ⟨_, _, _, _, _, _, _, b, rfl, h2, g1, g2, ex, kitAny_one (hk n b et), Post.new p2 rel1.st _ _ (Same.refl _) (.bl b)⟩
    · rw [if_neg hC] at p2; exact p2.elim
  | _ => exact p1.elim
theorem j_isxT (id : Nat) {es : List Expr} {us : List Value} {kt : Nat} {pt : Pos} (F : IsX X.K xc us (Γ id)) (hmi : X.mg "isinstance" = none) (ha : JE X xc W Γ a ca) (hc : JCls X es us) (hl : us.length ≤ 20 := by exact Nat.le_of_ble_eq_true rfl) (hg : Gl X "isinstance" := by rfl)
    (he : starEach [a, .Tuple es kt pt] X.env = (false, eval a X.env) :: starEach [.Tuple es kt pt] X.env := by rfl) : JE X xc W Γ (.Call (.Name "isinstance" p) [a, .Tuple es kt pt] [] pos) (.call id [ca]) := by
  obtain ⟨tb, eg, hk⟩ := F
  obtain ⟨cs, h1, h2⟩ := hc
  have he2 : starEach [.Tuple es kt pt] X.env = [(false, eval (.Tuple es kt pt) X.env)] := rfl
  have hp : (backTo pos (starEach [.Tuple es kt pt] X.env)).any (·.1) = false := by rw [he2]; rfl
  have hl2 : cs.length ≤ sizeLine := by rw [h2.length, sizeLine_eq]; omega
  refine pimp (pe_callB call_isET hg hmi (by decide +kernel) (pa_cons ha (pa_cons (pe_tup h1) pa_nil he2) he) (by decide) (by decide) he hp) fun σ H Q h => ?_
  obtain ⟨w, env, s, rel, q⟩ := h
  have q : Post X.K xc W σ w H Q ((consN (evC Γ ca env) (M.ret []) >>= Γ id) s) := q
  rw [eg, consN_one] at q
  refine (tE_of rel q).imp2 fun v H1 ⟨w1, d, s1, g, rel1, r, p1⟩ => ?_
  refine ⟨hl2, fun tp hq => ?_⟩
  have sm : Same H1 (upd H1 tp (.tup cs)) := snew hq
  cases d with
  | exn n C f d =>
    have p2 : Post X.K xc W σ w1 H1 Q ((if C = xc.cls n then M.opt ((tb n).map D.bl) else M.stk) s1) := p1
    clear p1
    by_cases hC : C = xc.cls n
    · rw [if_pos hC] at p2
      subst hC
      have r : Rep X.K H1 v (.exn n (xc.cls n) f d) := r
      cases r with
      | exn _ g1 g2 ex rd =>
        cases et : tb n with
        | none => rw [et] at p2; exact p2.elim
        | some b =>
          rw [et] at p2
          exact ⟨_, _, _, tp, _, _, _, _, b, rfl, upd_same, h2, sm _ _ g1, sm _ _ g2, ex, hk n b et, Post.new p2 rel1.st _ _ sm (.bl b)⟩
    · rw [if_neg hC] at p2; exact p2.elim
  | _ => exact p1.elim
/-- an exception's class, as the table has it -/
def MkE (P : Program) (K : PySem.W.Frag) (mg : Str → Option Value) (xc : XC) (x f : Str) (g : List D → M D) : Prop := ∃ c, g = mkxM c (xc.cls c) f ∧ SupE P K (xc.cls c) f ∧ mg x = some (.ref (xc.cls c))
theorem j_mkE (id : Nat) {x f : Str} (F : MkE X.prog X.K X.mg xc x f (Γ id)) (ok : Okx X k) (hms : X.mg "super" = none) (ha : JE X xc W Γ a ca) (hg : Gl X x := by rfl) (hdb : (x == ("__debug__" : Str)) = false := by decide) (hst : starEach [a] X.env = [(false, eval a X.env)] := by rfl) : JE X xc W Γ (.Call (.Name x p) [a] [] pos) (.call id [ca]) := by
  obtain ⟨c, eg, S, hm⟩ := F
  refine pimp (pe_mkE S (ok.hr.mono (by omega)) hg hm hms ha hdb hst) fun σ H Q h => mkE_read (c := c) S.ex σ H Q ?_
  have h : tE X.K xc W (fun env => consN (evC Γ ca env) (M.ret []) >>= Γ id) σ H Q := h
  rw [eg] at h
  exact h
theorem j_mkEk (id : Nat) {x f : Str} {kp : Pos} (F : MkE X.prog X.K X.mg xc x f (Γ id)) (ok : Okx X k) (hms : X.mg "super" = none) (ha : JE X xc W Γ a ca) (hg : Gl X x := by rfl) (hdb : (x == ("__debug__" : Str)) = false := by decide) : JE X xc W Γ (.Call (.Name x p) [] [⟨some f, a, kp⟩] pos) (.call id [ca]) := by
  obtain ⟨c, eg, S, hm⟩ := F
  refine pimp (pe_mkEk S (ok.hr.mono (by omega)) hg hm hms ha hdb) fun σ H Q h => mkE_read (c := c) S.ex σ H Q ?_
  have h : tE X.K xc W (fun env => consN (evC Γ ca env) (M.ret []) >>= Γ id) σ H Q := h
  rw [eg] at h
  exact h
theorem j_xat (id : Nat) {f : Str} (hΓ : Γ id = xatM f) (ha : JE X xc W Γ a ca) (hb : attributeBase a f X.env (eval a X.env) = eval a X.env := by rfl) : JE X xc W Γ (.Attribute a f pos) (.call id [ca]) :=
  pimp (pd_xat ha hb) fun σ H Q h => by
    have h : tE X.K xc W (fun env => consN (evC Γ ca env) (M.ret []) >>= Γ id) σ H Q := h
    rw [hΓ] at h
    exact h
end
end PI

set_option maxHeartbeats 2000000
/-! PI, part xq: own exceptions' classes, what the top has left of them; which is under which. -/
namespace PI
open PySem L2 PyProof.Rows
/-- the facts about an own exception's class that lies at C; bm: the classes above it -/
structure XnTxt (P : Program) (K : PySem.W.Frag) (mg : Str → Option Value) (x f : Str) (C : Addr) (bm : List Value) : Prop where
  sup : SupE P K C f
  at_ : mg x = some (.ref C)
  mro : ∃ cd, PySem.W.clsIn K C = some cd ∧ cd.mro = .ref C :: bm
  typ : PySem.W.typeIn K (.ref C) = some (.type "type")
theorem xn_mk {P : Program} {K : PySem.W.Frag} {h : Heap} {mg : Str → Option Value} {x f : Str} {C : Addr} (X : K.In h) (G : h.Ns mainGlobals mg)
    {B newId initId : String} {bmB : List Value} (bx : BaseX B newId initId bmB)
    {nm q : Str} {N : Addr} {bs bm : List Value} {sn : List Str} {sub : List Value} {ab : Bool} {col : Option Bool} {dd : Option Addr} {m0 m1 m2 m3 m5 : Option Value}
    {fI cc cda : Addr} {qual msg file : Str} {params : Arguments} {j : Nat} {p0 p1 p2 p3 p4 p5 p6 p7 p8 p9 : Pos} {scope : Scope} {kV doc pm ct oc ccl cl : Value} {an od cdd cld : Option Addr} {osl ccs csl : Array (Option Value)} {vs : Array Value} {tf : Tok} {ar : Arg}
    (aC : PySem.W.nsIn K mainGlobals x = some (some (.ref C)))
    (xL : K.lookup C = some (excClassObj nm q C N bs bm true sn sub ab col dd m0 m1 m2 m3 m5 newId))
    (a1 : PySem.W.findIn K (.ref C) "__init__" = some (some (.ref fI)))
    (l1 : K.lookup fI = some ⟨oc, od, .func (PySem.W.ksFn "__init__" qual params (initB msg f f j p0 p1 p2 p3 p4 p5 p6 p7 p8 p9) scope .none kV doc pm an (.ref cda) ct cc), osl⟩)
    (l2 : K.lookup cda = some ⟨ccl, cdd, .fields vs, ccs⟩)
    (l3 : K.lookup cc = some ⟨cl, cld, .cell (some (.ref C)), csl⟩)
    (t1 : PySem.W.typeIn K (.ref fI) = some (.type "function")) (c1 : PySem.W.codeIn K (.ref cda) qual = true)
    (sa : PySem.W.findIn K (.ref C) "__setattr__" = some (some (.builtin "object.__setattr__"))) (ga : PySem.W.findIn K (.ref C) "__getattribute__" = some (some (.builtin "BaseException.__getattribute__"))) (gg : PySem.W.findIn K (.ref C) "__getattr__" = some none) (nb : PySem.W.findIn K (.ref C) f = some none)
    (gc : PySem.W.findIn K (.ref C) "__class__" = some (some (.builtin "object.__class__"))) (gn : PySem.W.specialIn K (.builtin "object.__class__") "__get__" = some (some (.builtin "getset_descriptor.__get__"))) (gt : PySem.W.takesIn K (.builtin "object.__class__") = some true) (gm : PySem.W.mroIn K C (.type "object") = some true)
    (kC : PySem.W.keepIn K (.ref C) = true) (eC : PySem.W.subIn K (.ref C) (.type "BaseException") = some true) (tC : PySem.W.typeIn K (.ref C) = some (.type "type")) (hC : PySem.W.hasDictIn K C = true)
    (ve : PySem.W.subIn K (.ref C) (.type B) = some true) (mr : PySem.W.mroIn K C (.ref C) = some true) (oq : PySem.W.nsIn K cStatics "thirdparty.any" = some none)
    (su : PySem.W.ks_superIn K C C "__init__" = some (some (.builtin initId)))
    (rv : refsT bmB bm = true) (e6 : vs[2]? = some (.str file tf)) (e7 : ((P.main.file : Str) == file) = true) (tp : (P.main.scope.names.lookup ("super" : Str)).isSome = false)
    (e9 : (params.posonlyargs ++ params.args).head? = some ar) (e10 : ar.arg = ("self" : Str))
    (e11 : ∀ a u : Value, bindArgs (PySem.W.ksFn "__init__" qual params (initB msg f f j p0 p1 p2 p3 p4 p5 p6 p7 p8 p9) scope .none kV doc pm an (.ref cda) ct cc) ⟨[a, u], []⟩ = pure [(("self" : Str), a), (f, u)])
    (e11k : ∀ a u : Value, bindArgs (PySem.W.ksFn "__init__" qual params (initB msg f f j p0 p1 p2 p3 p4 p5 p6 p7 p8 p9) scope .none kV doc pm an (.ref cda) ct cc) ⟨[a], [(f, u)]⟩ = pure [(("self" : Str), a), (f, u)])
    (e12 : scope.names.lookup ("super" : Str) = some .globalImplicit) (e13 : scope.names.lookup ("__class__" : Str) = some .free) (e14 : scope.names.lookup ("self" : Str) = some .local) (e15 : scope.names.lookup f = some .local)
    (e16 : (scope.names.all fun x => decide (x.2 ≠ .cell)) = true) (e17 : scope.kind = .function) (e18 : scope.isCoroutine = false) (e19 : scope.isGenerator = false) (e20 : (f == ("self" : Str)) = false) (e21 : (f == ("__debug__" : Str)) = false) (e22 : (p2.endLine == p4.line) = true) : XnTxt P K mg x f C bm := by
  have hcl : PySem.W.clsIn K C = some { name := nm, bases := bs, mro := .ref C :: bm, ns := N, qualname := q, hasDict := true, slotNames := sn, subclasses := sub, abstract := ab, collection := col, hasDel := false } := by unfold PySem.W.clsIn; rw [xL] <;> rfl
  exact { sup := { cls := (⟨B, newId, initId, bmB, nm, q, N, bs, bm, sn, sub, ab, col, dd, m0, m1, m2, m3, m5, bx, xL, rv, su, ve⟩),
                       ini := ⟨fI, cc, cda, qual, params, msg, j, fun i => match i with | 0 => p0 | 1 => p1 | 2 => p2 | 3 => p3 | 4 => p4 | 5 => p5 | 6 => p6 | 7 => p7 | 8 => p8 | _ => p9, scope, kV, doc, pm, ct, oc, an, od, osl, vs, file, tf, ccl, cl, cdd, cld, ccs, csl, ar,
                         a1, t1, l1, c1, l2, e6, e7, l3, e9, e10, e11, e11k, e12, e13, e14, e15, (fun x hx => of_decide_eq_true (List.all_eq_true.mp e16 x hx)), e17, e18, e19, beq_eq_false_iff_ne.mp e20, e21, e22⟩,
                       sa := sa, kC := kC, opq := oq, sub := mr, ex := ⟨⟨ga, gg, eC, hC⟩, nb, by rw [hcl]; rfl, gc, gn, gt, gm⟩, top := tp },
          at_ := PySem.W.mg_of X G aC, mro := ⟨_, hcl, rfl⟩, typ := tC }
/-- classes that are asked for -/
inductive Tg where
  | own (i : Nat) | ve | le | oe | ke | ie
  deriving DecidableEq
def tgV (cls : Nat → Addr) : Tg → Value
  | .own i => .ref (cls i)
  | .ve => .type "ValueError"
  | .le => .type "LookupError"
  | .oe => .type "OverflowError"
  | .ke => .type "KeyError"
  | .ie => .type "IndexError"
def tgB : Tg → Nat → Bool
  | .own i, c => c == i || (i == 14 && decide (c < 12))
  | .ve, c => decide (c < 12)
  | .le, c => c == 12
  | .oe, c => c == 13
  | .ke, _ => false
  | .ie, _ => false
def tbs (ts : List Tg) (c : Nat) : Option Bool := if c < 14 then some (ts.any fun t => tgB t c) else none
def bmOf (M : Addr) (c : Nat) : List Value := if c < 12 then [.ref M, .type "ValueError", .type "Exception", .type "BaseException", .type "object"] else if c = 12 then [.type "LookupError", .type "Exception", .type "BaseException", .type "object"] else [.type "OverflowError", .type "ArithmeticError", .type "Exception", .type "BaseException", .type "object"]
/-- the classes 0 .. 13 and 14, MapError -/
structure Xns (K : PySem.W.Frag) (cls : Nat → Addr) : Prop where
  one : ∀ c, c < 14 → ∃ cd, PySem.W.clsIn K (cls c) = some cd ∧ cd.mro = .ref (cls c) :: bmOf (cls 14) c
  typ : ∀ c, c < 15 → (PySem.W.clsIn K (cls c)).isSome = true ∧ PySem.W.typeIn K (.ref (cls c)) = some (.type "type")
  inj : ∀ c d, c < 15 → d < 15 → cls c = cls d → c = d
def tgOk : Tg → Bool
  | .own i => decide (i < 15)
  | _ => true
theorem mro_at {K : PySem.W.Frag} {C : Addr} {cd : ClassData} {c : Value} {r : List Value} (h : PySem.W.clsIn K C = some cd) (hm : cd.mro = .ref C :: r) : PySem.W.subIn K (.ref C) c = some ((Value.ref C :: r).contains c) := by
  show PySem.W.mroIn K C c = _
  unfold PySem.W.mroIn
  rw [h, Option.bind_some, hm]
  rfl
theorem has_own {cls : Nat → Addr} {c i : Nat} (hc : c < 14) (hi : i < 15) (inj : ∀ c d, c < 15 → d < 15 → cls c = cls d → c = d) : (Value.ref (cls c) :: bmOf (cls 14) c).contains (.ref (cls i)) = (c == i || (i == 14 && decide (c < 12))) := by
  have e1 : (Value.ref (cls i) == Value.ref (cls c)) = (c == i) := by
    rw [Bool.eq_iff_iff, beq_iff_eq, beq_iff_eq]
    exact ⟨fun h => (inj i c hi (by omega) (Value.ref.inj h)).symm, fun h => by rw [h]⟩
  have e2 : (Value.ref (cls i) == Value.ref (cls 14)) = (i == 14) := by
    rw [Bool.eq_iff_iff, beq_iff_eq, beq_iff_eq]
    exact ⟨fun h => inj i 14 hi (by omega) (Value.ref.inj h), fun h => by rw [h]⟩
  have nt : ∀ T : String, (Value.ref (cls i) == Value.type T) = false := fun T => beq_eq_false_iff_ne.mpr (fun z => nomatch z)
  rw [List.contains_cons, e1]
  congr 1
  unfold bmOf
  by_cases h : c < 12
  · rw [if_pos h, List.contains_cons, e2]
    simp [List.contains_cons, nt, h]
  · rw [if_neg h]
    split <;> simp [List.contains_cons, nt, h]
theorem has_ty {cls : Nat → Addr} {c : Nat} {t : Tg} (hc : c < 14) (ht : ∀ i, t ≠ .own i) : (Value.ref (cls c) :: bmOf (cls 14) c).contains (tgV cls t) = tgB t c := by
  have nt : ∀ (T : String) (a : Addr), (Value.type T == Value.ref a) = false := fun T a => beq_eq_false_iff_ne.mpr (fun z => nomatch z)
  have h3 : c < 12 ∨ c = 12 ∨ c = 13 := by omega
  cases t with
  | own i => exact absurd rfl (ht i)
  | _ =>
    simp only [tgV, tgB]
    rw [List.contains_cons, nt, Bool.false_or]
    unfold bmOf
    rcases h3 with h | rfl | rfl
    · rw [if_pos h, List.contains_cons, nt, Bool.false_or]
      first
        | (rw [decide_eq_true h]; decide +kernel)
        | (rw [show (c == 12) = false from beq_eq_false_iff_ne.mpr (by omega)]; decide +kernel)
        | (rw [show (c == 13) = false from beq_eq_false_iff_ne.mpr (by omega)]; decide +kernel)
        | rfl
        | decide +kernel +revert
    · first | rfl | decide +kernel +revert
    · first | rfl | decide +kernel +revert
theorem kit_ty' {K : PySem.W.Frag} {C : Addr} {cd : ClassData} {r : List Value} {n : String} {b : Bool} (h : PySem.W.clsIn K C = some cd) (hm : cd.mro = .ref C :: r) (hk : PySem.W.kitMeta n = true) (e : (Value.ref C :: r).contains (.type n) = b) : PySem.W.kitOne K (.ref C) (.type n) = some b := by
  unfold PySem.W.kitOne
  rw [if_neg (by rw [show (Value.ref C == Value.type n) = false from beq_eq_false_iff_ne.mpr (fun z => nomatch z)]; exact Bool.false_ne_true)]
  show (if PySem.W.kitMeta n = true then PySem.W.subIn K (.ref C) (.type n) else none) = _
  rw [if_pos hk, mro_at h hm, e]
theorem kit_tg {K : PySem.W.Frag} {cls : Nat → Addr} (T : Xns K cls) {c : Nat} (hc : c < 14) {t : Tg} (ht : tgOk t = true) : PySem.W.kitOne K (.ref (cls c)) (tgV cls t) = some (tgB t c) := by
  obtain ⟨cd, h1, h2⟩ := T.one c hc
  cases t with
  | own i =>
    unfold PySem.W.kitOne
    have hi : i < 15 := of_decide_eq_true ht
    have e := has_own (cls := cls) hc hi T.inj
    by_cases hq : (Value.ref (cls c) == tgV cls (.own i)) = true
    · rw [if_pos hq]
      have e1 : Value.ref (cls c) = Value.ref (cls i) := beq_iff_eq.mp hq
      have := T.inj c i (by omega) hi (Value.ref.inj e1)
      subst this
      show _ = some (c == c || _)
      rw [beq_self_eq_true, Bool.true_or]
    · rw [if_neg hq]
      obtain ⟨g1, g2⟩ := T.typ i hi
      show (if ((PySem.W.clsIn K (cls i)).isSome && PySem.W.typeIn K (.ref (cls i)) == some (.type "type")) = true then PySem.W.subIn K (.ref (cls c)) (.ref (cls i)) else none) = _
      rw [if_pos (by rw [g1, g2]; rfl), mro_at h1 h2, e]
      rfl
  | ve => exact kit_ty' h1 h2 (by decide +kernel) (has_ty (t := .ve) hc fun i z => by cases z)
  | le => exact kit_ty' h1 h2 (by decide +kernel) (has_ty (t := .le) hc fun i z => by cases z)
  | oe => exact kit_ty' h1 h2 (by decide +kernel) (has_ty (t := .oe) hc fun i z => by cases z)
  | ke => exact kit_ty' h1 h2 (by decide +kernel) (has_ty (t := .ke) hc fun i z => by cases z)
  | ie => exact kit_ty' h1 h2 (by decide +kernel) (has_ty (t := .ie) hc fun i z => by cases z)
theorem kit_tbs {K : PySem.W.Frag} {cls : Nat → Addr} (T : Xns K cls) {c : Nat} (hc : c < 14) : ∀ {ts : List Tg}, ts.all tgOk = true → PySem.W.kitAny K (.ref (cls c)) (ts.map (tgV cls)) = some (ts.any fun t => tgB t c)
  | [], _ => rfl
  | t :: ts, h => by
    rw [List.all_cons, Bool.and_eq_true] at h
    show PySem.W.kitAny K (.ref (cls c)) (tgV cls t :: ts.map (tgV cls)) = _
    unfold PySem.W.kitAny
    rw [kit_tg T hc h.1, List.any_cons]
    cases tgB t c with
    | true => rfl
    | false => exact kit_tbs T hc h.2
theorem isx_mk {K : PySem.W.Frag} {xc : XC} (T : Xns K xc.cls) (ts : List Tg) (h : ts.all tgOk = true) : IsX K xc (ts.map (tgV xc.cls)) (isxM xc.cls (tbs ts)) := by
  refine ⟨tbs ts, rfl, fun c b e => ?_⟩
  unfold tbs at e
  by_cases hc : c < 14
  · rw [if_pos hc] at e
    cases e
    exact kit_tbs T hc h
  · rw [if_neg hc] at e; cases e
end PI

set_option maxHeartbeats 1000000
/-! PI, part p: sizes; what has a text. -/
namespace PI
open PySem L2 PyProof.Rows
mutual
def fit (B : Nat) : D → Bool
  | .non => true
  | .bl _ => true
  | .int i => decide (i.natAbs < B)
  | .str x => x.cps.all (· < 0x110000)
  | .tup xs => fits B xs
  | .lst xs => fits B xs
  | .dct [] [] => true
  | _ => false
def fits (B : Nat) : List D → Bool
  | [] => true
  | x :: xs => fit B x && fits B xs
end
mutual
/-- a bound of a thing's text -/
def wt : D → Nat
  | .str x => 10 * x.length + 2
  | .tup xs => wts xs + 4
  | .lst xs => wts xs + 4
  | .int _ => 50
  | _ => 6
def wts : List D → Nat
  | [] => 0
  | x :: xs => wt x + 2 + wts xs
end
mutual
def dp : D → Nat
  | .tup xs => dps xs + 1
  | .lst xs => dps xs + 1
  | .dct _ _ => 1
  | _ => 0
def dps : List D → Nat
  | [] => 0
  | x :: xs => max (dp x) (dps xs)
end
theorem textFrom_le : ∀ (ts : List Str) (k : Nat) (acc : Str), (textFrom k acc ts).length ≤ acc.length + piled ts
  | [], k, acc => by show acc.length ≤ acc.length + 0; omega
  | t :: r, k, acc => by
    have ih := textFrom_le r (k + 1) (acc ++ (if k > 0 then ", " else "" : String) ++ t)
    have e : (acc ++ (if k > 0 then ", " else "" : String) ++ t).length ≤ acc.length + 2 + t.length := by
      rw [strLen_append, strLen_append]
      split
      · show acc.length + 2 + t.length ≤ _; omega
      · show acc.length + 0 + t.length ≤ _; omega
    rw [piled_cons]
    show (textFrom (k + 1) _ r).length ≤ _
    omega
theorem listText_le (ts : List Str) : (listText ts).length ≤ piled ts + 2 := by
  have := textFrom_le ts 0 "["
  unfold listText
  rw [strLen_append]
  have e1 : ((("[" : String) : Str)).length = 1 := rfl
  have e2 : ((("]" : String) : Str)).length = 1 := rfl
  omega
theorem tupleText_le (ts : List Str) : (tupleText ts).length ≤ piled ts + 4 := by
  unfold tupleText
  rw [strLen_append, strLen_append]
  have e1 : ((("(" : String) : Str)).length = 1 := rfl
  have e3 : (((if ts.length == 1 then ",)" else ")" : String) : Str)).length ≤ 2 := by split <;> decide
  cases ts with
  | nil => simp only [Str.join]; show 1 + 0 + _ ≤ _; omega
  | cons t r => have := join_length_add (t :: r) (by simp); omega
mutual
theorem shown_le {B : Nat} (hB : B ≤ 10 ^ 40) : ∀ d : D, fit B d = true → (toPyR d).shown.length ≤ wt d
  | .non, _ => by decide
  | .bl b, _ => by cases b <;> decide
  | .int i, h => by
    have h' : i.natAbs < 10 ^ 40 := Nat.lt_of_lt_of_le (of_decide_eq_true h) hB
    show (Str.ofString (toString i)).length ≤ 50
    have q := int_text_length_le10 (a := i) (k := 40) (by decide) h'
    have e : (Str.ofString (toString i)).length = (toString i).length := by rw [PySem.ofString_length]
    omega
  | .str x, h => by
    have h' : x.cps.all (· < 0x110000) = true := h
    refine PySem.StrLaws.reprText_len x fun c hc => ?_
    have := Array.all_eq_true_iff_forall_mem.mp h' c (Array.mem_toList_iff.mp hc)
    have h2 : c < 0x110000 := of_decide_eq_true this
    have : (0x110000 : Nat) < 16 ^ 8 := by decide
    omega
  | .tup xs, h => by
    have := shownAll_le hB xs h
    have q := tupleText_le (PyData.shownAll (toPyRs xs))
    show (tupleText (PyData.shownAll (toPyRs xs))).length ≤ wts xs + 4
    omega
  | .lst xs, h => by
    have := shownAll_le hB xs h
    have q := listText_le (PyData.shownAll (toPyRs xs))
    show (listText (PyData.shownAll (toPyRs xs))).length ≤ wts xs + 4
    omega
  | .dct [] [], _ => by decide
  | .dct (_ :: _) _, h => by cases h
  | .dct [] (_ :: _), h => by cases h
  | .obj _ _ _, h => by cases h
  | .exn _ _ _ _, h => by cases h
  | .own _, h => by cases h
  | .drw, h => by cases h
theorem shownAll_le {B : Nat} (hB : B ≤ 10 ^ 40) : ∀ ds : List D, fits B ds = true → piled (PyData.shownAll (toPyRs ds)) ≤ wts ds
  | [], _ => by decide
  | d :: ds, h => by
    have h' : (fit B d && fits B ds) = true := h
    obtain ⟨h1, h2⟩ := Bool.and_eq_true_iff.mp h'
    have q1 := shown_le hB d h1
    have q2 := shownAll_le hB ds h2
    show piled ((toPyR d).shown :: PyData.shownAll (toPyRs ds)) ≤ wt d + 2 + wts ds
    rw [piled_cons]
    omega
end
mutual
theorem showable_of {B : Nat} (hB : B ≤ 10 ^ 40) : ∀ d : D, fit B d = true → plainR d = true ∧ (toPyR d).showable = true ∧ (toPyR d).depth ≤ dp d
  | .non, _ => by decide
  | .bl b, _ => ⟨rfl, rfl, Nat.le_refl _⟩
  | .int i, h => by
    have h' : i.natAbs < 10 ^ 40 := Nat.lt_of_lt_of_le (of_decide_eq_true h) hB
    refine ⟨rfl, ?_, Nat.le_refl _⟩
    show decide (i.natAbs.log2 < 1920) = true
    refine decide_eq_true ?_
    by_cases hz : i.natAbs = 0
    · rw [hz]; decide
    · have := (Nat.log2_lt hz (k := 1920)).mpr (Nat.lt_of_lt_of_le h' (Nat.le_trans (show (10 : Nat) ^ 40 ≤ 2 ^ 200 by decide) (Nat.pow_le_pow_right (n := 2) (by decide) (by omega))))
      exact this
  | .str x, _ => ⟨rfl, rfl, Nat.le_refl _⟩
  | .tup xs, h => by
    obtain ⟨h1, h2, h3⟩ := showables_of hB xs h
    exact ⟨h1, h2, Nat.succ_le_succ h3⟩
  | .lst xs, h => by
    obtain ⟨h1, h2, h3⟩ := showables_of hB xs h
    exact ⟨h1, h2, Nat.succ_le_succ h3⟩
  | .dct [] [], _ => by decide
  | .dct (_ :: _) _, h => by cases h
  | .dct [] (_ :: _), h => by cases h
  | .obj _ _ _, h => by cases h
  | .exn _ _ _ _, h => by cases h
  | .own _, h => by cases h
  | .drw, h => by cases h
theorem showables_of {B : Nat} (hB : B ≤ 10 ^ 40) : ∀ ds : List D, fits B ds = true → plainRs ds = true ∧ PyData.showableAll (toPyRs ds) = true ∧ PyData.depthAll (toPyRs ds) ≤ dps ds
  | [], _ => by decide
  | d :: ds, h => by
    have h' : (fit B d && fits B ds) = true := h
    obtain ⟨h1, h2⟩ := Bool.and_eq_true_iff.mp h'
    obtain ⟨a1, a2, a3⟩ := showable_of hB d h1
    obtain ⟨b1, b2, b3⟩ := showables_of hB ds h2
    refine ⟨?_, ?_, ?_⟩
    · show (plainR d && plainRs ds) = true
      rw [a1, b1]; rfl
    · show ((toPyR d).showable && PyData.showableAll (toPyRs ds)) = true
      rw [a2, b2]; rfl
    · show max (toPyR d).depth (PyData.depthAll (toPyRs ds)) ≤ max (dp d) (dps ds)
      omega
end
mutual
theorem fit_mono {B B' : Nat} (h : B ≤ B') : ∀ d : D, fit B d = true → fit B' d = true
  | .non, _ => rfl
  | .bl _, _ => rfl
  | .int i, e => decide_eq_true (Nat.lt_of_lt_of_le (of_decide_eq_true e) h)
  | .str _, e => e
  | .tup xs, e => fits_mono h xs e
  | .lst xs, e => fits_mono h xs e
  | .dct [] [], _ => rfl
  | .dct (_ :: _) _, h => by cases h
  | .dct [] (_ :: _), h => by cases h
  | .obj _ _ _, h => by cases h
  | .exn _ _ _ _, h => by cases h
  | .own _, h => by cases h
  | .drw, h => by cases h
theorem fits_mono {B B' : Nat} (h : B ≤ B') : ∀ ds : List D, fits B ds = true → fits B' ds = true
  | [], _ => rfl
  | d :: ds, e => by
    have e' : (fit B d && fits B ds) = true := e
    obtain ⟨h1, h2⟩ := Bool.and_eq_true_iff.mp e'
    show (fit B' d && fits B' ds) = true
    rw [fit_mono h d h1, fits_mono h ds h2]
    rfl
end
theorem fits_iff {B : Nat} : ∀ {ds : List D}, fits B ds = true ↔ ∀ d ∈ ds, fit B d = true
  | [] => ⟨(fun _ _ h => nomatch h), fun _ => rfl⟩
  | d :: ds => by
    show (fit B d && fits B ds) = true ↔ _
    rw [Bool.and_eq_true_iff, fits_iff (ds := ds)]
    simp
theorem fits_append {B : Nat} {xs ys : List D} : fits B (xs ++ ys) = true ↔ fits B xs = true ∧ fits B ys = true := by
  simp only [fits_iff, List.mem_append]
  exact ⟨fun h => ⟨fun d hd => h d (.inl hd), fun d hd => h d (.inr hd)⟩, fun h d hd => hd.elim (h.1 d) (h.2 d)⟩
theorem wts_append : ∀ {xs ys : List D}, wts (xs ++ ys) = wts xs + wts ys
  | [], ys => by show wts ys = 0 + wts ys; omega
  | x :: xs, ys => by
    show wt x + 2 + wts (xs ++ ys) = wt x + 2 + wts xs + wts ys
    rw [wts_append]; omega
theorem dps_append : ∀ {xs ys : List D}, dps (xs ++ ys) = max (dps xs) (dps ys)
  | [], ys => by show dps ys = max 0 (dps ys); omega
  | x :: xs, ys => by
    show max (dp x) (dps (xs ++ ys)) = max (max (dp x) (dps xs)) (dps ys)
    rw [dps_append]; omega
theorem dps_le {n : Nat} : ∀ {xs : List D}, dps xs ≤ n ↔ ∀ x ∈ xs, dp x ≤ n
  | [] => ⟨(fun _ _ h => nomatch h), fun _ => Nat.zero_le _⟩
  | x :: xs => by
    show max (dp x) (dps xs) ≤ n ↔ _
    rw [Nat.max_le, dps_le (xs := xs)]
    simp
theorem wts_sub {xs ys : List D} (h : List.Sublist xs ys) : wts xs ≤ wts ys := by
  induction h with
  | slnil => exact Nat.le_refl _
  | cons a _ ih => exact Nat.le_trans ih (Nat.le_add_left _ _)
  | cons_cons a _ ih => exact Nat.add_le_add_left ih _
theorem wts_len : ∀ {xs : List D}, xs.length ≤ wts xs
  | [] => Nat.le_refl _
  | x :: xs => by
    show xs.length + 1 ≤ wt x + 2 + wts xs
    have := wts_len (xs := xs)
    omega
theorem wts_perm {xs ys : List D} (h : xs.Perm ys) : wts xs = wts ys := by
  induction h with
  | nil => rfl
  | cons a _ ih => show _ + wts _ = _ + wts _; rw [ih]
  | swap a b l => show wt b + 2 + (wt a + 2 + wts l) = wt a + 2 + (wt b + 2 + wts l); omega
  | trans _ _ i j => exact i.trans j
/-- a thing of moderate size -/
structure Fine (B n w : Nat) (d : D) : Prop where
  f : fit B d = true
  n : dp d ≤ n
  w : wt d ≤ w
theorem Fine.mono {B n w B' n' w' : Nat} {d : D} (h : Fine B n w d) (hb : B ≤ B') (hn : n ≤ n') (hw : w ≤ w') : Fine B' n' w' d := ⟨fit_mono hb d h.f, Nat.le_trans h.n hn, Nat.le_trans h.w hw⟩
theorem repr_ok' {B n w : Nat} {d : D} (h : Fine B n w d) (hB : B ≤ 10 ^ 40) (hn : n ≤ 60) (hw : w ≤ LIM) : reprD [d] = some (.str (reprS d)) := by
  obtain ⟨h1, h2, h3⟩ := showable_of hB d h.f
  have h4 := shown_le hB d h.f
  have e : showR d = true := by
    unfold showR
    rw [h1, h2, decide_eq_true (Nat.le_trans h3 (Nat.le_trans h.n hn)), decide_eq_true (show (reprS d).length ≤ LIM from Nat.le_trans h4 (Nat.le_trans h.w hw))]
    rfl
  show (if showR d = true then _ else _) = _
  rw [if_pos e]
theorem fit_pure {B : Nat} {d : D} (h : fit B d = true) : pureB d = true := by
  cases d <;> first | rfl | cases h
theorem frz_ok {d : D} {s : SS} (h : pureB d = true) : frz d s = .ok d s := by
  cases d <;> first | rfl | cases h
theorem vw_ok {d : D} {s : SS} (h : pureB d = true) : vw s d = d := by
  cases d <;> first | rfl | cases h
/-! ### the draws -/
/-- the draws are in order, so many more may come -/
structure Go1 (b : Nat) (s : SS) : Prop where
  cs : s.cs = []
  ex : ∃ m, s.m = some m ∧ 0 ≤ m.at_ ∧ m.at_ + b ≤ GRD ∧ m.left.length ≤ 63
theorem Go1.less {b c : Nat} {s : SS} (h : Go1 b s) (hc : c ≤ b) : Go1 c s := by
  obtain ⟨m, e, h1, h2, h3⟩ := h.ex
  exact ⟨h.cs, m, e, h1, by omega, h3⟩
theorem next_ok {b : Nat} {n : Int} {s : SS} (h : Go1 (b + 1) s) (h1 : 0 < n) (h2 : n < 1073741824) : ∃ k s', nextM [.drw, .int n] s = .ok (.int k) s' ∧ 0 ≤ k ∧ k < n ∧ Go1 b s' := by
  obtain ⟨m, e, ha, hb, hl⟩ := h.ex
  have g : (decide (0 < n) && decide (n < 1073741824) && decide (0 ≤ m.at_) && decide (m.at_ < GRD) && decide (m.left.length ≤ 63)) = true := by
    rw [decide_eq_true h1, decide_eq_true h2, decide_eq_true ha, decide_eq_true (show m.at_ < GRD by omega), decide_eq_true hl]; rfl
  refine ⟨(nextMS m n).1, { s with m := some (nextMS m n).2 }, ?_, ?_, ?_, h.cs, (nextMS m n).2, rfl, ?_⟩
  · show (match s.m with | some m => _ | none => _) = _
    rw [e]
    dsimp only
    rw [if_pos g]
  · unfold nextMS
    split
    · exact Int.emod_nonneg _ (by omega)
    · exact Int.emod_nonneg _ (by omega)
  · unfold nextMS
    split
    · exact Int.emod_lt_of_pos _ h1
    · exact Int.emod_lt_of_pos _ h1
  · unfold nextMS
    split
    · rename_i x r q
      refine ⟨ha, by dsimp only; omega, ?_⟩
      have : (m.left.dropWhile (· == 0)).length ≤ m.left.length := (List.dropWhile_sublist _).length_le
      rw [q] at this
      simp only [List.length_cons] at this ⊢
      omega
    · exact ⟨by dsimp only; omega, by dsimp only; omega, by simp⟩
/-! ### comprehensions -/
theorem comp_ok {t : T} {tst el : Env' → M D} {env : Env'} {s : SS} {p : D → Bool} {f : D → D} : ∀ {ds : List D}, (∀ d ∈ ds, ∃ E, asgT t d env = some E ∧ tst E s = .ok (.bl (p d)) s ∧ (p d = true → el E s = .ok (f d) s ∧ pureB (f d) = true)) →
    compM (turnM t tst el env) ds s = .ok ((ds.filter p).map f) s
  | [], _ => rfl
  | d :: ds, h => by
    obtain ⟨E, e1, e2, e3⟩ := h d List.mem_cons_self
    have ih := comp_ok (ds := ds) fun d hd => h d (List.mem_cons_of_mem _ hd)
    have u : turnM t tst el env d s = .ok (if p d = true then some (f d) else none) s := by
      unfold turnM
      rw [e1]
      dsimp only
      unfold iteM
      rw [bnd_ok e2]
      cases hp : p d with
      | false => rfl
      | true =>
        obtain ⟨e4, e5⟩ := e3 hp
        show (el E >>= _) s = _
        rw [bnd_ok e4, bnd_ok (frz_ok e5), if_pos e5]
        rfl
    show (turnM t tst el env d >>= fun o => compM _ ds >>= fun r => M.ret (match o with | some y => y :: r | none => r)) s = _
    rw [bnd_ok u, bnd_ok ih, List.filter_cons]
    cases p d <;> rfl
theorem lc_ok {own : List Nat} {t : T} {it : M (List D)} {tst el : Env' → M D} {env : Env'} {s : SS} {ds : List D} {p : D → Bool} {f : D → D} (hi : it s = .ok ds s)
    (h : ∀ d ∈ ds, ∃ E, asgT t d (wipeE env own) = some E ∧ tst E s = .ok (.bl (p d)) s ∧ (p d = true → el E s = .ok (f d) s ∧ pureB (f d) = true)) (hl : ds.length ≤ LIM) :
    lcM own t it tst el env s = .ok (.lst ((ds.filter p).map f)) s := by
  unfold lcM
  rw [bnd_ok hi]
  have c : M.calm (compM (turnM t tst el (wipeE env own)) ds) s = .ok ((ds.filter p).map f) s := by
    unfold M.calm
    rw [comp_ok h]
  refine (bnd_ok (f := fun r : List D => if r.length ≤ LIM then M.ret (D.lst r) else M.stk) c).trans ?_
  rw [if_pos]
  · rfl
  · rw [List.length_map]
    exact Nat.le_trans (List.length_filter_le _ _) hl
/-- without a test -/
theorem lc_all {own : List Nat} {t : T} {it : M (List D)} {el : Env' → M D} {env : Env'} {s : SS} {ds : List D} {f : D → D} (hi : it s = .ok ds s)
    (h : ∀ d ∈ ds, ∃ E, asgT t d (wipeE env own) = some E ∧ el E s = .ok (f d) s ∧ pureB (f d) = true) (hl : ds.length ≤ LIM) :
    lcM own t it (fun _ => M.ret (.bl true)) el env s = .ok (.lst (ds.map f)) s := by
  have := lc_ok (own := own) (t := t) (tst := fun _ => M.ret (.bl true)) (el := el) (env := env) (p := fun _ => true) (f := f) hi (fun d hd => by
    obtain ⟨E, e1, e2, e3⟩ := h d hd
    exact ⟨E, e1, rfl, fun _ => ⟨e2, e3⟩⟩) hl
  rw [this, List.filter_eq_self.mpr (fun _ _ => rfl)]
theorem fn_rt {n : Nat} {b : SM} {ds : List D} {d : D} {s s' : SS} (h : b (startE n ds) s = .rt d s') (hp : pureB d = true) (hc : s.cs = []) (hc' : s'.cs = []) : fnM n b ds s = .ok d s' := by
  unfold fnM
  rw [h]
  dsimp only
  rw [if_pos hp]
  unfold cutS
  rw [hc]
  obtain ⟨m, cs⟩ := s'
  cases hc'
  rfl
theorem ret_rt {m : Env' → M D} {env : Env'} {s s' : SS} {d : D} (h : m env s = .ok d s') (hp : pureB d = true) : retS m env s = .rt d s' := by
  unfold retS
  rw [h]
  dsimp only
  rw [frz_ok hp]
theorem asg_nx {t : T} {m : Env' → M D} {env E : Env'} {s s' : SS} {d : D} (h : m env s = .ok d s') (ha : asgT t d env = some E) : asgS t m env s = .nx E s' := by
  unfold asgS
  rw [h]
  dsimp only
  rw [ha]
end PI

set_option maxHeartbeats 1000000
/-! PI, part q: the evaluator by big steps. -/
namespace PI
open PySem L2
section
variable {Γ : Fns} {a b c e : C} {es : List C} {env E : Env'} {s s1 s2 s3 : SS} {d x y z : D} {ds xs : List D}
theorem e_k : evC Γ (.k d) env s = .ok d s := rfl
theorem e_v {i : Nat} (h : env[i]? = some (some d)) : evC Γ (.v i) env s = .ok d s := rd_ok h
theorem e_bin {o : BOp} (ha : evC Γ a env s = .ok x s1) (hb : evC Γ b env s1 = .ok y s2) (h : binD o (vw s2 x) (vw s2 y) = some d) : evC Γ (.bin o a b) env s = .ok d s2 := by
  show (evC Γ a env >>= fun x => evC Γ b env >>= fun y => op2 (binD o) x y) s = _
  rw [bnd_ok ha, bnd_ok hb, op2_ok h]
theorem e_cmp {o : COp} (ha : evC Γ a env s = .ok x s1) (hb : evC Γ b env s1 = .ok y s2) (h : cmpD o (vw s2 x) (vw s2 y) = some d) : evC Γ (.cmp o a b) env s = .ok d s2 := by
  show (evC Γ a env >>= fun x => evC Γ b env >>= fun y => op2 (cmpD o) x y) s = _
  rw [bnd_ok ha, bnd_ok hb, op2_ok h]
theorem e_neg {i : Int} (ha : evC Γ a env s = .ok (.int i) s1) : evC Γ (.neg a) env s = .ok (.int (-i)) s1 := by
  show (evC Γ a env >>= fun x => op1 negD x) s = _
  rw [bnd_ok ha]; rfl
theorem e_chain {o o' : COp} {p q : Bool} (ha : evC Γ a env s = .ok x s1) (hb : evC Γ b env s1 = .ok y s2) (h : cmpD o (vw s2 x) (vw s2 y) = some (.bl p)) (hc : p = true → evC Γ c env s2 = .ok z s2 ∧ cmpD o' (vw s2 y) (vw s2 z) = some (.bl q)) :
    evC Γ (.chain o o' a b c) env s = .ok (.bl (p && q)) s2 := by
  show chainM o o' (evC Γ a env) (evC Γ b env) (evC Γ c env) s = _
  unfold chainM
  rw [bnd_ok ha, bnd_ok hb, bnd_ok (op2_ok h)]
  cases p with
  | false => rfl
  | true =>
    obtain ⟨h1, h2⟩ := hc rfl
    show (evC Γ c env >>= fun w => op2 (cmpD o') y w) s2 = _
    rw [bnd_ok h1, op2_ok h2]
    rfl
/-- both parts, the second asked if the first is so -/
theorem e_and {p q : Bool} (ha : evC Γ a env s = .ok (.bl p) s1) (hb : p = true → evC Γ b env s1 = .ok (.bl q) s1) : evC Γ (.and a b) env s = .ok (.bl (p && q)) s1 := by
  show PI.andM (evC Γ a env) (evC Γ b env) s = _
  unfold PI.andM
  rw [bnd_ok ha]
  cases p with
  | false => rfl
  | true => exact hb rfl
theorem e_or {p q : Bool} (ha : evC Γ a env s = .ok (.bl p) s1) (hb : p = false → evC Γ b env s1 = .ok (.bl q) s1) : evC Γ (.or a b) env s = .ok (.bl (p || q)) s1 := by
  show PI.orM (evC Γ a env) (evC Γ b env) s = _
  unfold PI.orM
  rw [bnd_ok ha]
  cases p with
  | true => rfl
  | false => exact hb rfl
theorem e_and_t (ha : evC Γ a env s = .ok (.bl true) s1) (hb : evC Γ b env s1 = .ok d s2) : evC Γ (.and a b) env s = .ok d s2 := by
  show PI.andM (evC Γ a env) (evC Γ b env) s = _
  unfold PI.andM
  rw [bnd_ok ha]; exact hb
theorem e_and_f (ha : evC Γ a env s = .ok (.bl false) s1) : evC Γ (.and a b) env s = .ok (.bl false) s1 := by
  show PI.andM (evC Γ a env) (evC Γ b env) s = _
  unfold PI.andM
  rw [bnd_ok ha]; rfl
theorem e_or_f (ha : evC Γ a env s = .ok (.bl false) s1) (hb : evC Γ b env s1 = .ok d s2) : evC Γ (.or a b) env s = .ok d s2 := by
  show PI.orM (evC Γ a env) (evC Γ b env) s = _
  unfold PI.orM
  rw [bnd_ok ha]; exact hb
theorem e_or_t (ha : evC Γ a env s = .ok (.bl true) s1) : evC Γ (.or a b) env s = .ok (.bl true) s1 := by
  show PI.orM (evC Γ a env) (evC Γ b env) s = _
  unfold PI.orM
  rw [bnd_ok ha]; rfl
theorem e_not {p : Bool} (ha : evC Γ a env s = .ok (.bl p) s1) : evC Γ (.not a) env s = .ok (.bl (!p)) s1 := by
  show notM (evC Γ a env) s = _
  unfold notM
  rw [bnd_ok ha]; rfl
theorem e_notT (ha : evC Γ a env s = .ok (.bl false) s1) : evC Γ (.not a) env s = .ok (.bl true) s1 := e_not ha
theorem e_notF (ha : evC Γ a env s = .ok (.bl true) s1) : evC Γ (.not a) env s = .ok (.bl false) s1 := e_not ha
theorem e_ite {p : Bool} (ht : evC Γ c env s = .ok (.bl p) s1) (ha : p = true → evC Γ a env s1 = .ok d s2) (hb : p = false → evC Γ b env s1 = .ok d s2) : evC Γ (.ite c a b) env s = .ok d s2 := by
  show iteM (evC Γ c env) (evC Γ a env) (evC Γ b env) s = _
  unfold iteM
  rw [bnd_ok ht]
  cases p with
  | true => exact ha rfl
  | false => exact hb rfl
theorem e_isi {ts : List Ty} (ha : evC Γ a env s = .ok x s1) (h : isiD ts (vw s1 x) = some d) : evC Γ (.isi a ts) env s = .ok d s1 := by
  show (evC Γ a env >>= fun x => op1 (isiD ts) x) s = _
  rw [bnd_ok ha]
  unfold op1
  rw [h]
theorem e_ix {i : C} (ha : evC Γ a env s = .ok x s1) (hb : evC Γ i env s1 = .ok y s2) (h : ixD (vw s2 x) (vw s2 y) = some d) : evC Γ (.ix a i) env s = .ok d s2 := by
  show (evC Γ a env >>= fun x => evC Γ i env >>= fun y => op2 ixD x y) s = _
  rw [bnd_ok ha, bnd_ok hb, op2_ok h]
/-! arguments -/
theorem n_nil : evN Γ [] env s = .ok [] s := rfl
theorem n_cons (ha : evC Γ a env s = .ok x s1) (hr : evN Γ es env s1 = .ok xs s2) : evN Γ (a :: es) env s = .ok (x :: xs) s2 := by
  show consN (evC Γ a env) (evN Γ es env) s = _
  unfold consN
  rw [bnd_ok ha, bnd_ok hr]; rfl
theorem e_call {f : Nat} (ha : evN Γ es env s = .ok xs s1) (h : Γ f xs s1 = .ok d s2) : evC Γ (.call f es) env s = .ok d s2 := by
  show (evN Γ es env >>= Γ f) s = _
  rw [bnd_ok ha, h]
theorem e_bi {o : BI} (ha : evN Γ es env s = .ok xs s1) (h : biD o (xs.map (vw s1)) = some d) : evC Γ (.bi o es) env s = .ok d s1 := by
  show biM (biD o) (evN Γ es env) s = _
  unfold biM
  rw [bnd_ok ha]
  show (match biD o (xs.map (vw s1)) with | some d => _ | none => _) = _
  rw [h]
/-! displays -/
theorem l_nil : evL Γ [] env s = .ok [] s := rfl
theorem l_cons (ha : evC Γ a env s = .ok x s1) (hp : pureB x = true) (hr : evL Γ es env s1 = .ok xs s2) (he : evL Γ (a :: es) env = consM (evC Γ a env) (evL Γ es env) := by rfl) : evL Γ (a :: es) env s = .ok (x :: xs) s2 := by
  rw [he]
  unfold consM
  rw [bnd_ok ha, bnd_ok (frz_ok hp), bnd_ok hr]; rfl
theorem l_star (ha : evC Γ a env s = .ok x s1) (hx : seqD (vw s1 x) = some ds) (hr : evL Γ es env s1 = .ok xs s2) : evL Γ (.star a :: es) env s = .ok (ds ++ xs) s2 := by
  show starM (evC Γ a env) (evL Γ es env) s = _
  unfold starM
  rw [bnd_ok ha]
  show (match seqD (vw s1 x) with | some l => _ | none => _) = _
  rw [hx]
  show (evL Γ es env >>= _) s1 = _
  rw [bnd_ok hr]; rfl
theorem e_tup (h : evL Γ es env s = .ok xs s1) (hp : xs.all pureB = true) (hl : xs.length ≤ LIM) : evC Γ (.tup es) env s = .ok (.tup xs) s1 := by
  show tupM (evL Γ es env) s = _
  unfold tupM
  rw [bnd_ok h, hp, decide_eq_true hl]; rfl
theorem e_lst (h : evL Γ es env s = .ok xs s1) (hp : xs.all pureB = true) (hl : xs.length ≤ LIM) : evC Γ (.lst es) env s = .ok (.lst xs) s1 := by
  show lstM (evL Γ es env) s = _
  unfold lstM
  rw [bnd_ok h, hp, decide_eq_true hl]; rfl
/-! slices -/
theorem o_nop : evO Γ .nop env s = .ok none s := rfl
theorem o_int {i : Int} (h : evC Γ a env s = .ok (.int i) s1) (he : evO Γ a env = intM (evC Γ a env) := by rfl) : evO Γ a env s = .ok (some i) s1 := by
  rw [he]
  unfold intM
  rw [bnd_ok h]; rfl
theorem e_sl {lo hi : C} {l h : Option Int} (ha : evC Γ a env s = .ok x s1) (hl : evO Γ lo env s1 = .ok l s2) (hh : evO Γ hi env s2 = .ok h s3) (hc : cutD (vw s3 x) l h = some d) : evC Γ (.sl a lo hi) env s = .ok d s3 := by
  show sliceM cutD (evC Γ a env) (evO Γ lo env) (evO Γ hi env) s = _
  unfold sliceM
  rw [bnd_ok ha, bnd_ok hl, bnd_ok hh, hc]
theorem e_slr {lo hi : C} {l h : Option Int} (ha : evC Γ a env s = .ok x s1) (hl : evO Γ lo env s1 = .ok l s2) (hh : evO Γ hi env s2 = .ok h s3) (hc : backD (vw s3 x) l h = some d) : evC Γ (.slr a lo hi) env s = .ok d s3 := by
  show sliceM backD (evC Γ a env) (evO Γ lo env) (evO Γ hi env) s = _
  unfold sliceM
  rw [bnd_ok ha, bnd_ok hl, bnd_ok hh, hc]
/-! what is walked -/
theorem i_walk (h : evC Γ a env s = .ok x s1) (hp : pureB x = true) (hi : itemsD x = some xs) (he : evI Γ a env = walkM (evC Γ a env) := by rfl) : evI Γ a env s = .ok xs s1 := by
  rw [he]
  unfold walkM
  rw [bnd_ok h, bnd_ok (frz_ok hp), hi]; rfl
theorem i_rng1 {j : Int} (h : evC Γ a env s = .ok (.int j) s1) (hj : inR j = true) (he : evL Γ [a] env = consM (evC Γ a env) (evL Γ [] env) := by rfl) : evI Γ (.rng [a]) env s = .ok (rangeL 0 j) s1 := by
  show rangeM (evL Γ [a] env) s = _
  unfold rangeM
  rw [bnd_ok (l_cons h rfl l_nil he)]
  show (if inR j = true then M.ret (rangeL 0 j) else M.stk) s1 = _
  rw [if_pos hj]; rfl
theorem i_zipT {ys : List D} (h : evL Γ [a, b] env s = .ok [.tup xs, .tup ys] s1) : evI Γ (.zip [a, b]) env s = .ok ((xs.zip ys).map fun p => .tup [p.1, p.2]) s1 := by
  show zipM (evL Γ [a, b] env) s = _
  unfold zipM
  rw [bnd_ok h]; rfl
/-! comprehensions -/
theorem e_lc {own : List Nat} {t : T} {p : D → Bool} {f : D → D} (hi : evI Γ a env s = .ok ds s) (hl : ds.length ≤ LIM)
    (h : ∀ d ∈ ds, ∃ E, asgT t d (wipeE env own) = some E ∧ evC Γ b E s = .ok (.bl (p d)) s ∧ (p d = true → evC Γ e E s = .ok (f d) s ∧ pureB (f d) = true)) :
    evC Γ (.lc own t a b e) env s = .ok (.lst ((ds.filter p).map f)) s := lc_ok hi h hl
theorem e_lcA {own : List Nat} {t : T} {f : D → D} (hi : evI Γ a env s = .ok ds s) (hl : ds.length ≤ LIM)
    (h : ∀ d ∈ ds, ∃ E, asgT t d (wipeE env own) = some E ∧ evC Γ e E s = .ok (f d) s ∧ pureB (f d) = true) :
    evC Γ (.lc own t a (.k (.bl true)) e) env s = .ok (.lst (ds.map f)) s := lc_all hi h hl
theorem cat_ok {f : D → M (List D)} {g : D → List D} : ∀ {ds : List D}, (∀ d ∈ ds, f d s = .ok (g d) s) → catM f ds s = .ok (ds.flatMap g) s
  | [], _ => rfl
  | d :: ds, h => by
    show (f d >>= fun l => catM f ds >>= fun r => M.ret (l ++ r)) s = _
    rw [bnd_ok (h d List.mem_cons_self), bnd_ok (cat_ok fun d hd => h d (List.mem_cons_of_mem _ hd)), List.flatMap_cons]; rfl
theorem e_lc2 {own own2 : List Nat} {t1 t2 : T} {it2 : C} {ys : D → List D} {p : D → D → Bool} {f : D → D → D} (hi : evI Γ a env s = .ok ds s)
    (h : ∀ d ∈ ds, ∃ E1, asgT t1 d (wipeE env own) = some E1 ∧ evI Γ it2 E1 s = .ok (ys d) s ∧ ∀ y ∈ ys d, ∃ E2, asgT t2 y (wipeE E1 own2) = some E2 ∧ evC Γ b E2 s = .ok (.bl (p d y)) s ∧ (p d y = true → evC Γ e E2 s = .ok (f d y) s ∧ pureB (f d y) = true))
    (hl : (ds.flatMap fun d => ((ys d).filter (p d)).map (f d)).length ≤ LIM) :
    evC Γ (.lc2 own t1 a own2 t2 it2 b e) env s = .ok (.lst (ds.flatMap fun d => ((ys d).filter (p d)).map (f d))) s := by
  show lc2M own t1 (evI Γ a env) (fun env => evI Γ it2 env) own2 t2 (fun env => evC Γ b env) (fun env => evC Γ e env) env s = _
  unfold lc2M
  rw [bnd_ok hi]
  have c : M.calm (catM (turn2M t1 (fun env => evI Γ it2 env) own2 t2 (fun env => evC Γ b env) (fun env => evC Γ e env) (wipeE env own)) ds) s = .ok (ds.flatMap fun d => ((ys d).filter (p d)).map (f d)) s := by
    unfold M.calm
    rw [cat_ok (g := fun d => ((ys d).filter (p d)).map (f d)) fun d hd => by
      obtain ⟨E1, e1, e2, e3⟩ := h d hd
      unfold turn2M
      rw [e1]
      dsimp only
      rw [bnd_ok e2, comp_ok e3]]
  refine (bnd_ok (f := fun r : List D => if r.length ≤ LIM then M.ret (D.lst r) else M.stk) c).trans ?_
  rw [if_pos hl]; rfl
/-! statements -/
theorem s_asg {t : T} {st : List S} {r : SR} (h : evC Γ a env s = .ok d s1) (ha : asgT t d env = some E) (hr : evSs Γ st E s1 = r) : evSs Γ (.asg t a :: st) env s = r := (seqS_nx (asg_nx h ha)).trans hr
theorem s_ret {st : List S} (h : evC Γ a env s = .ok d s1) (hp : pureB d = true) : evSs Γ (.ret a :: st) env s = .rt d s1 := seqS_rt (ret_rt h hp)
theorem s_if_t {sa sb st : List S} {r : SR} (h : evC Γ a env s = .ok (.bl true) s1) (hr : evSs Γ sa env s1 = r) (hn : ∀ E s2, r = .nx E s2 → False) : evSs Γ (.ite a sa sb :: st) env s = r := by
  show seqS (ifS (evC Γ a) (evSs Γ sa) (evSs Γ sb)) (evSs Γ st) env s = _
  unfold seqS
  rw [ifS_t h, hr]
  cases r with
  | nx E s2 => exact (hn E s2 rfl).elim
  | _ => rfl
theorem s_if_ret {sa sb st : List S} (h : evC Γ a env s = .ok (.bl true) s1) (hr : evSs Γ sa env s1 = .rt d s2) : evSs Γ (.ite a sa sb :: st) env s = .rt d s2 :=
  s_if_t h hr fun _ _ z => nomatch z
theorem s_if_f {sa st : List S} {r : SR} (h : evC Γ a env s = .ok (.bl false) s1) (hr : evSs Γ st env s1 = r) : evSs Γ (.ite a sa [] :: st) env s = r := by
  show seqS (ifS (evC Γ a) (evSs Γ sa) passS) (evSs Γ st) env s = _
  unfold seqS
  rw [ifS_f h]
  exact hr
theorem s_par {is : List Nat} {st : List S} {r : SR} (h : evN Γ es env s = .ok xs s1) (ha : setsE env is xs = some E) (hr : evSs Γ st E s1 = r) : evSs Γ (.par is es :: st) env s = r := by
  refine (seqS_nx (s' := s1) (env' := E) ?_).trans hr
  show parS is (evN Γ es) env s = _
  unfold parS
  rw [h]
  dsimp only
  rw [ha]
theorem s_for {t : T} {sb st : List S} {r : SR} (hi : evI Γ a env s = .ok ds s1) (hf : forL t (evSs Γ sb) ds env s1 = .nx E s2) (hr : evSs Γ st E s2 = r) : evSs Γ (.for_ t a sb :: st) env s = r := by
  refine (seqS_nx (s' := s2) (env' := E) ?_).trans hr
  show forS t (evI Γ a) (evSs Γ sb) env s = _
  unfold forS
  rw [hi]
  exact hf
theorem for_nil {t : T} {bd : SM} : forL t bd [] env s = .nx env s := rfl
theorem for_cons {t : T} {bd : SM} {E1 E2 : Env'} {r : SR} (ha : asgT t d env = some E1) (hb : bd E1 s = .nx E2 s1) (hr : forL t bd ds E2 s1 = r) : forL t bd (d :: ds) env s = r := by
  show (match asgT t d env with | none => _ | some env1 => _) = _
  rw [ha]
  dsimp only
  rw [hb]
  exact hr
end
/-- a loop that keeps what is said -/
theorem for_inv {t : T} {bd : SM} (P : List D → Env' → SS → Prop) : ∀ {ds : List D} {env : Env'} {s : SS}, P ds env s → (∀ d ds env s, P (d :: ds) env s → ∃ E1 E2 s1, asgT t d env = some E1 ∧ bd E1 s = .nx E2 s1 ∧ P ds E2 s1) →
    ∃ E s1, forL t bd ds env s = .nx E s1 ∧ P [] E s1
  | [], env, s, h, _ => ⟨env, s, rfl, h⟩
  | d :: ds, env, s, h, hs => by
    obtain ⟨E1, E2, s1, e1, e2, h1⟩ := hs d ds env s h
    obtain ⟨E, s2, e3, h2⟩ := for_inv P h1 hs
    exact ⟨E, s2, for_cons e1 e2 e3, h2⟩
end PI

/-! Plain laws, part a: rows and lots of places, by ranks. -/
namespace PL
open PySem PI
section
variable {α β : Type}
/-- a further one may come behind a lot -/
def goesOn (lt : α → α → Bool) (lot : List α) (p : α) : Bool := lot.isEmpty || (match lot.getLast? with | some q => lt q p | none => false)
/-- all lots of so many, ascending -/
def LW (lt : α → α → Bool) (ps : List α) : Nat → List (List α)
  | 0 => [[]]
  | m + 1 => (LW lt ps m).flatMap fun lot => (ps.filter fun p => goesOn lt lot p).map fun p => lot ++ [p]
/-- all rows of so many different ones -/
def RW (eq : α → α → Bool) (ps : List α) : Nat → List (List α)
  | 0 => [[]]
  | m + 1 => (RW eq ps m).flatMap fun r => (ps.filter fun p => !r.any fun y => eq y p).map fun p => r ++ [p]
def SB (ps : List α) : List (List α) := ps.foldl (fun acc w => acc ++ acc.map fun r => r ++ [w]) [[]]
theorem sortBy_map {lt : α → α → Bool} {lt' : β → β → Bool} (f : α → β) : ∀ (xs : List α), (∀ a ∈ xs, ∀ b ∈ xs, lt' (f a) (f b) = lt a b) → sortBy lt' (xs.map f) = (sortBy lt xs).map f := by
  have ins : ∀ (x : α) (ys : List α), (∀ y ∈ ys, lt' (f y) (f x) = lt y x) → insBy lt' (f x) (ys.map f) = (insBy lt x ys).map f := by
    intro x ys
    induction ys with
    | nil => intro _; rfl
    | cons y ys ih =>
      intro h
      rw [List.map_cons]
      unfold insBy
      rw [h y List.mem_cons_self]
      cases lt y x with
      | true =>
        rw [if_pos rfl, if_pos rfl, List.map_cons, ih fun z hz => h z (List.mem_cons_of_mem _ hz)]
      | false => rfl
  intro xs
  induction xs with
  | nil => intro _; rfl
  | cons x xs ih =>
    intro h
    rw [List.map_cons]
    unfold sortBy
    rw [ih fun a ha b hb => h a (List.mem_cons_of_mem _ ha) b (List.mem_cons_of_mem _ hb), ins x _ fun y hy => h y (List.mem_cons_of_mem _ (mem_sortBy.mp hy)) x List.mem_cons_self]
theorem LW_mem {lt : α → α → Bool} {ps : List α} : ∀ (m : Nat) (r : List α), r ∈ LW lt ps m → (∀ p ∈ r, p ∈ ps) ∧ r.length = m
  | 0, r, h => by
    have e : r = [] := List.mem_singleton.mp h
    subst e
    exact ⟨(fun _ h => nomatch h), rfl⟩
  | m + 1, r, h => by
    obtain ⟨lot, h1, h2⟩ := List.mem_flatMap.mp h
    obtain ⟨p, h3, rfl⟩ := List.mem_map.mp h2
    obtain ⟨h4, h5⟩ := LW_mem m lot h1
    refine ⟨fun q hq => ?_, by rw [List.length_append, h5]; rfl⟩
    rcases List.mem_append.mp hq with z | z
    · exact h4 q z
    · rw [List.mem_singleton.mp z]; exact (List.mem_filter.mp h3).1
theorem RW_mem {eq : α → α → Bool} {ps : List α} : ∀ (m : Nat) (r : List α), r ∈ RW eq ps m → (∀ p ∈ r, p ∈ ps) ∧ r.length = m
  | 0, r, h => by
    have e : r = [] := List.mem_singleton.mp h
    subst e
    exact ⟨(fun _ h => nomatch h), rfl⟩
  | m + 1, r, h => by
    obtain ⟨lot, h1, h2⟩ := List.mem_flatMap.mp h
    obtain ⟨p, h3, rfl⟩ := List.mem_map.mp h2
    obtain ⟨h4, h5⟩ := RW_mem m lot h1
    refine ⟨fun q hq => ?_, by rw [List.length_append, h5]; rfl⟩
    rcases List.mem_append.mp hq with z | z
    · exact h4 q z
    · rw [List.mem_singleton.mp z]; exact (List.mem_filter.mp h3).1
theorem flatMap_congr' {f g : α → List β} : ∀ {xs : List α}, (∀ x ∈ xs, f x = g x) → xs.flatMap f = xs.flatMap g
  | [], _ => rfl
  | x :: xs, h => by rw [List.flatMap_cons, List.flatMap_cons, h x List.mem_cons_self, flatMap_congr' fun z hz => h z (List.mem_cons_of_mem _ hz)]
theorem filter_map_congr (f : α → β) {p : β → Bool} {q : α → Bool} {xs : List α} (h : ∀ x ∈ xs, p (f x) = q x) : (xs.map f).filter p = (xs.filter q).map f := by
  rw [List.filter_map]
  congr 1
  exact List.filter_congr h
theorem LW_map {lt : α → α → Bool} {lt' : β → β → Bool} (f : α → β) {ps : List α} (h : ∀ a ∈ ps, ∀ b ∈ ps, lt' (f a) (f b) = lt a b) : ∀ m, LW lt' (ps.map f) m = (LW lt ps m).map (List.map f)
  | 0 => rfl
  | m + 1 => by
    unfold LW
    rw [LW_map f h m, List.flatMap_map, List.map_flatMap]
    refine flatMap_congr' fun lot hl => ?_
    obtain ⟨h1, h2⟩ := LW_mem m lot hl
    rw [List.map_map, filter_map_congr f (q := fun p => goesOn lt lot p), List.map_map]
    · refine List.map_congr_left fun p _ => ?_
      simp
    · intro p hp
      unfold goesOn
      rw [List.getLast?_map]
      cases e : lot.getLast? with
      | none =>
        have : lot = [] := List.getLast?_eq_none_iff.mp e
        subst this
        rfl
      | some q =>
        have hq : q ∈ lot := List.mem_of_getLast? e
        show (List.isEmpty (List.map f lot) || lt' (f q) (f p)) = _
        rw [h q (h1 q hq) p hp]
        simp
theorem RW_map {eq : α → α → Bool} {eq' : β → β → Bool} (f : α → β) {ps : List α} (h : ∀ a ∈ ps, ∀ b ∈ ps, eq' (f a) (f b) = eq a b) : ∀ m, RW eq' (ps.map f) m = (RW eq ps m).map (List.map f)
  | 0 => rfl
  | m + 1 => by
    unfold RW
    rw [RW_map f h m, List.flatMap_map, List.map_flatMap]
    refine flatMap_congr' fun lot hl => ?_
    obtain ⟨h1, h2⟩ := RW_mem m lot hl
    rw [List.map_map, filter_map_congr f (q := fun p => !lot.any fun y => eq y p), List.map_map]
    · refine List.map_congr_left fun p _ => ?_
      simp
    · intro p hp
      congr 1
      rw [List.any_map]
      rw [Bool.eq_iff_iff, List.any_eq_true, List.any_eq_true]
      exact ⟨fun ⟨y, hy, z⟩ => ⟨y, hy, by rw [← h y (h1 y hy) p hp]; exact z⟩, fun ⟨y, hy, z⟩ => ⟨y, hy, by show eq' (f y) (f p) = true; rw [h y (h1 y hy) p hp]; exact z⟩⟩
theorem SB_map (f : α → β) (ps : List α) : SB (ps.map f) = (SB ps).map (List.map f) := by
  have : ∀ (ps : List α) (acc : List (List α)), (ps.map f).foldl (fun acc w => acc ++ acc.map fun r => r ++ [w]) (acc.map (List.map f)) = (ps.foldl (fun acc w => acc ++ acc.map fun r => r ++ [w]) acc).map (List.map f) := by
    intro ps
    induction ps with
    | nil => intro acc; rfl
    | cons p ps ih =>
      intro acc
      rw [List.map_cons, List.foldl_cons, List.foldl_cons, ← ih]
      congr 1
      rw [List.map_append, List.map_map, List.map_map]
      congr 1
      refine List.map_congr_left fun r _ => ?_
      simp
  exact this ps [[]]
theorem SB_mem {ps : List α} : ∀ r ∈ SB ps, (∀ p ∈ r, p ∈ ps) ∧ r.length ≤ ps.length := by
  have : ∀ (qs : List α) (acc : List (List α)) (n : Nat), (∀ r ∈ acc, (∀ p ∈ r, p ∈ ps) ∧ r.length ≤ n) → (∀ q ∈ qs, q ∈ ps) → ∀ r ∈ qs.foldl (fun acc w => acc ++ acc.map fun r => r ++ [w]) acc, (∀ p ∈ r, p ∈ ps) ∧ r.length ≤ n + qs.length := by
    intro qs
    induction qs with
    | nil => intro acc n h _ r hr; exact h r hr
    | cons q qs ih =>
      intro acc n h hq r hr
      rw [List.foldl_cons] at hr
      have := ih _ (n + 1) (fun r hr => ?_) (fun z hz => hq z (List.mem_cons_of_mem _ hz)) r hr
      · rw [List.length_cons]
        exact ⟨this.1, by omega⟩
      · rcases List.mem_append.mp hr with z | z
        · exact ⟨(h r z).1, by have := (h r z).2; omega⟩
        · obtain ⟨r', h1, rfl⟩ := List.mem_map.mp z
          refine ⟨fun p hp => ?_, by have := (h r' h1).2; simp; omega⟩
          rcases List.mem_append.mp hp with y | y
          · exact (h r' h1).1 p y
          · rw [List.mem_singleton.mp y]; exact hq q List.mem_cons_self
  intro r hr
  have := this ps [[]] 0 (fun r hr => by rw [List.mem_singleton.mp hr]; exact ⟨(fun _ h => nomatch h), Nat.le_refl _⟩) (fun _ h => h) r hr
  exact ⟨this.1, by omega⟩
end
/-! ### texts in order -/
def lexB {α : Type} (eq lt : α → α → Bool) : List α → List α → Bool
  | [], [] => false
  | [], _ :: _ => true
  | _ :: _, [] => false
  | x :: xs, y :: ys => if eq x y then lexB eq lt xs ys else lt x y
theorem lexB_map {α β : Type} {eq lt : α → α → Bool} {eq' lt' : β → β → Bool} (f : α → β) {ps : List α} (h1 : ∀ a ∈ ps, ∀ b ∈ ps, eq' (f a) (f b) = eq a b) (h2 : ∀ a ∈ ps, ∀ b ∈ ps, lt' (f a) (f b) = lt a b) :
    ∀ (xs ys : List α), (∀ x ∈ xs, x ∈ ps) → (∀ y ∈ ys, y ∈ ps) → lexB eq' lt' (xs.map f) (ys.map f) = lexB eq lt xs ys
  | [], [], _, _ => rfl
  | [], _ :: _, _, _ => rfl
  | _ :: _, [], _, _ => rfl
  | x :: xs, y :: ys, hx, hy => by
    rw [List.map_cons, List.map_cons]
    unfold lexB
    rw [h1 x (hx x List.mem_cons_self) y (hy y List.mem_cons_self), h2 x (hx x List.mem_cons_self) y (hy y List.mem_cons_self), lexB_map f h1 h2 xs ys (fun z hz => hx z (List.mem_cons_of_mem _ hz)) (fun z hz => hy z (List.mem_cons_of_mem _ hz))]
/-- ascending -/
def Asc (ws : List Str) : Prop := ws.Pairwise fun a b => ltS a b = true
theorem ltS_irrefl (x : Str) : ltS x x = false := by
  unfold ltS
  exact decide_eq_false (List.lt_irrefl _)
theorem ltS_asymm {x y : Str} (h : ltS x y = true) : ltS y x = false := by
  unfold ltS at h ⊢
  exact decide_eq_false (List.lt_asymm (of_decide_eq_true h))
theorem ltS_trans {x y z : Str} (h : ltS x y = true) (h' : ltS y z = true) : ltS x z = true := by
  unfold ltS at h h' ⊢
  exact decide_eq_true (List.lt_trans (of_decide_eq_true h) (of_decide_eq_true h'))
def at0 (ws : List Str) (i : Nat) : Str := ws[i]?.getD ⟨#[]⟩
theorem ranks (ws : List Str) : (List.range ws.length).map (at0 ws) = ws := by
  refine List.ext_getElem? fun i => ?_
  rw [List.getElem?_map]
  by_cases h : i < ws.length
  · rw [List.getElem?_range h]
    simp [at0, h]
  · rw [List.getElem?_eq_none (by simpa using h), List.getElem?_eq_none (by omega)]
    rfl
theorem rank_lt {ws : List Str} (h : Asc ws) (i j : Nat) (hi : i ∈ List.range ws.length) (hj : j ∈ List.range ws.length) : ltS (at0 ws i) (at0 ws j) = decide (i < j) := by
  rw [List.mem_range] at hi hj
  have e1 : at0 ws i = ws[i] := by simp [at0, hi]
  have e2 : at0 ws j = ws[j] := by simp [at0, hj]
  rw [e1, e2]
  by_cases h1 : i < j
  · rw [decide_eq_true h1]; exact List.pairwise_iff_getElem.mp h i j hi hj h1
  · rw [decide_eq_false h1]
    by_cases h2 : j < i
    · exact ltS_asymm (List.pairwise_iff_getElem.mp h j i hj hi h2)
    · have e : i = j := by omega
      subst e
      exact ltS_irrefl _
theorem rank_eq {ws : List Str} (h : Asc ws) (i j : Nat) (hi : i ∈ List.range ws.length) (hj : j ∈ List.range ws.length) : (at0 ws i == at0 ws j) = (i == j) := by
  by_cases e : i = j
  · subst e; simp
  · rw [beq_eq_false_iff_ne.mpr e]
    refine beq_eq_false_iff_ne.mpr fun z => ?_
    have h1 := rank_lt h i j hi hj
    have h2 := rank_lt h j i hj hi
    rw [z] at h1 h2
    rw [ltS_irrefl] at h1 h2
    have := of_decide_eq_false h1.symm
    have := of_decide_eq_false h2.symm
    omega
abbrev eqS : Str → Str → Bool := fun a b => a == b
abbrev nlt : Nat → Nat → Bool := fun a b => decide (a < b)
abbrev neq : Nat → Nat → Bool := fun a b => a == b
theorem lots_ranks : ∀ n ∈ [3, 4, 5], ∀ m ∈ [2, 3], (sortBy (lexB neq nlt) (SB (List.range n))).filter (fun r => r.length == m) = LW nlt (List.range n) m := by decide +kernel
theorem rows_ranks : ∀ n ∈ [3, 4, 5], ∀ m ∈ [4, 5], (RW neq (List.range n) m).length ≤ 120 := by decide +kernel
theorem lots_len : ∀ n ∈ [3, 4, 5], ∀ m ∈ [2, 3], (LW nlt (List.range n) m).length ≤ 10 := by decide +kernel
/-- the law's lots of so many are those of the program -/
theorem lots_same {ws : List Str} (h : Asc ws) (hn : ws.length ∈ [3, 4, 5]) {m : Nat} (hm : m ∈ [2, 3]) : (sortBy (lexB eqS ltS) (SB ws)).filter (fun r => r.length == m) = LW ltS ws m := by
  have e := ranks ws
  have hl := rank_lt h
  have he := rank_eq h
  generalize hN : List.range ws.length = N at e hl he
  generalize at0 ws = f at e hl he
  have k := lots_ranks _ hn m hm
  rw [hN] at k
  subst e
  rw [SB_map, sortBy_map (lt := lexB neq nlt) (List.map f), LW_map f (lt := nlt) (fun a ha b hb => hl a b ha hb), ← k, filter_map_congr (List.map f) (q := fun r => r.length == m)]
  · intro r _; simp
  · intro a ha b hb
    exact lexB_map f (ps := N) (fun a ha b hb => he a b ha hb) (fun a ha b hb => hl a b ha hb) a b (SB_mem a ha).1 (SB_mem b hb).1
theorem rows_few {ws : List Str} (h : Asc ws) (hn : ws.length ∈ [3, 4, 5]) {m : Nat} (hm : m ∈ [4, 5]) : (RW eqS ws m).length ≤ 120 := by
  have e := ranks ws
  have he := rank_eq h
  generalize hN : List.range ws.length = N at e he
  generalize at0 ws = f at e he
  have k := rows_ranks _ hn m hm
  rw [hN] at k
  subst e
  rw [RW_map f (eq := neq) (fun a ha b hb => he a b ha hb), List.length_map]
  exact k
theorem lots_few {ws : List Str} (h : Asc ws) (hn : ws.length ∈ [3, 4, 5]) {m : Nat} (hm : m ∈ [2, 3]) : (LW ltS ws m).length ≤ 10 := by
  have e := ranks ws
  have hl := rank_lt h
  generalize hN : List.range ws.length = N at e hl
  generalize at0 ws = f at e hl
  have k := lots_len _ hn m hm
  rw [hN] at k
  subst e
  rw [LW_map f (lt := nlt) (fun a ha b hb => hl a b ha hb), List.length_map]
  exact k
end PL

/-! Plain laws, part b: the signs of texts. -/
namespace PL
open PySem PI
/-- all signs are code points -/
def Sane (x : Str) : Prop := ∀ c ∈ x.cps.toList, c < 0x110000
theorem sane_plain {x : Str} (h : Sane x) : plain (.str x) = true := by
  show x.cps.all (· < 0x110000) = true
  rw [Array.all_eq_true_iff_forall_mem]
  exact fun c hc => decide_eq_true (h c (Array.mem_toList_iff.mpr hc))
theorem sane_of {B : Nat} {x : Str} (h : fit B (.str x) = true) : Sane x := by
  have h' : x.cps.all (· < 0x110000) = true := h
  rw [Array.all_eq_true_iff_forall_mem] at h'
  exact fun c hc => of_decide_eq_true (h' c (Array.mem_toList_iff.mp hc))
theorem char_small (c : Char) : c.toNat < 0x110000 := by
  have h := c.valid
  simp only [UInt32.isValidChar, Nat.isValidChar] at h
  have : c.toNat = c.val.toNat := rfl
  omega
theorem sane_ofString (s : String) : Sane (Str.ofString s) := fun c hc => by
  rw [PyProof.Rows.signs_ofString] at hc
  obtain ⟨d, _, rfl⟩ := List.mem_map.mp hc
  exact char_small d
theorem sane_app {x y : Str} (hx : Sane x) (hy : Sane y) : Sane (x ++ y) := fun c hc => by
  have e : (x ++ y).cps.toList = x.cps.toList ++ y.cps.toList := by
    show (x.cps ++ y.cps).toList = _
    simp
  rw [e] at hc
  rcases List.mem_append.mp hc with z | z
  · exact hx c z
  · exact hy c z
theorem reprChar_small {q c : Nat} (hq : q < 0x110000) (hc : c < 0x110000) : ∀ d ∈ Builtin.Str.reprChar q c, d < 0x110000 := by
  have hx : ∀ w, ∀ d ∈ (List.replicate (w - ((Nat.toDigits 16 c).map Char.toNat).length) 48 ++ (Nat.toDigits 16 c).map Char.toNat), d < 0x110000 := fun w d hd => by
    rcases List.mem_append.mp hd with z | z
    · rw [(List.mem_replicate.mp z).2]; decide
    · obtain ⟨y, _, rfl⟩ := List.mem_map.mp z
      exact char_small y
  have app : ∀ (a b w : Nat), a < 128 → b < 128 → ∀ d ∈ ([a, b] ++ (List.replicate (w - ((Nat.toDigits 16 c).map Char.toNat).length) 48 ++ (Nat.toDigits 16 c).map Char.toNat)), d < 0x110000 := fun a b w ha hb d hd => by
    rcases List.mem_append.mp hd with z | z
    · simp only [List.mem_cons, List.not_mem_nil, or_false] at z
      rcases z with rfl | rfl <;> omega
    · exact hx w d z
  unfold Builtin.Str.reprChar
  dsimp only
  intro d hd
  split at hd
  · simp only [List.mem_cons, List.not_mem_nil, or_false] at hd
    rcases hd with rfl | rfl <;> omega
  split at hd
  · simp only [List.mem_cons, List.not_mem_nil, or_false] at hd
    rcases hd with rfl | rfl <;> omega
  split at hd
  · simp only [List.mem_cons, List.not_mem_nil, or_false] at hd
    rcases hd with rfl | rfl <;> omega
  split at hd
  · simp only [List.mem_cons, List.not_mem_nil, or_false] at hd
    rcases hd with rfl | rfl <;> omega
  split at hd
  · rw [List.mem_singleton.mp hd]; exact hc
  split at hd
  · exact app 92 120 2 (by decide) (by decide) d hd
  split at hd
  · exact app 92 117 4 (by decide) (by decide) d hd
  · exact app 92 85 8 (by decide) (by decide) d hd
theorem fold_small {q : Nat} (hq : q < 0x110000) : ∀ (l : List Nat) (acc : Array Nat), (∀ c ∈ l, c < 0x110000) → (∀ c ∈ acc.toList, c < 0x110000) → ∀ c ∈ (l.foldl (fun out c => out ++ (Builtin.Str.reprChar q c).toArray) acc).toList, c < 0x110000
  | [], acc, _, ha => ha
  | x :: l, acc, hl, ha => by
    rw [List.foldl_cons]
    refine fold_small hq l _ (fun c hc => hl c (List.mem_cons_of_mem _ hc)) fun c hc => ?_
    have e : (acc ++ (Builtin.Str.reprChar q x).toArray).toList = acc.toList ++ Builtin.Str.reprChar q x := by simp
    rw [e] at hc
    rcases List.mem_append.mp hc with z | z
    · exact ha c z
    · exact reprChar_small hq (hl x List.mem_cons_self) c z
theorem sane_repr {x : Str} (h : Sane x) : Sane (reprText x) := fun c hc => by
  have hq : reprQuote x < 0x110000 := by
    unfold reprQuote
    split <;> decide
  unfold reprText at hc
  rw [← Array.foldl_toList] at hc
  have e : ∀ a : Array Nat, (a.push (reprQuote x)).toList = a.toList ++ [reprQuote x] := fun a => by simp
  rw [e] at hc
  rcases List.mem_append.mp hc with z | z
  · exact fold_small hq _ _ h (fun c hc => by
      have : c = reprQuote x := by simpa using hc
      rw [this]; exact hq) c z
  · rw [List.mem_singleton.mp z]; exact hq
theorem sane_textFrom : ∀ (ts : List Str) (k : Nat) (acc : Str), (∀ t ∈ ts, Sane t) → Sane acc → Sane (textFrom k acc ts)
  | [], _, _, _, h => h
  | t :: r, k, acc, ht, h => by
    refine sane_textFrom r (k + 1) _ (fun z hz => ht z (List.mem_cons_of_mem _ hz)) (sane_app (sane_app h ?_) (ht t List.mem_cons_self))
    exact sane_ofString _
theorem sane_join : ∀ (ts : List Str), (∀ t ∈ ts, Sane t) → Sane (Str.join ", " ts)
  | [], _ => fun c hc => by
    have : c ∈ ([] : List Nat) := hc
    cases this
  | [x], h => h x (by simp)
  | x :: y :: r, h => by
    refine sane_app (sane_app (h x (by simp)) (sane_ofString _)) (sane_join (y :: r) fun z hz => h z (List.mem_cons_of_mem _ hz))
theorem sane_tuple {ts : List Str} (h : ∀ t ∈ ts, Sane t) : Sane (tupleText ts) := sane_app (sane_app (sane_ofString _) (sane_join ts h)) (sane_ofString _)
theorem sane_list {ts : List Str} (h : ∀ t ∈ ts, Sane t) : Sane (listText ts) := sane_app (sane_textFrom ts 0 _ h (sane_ofString _)) (sane_ofString _)
mutual
theorem sane_shown {B : Nat} : ∀ d : D, fit B d = true → Sane (toPyR d).shown
  | .non, _ => sane_ofString _
  | .bl b, _ => by cases b <;> exact sane_ofString _
  | .int i, _ => sane_ofString _
  | .str x, h => sane_repr (sane_of h)
  | .tup xs, h => sane_tuple (sane_showns xs h)
  | .lst xs, h => sane_list (sane_showns xs h)
  | .dct [] [], _ => by
    intro c hc
    have : c ∈ [123, 125] := hc
    simp only [List.mem_cons, List.not_mem_nil, or_false] at this
    omega
  | .dct (_ :: _) _, h => by cases h
  | .dct [] (_ :: _), h => by cases h
  | .obj _ _ _, h => by cases h
  | .own _, h => by cases h
  | .drw, h => by cases h
theorem sane_showns {B : Nat} : ∀ ds : List D, fits B ds = true → ∀ t ∈ PyData.shownAll (toPyRs ds), Sane t
  | [], _, t, h => by cases h
  | d :: ds, h, t, ht => by
    have h' : (fit B d && fits B ds) = true := h
    obtain ⟨h1, h2⟩ := Bool.and_eq_true_iff.mp h'
    have ht : t ∈ (toPyR d).shown :: PyData.shownAll (toPyRs ds) := ht
    rcases List.mem_cons.mp ht with rfl | ht
    · exact sane_shown d h1
    · exact sane_showns ds h2 t ht
end
theorem repr_plain {B n w : Nat} {d : D} (h : Fine B n w d) : plain (.str (reprS d)) = true := sane_plain (sane_shown d h.f)
end PL

/-! what the laws draw: names and words -/
namespace LN
open PySem L2 PI PL
def S_is_word : List S := [.ret (.and (.isi (.v 0) [.str]) (.and (.chain .le .le (.k (.int 1)) (.bi .len [.v 0]) (.k (.int 8))) (.bi .all [.lc [1] (.nm 1) (.v 0) (.k (.bl true)) (.cmp .inn (.v 1) (.k (.str "abcdefghijklmnopqrstuvwxyz")))])))]
def S_law_names : List S := [.asg (.tup [(.nm 2), (.nm 3)]) (.tup [.k (.str "abcdefghijklmnopqrstuvwxyz"), .k (.str "")]), .for_ (.nm 4) (.rng [.call 139 [.v 0, .k (.int 8)]]) [.asg (.nm 3) (.bin .add (.v 3) (.ix (.v 2) (.call 139 [.v 0, .k (.int 26)])))], .asg (.tup [(.nm 5), (.nm 6), (.nm 7)]) (.tup [.call 139 [.v 0, .bin .add (.bi .len [.v 3]) (.k (.int 1))], .call 139 [.v 0, .k (.int 26)], .ix (.lst [.k (.int 1), .k (.int 3), .k (.int 5), .k (.int 7), .k (.int 9), .k (.int 11)]) (.call 139 [.v 0, .k (.int 6)])]), .asg (.nm 8) (.sl (.bin .add (.v 3) (.bin .mul (.ix (.v 2) (.v 6)) (.k (.int 8)))) (.nop) (.k (.int 8))), .ite (.and (.cmp .gt (.v 7) (.k (.int 5))) (.cmp .lt (.v 1) (.k (.int 9)))) [.ret (.lc [4] (.nm 4) (.rng [.v 1]) (.k (.bl true)) (.ite (.cmp .gt (.v 7) (.k (.int 7))) (.sl (.v 8) (.v 4) (.nop)) (.sl (.v 8) (.nop) (.bin .sub (.bin .add (.v 4) (.k (.int 9))) (.v 1)))))] [], .ret (.lc [4] (.nm 4) (.rng [.v 1]) (.k (.bl true)) (.bin .add (.bin .add (.sl (.v 3) (.nop) (.v 5)) (.ix (.v 2) (.bin .mod (.bi .int [.bin .add (.v 6) (.bin .mul (.v 7) (.v 4))]) (.k (.int 26))))) (.sl (.v 3) (.v 5) (.nop))))]
def S_law_words : List S := [.ret (.bi .tuple [.bi .sorted [.call 135 [.v 0, .bin .add (.k (.int 3)) (.call 139 [.v 0, .bin .sub (.v 1) (.k (.int 2))])]]])]
def S_law_lots : List S := [.asg (.nm 1) (.lst [.tup []]), .for_ (.nm 2) (.v 0) [.asg (.nm 1) (.bin .add (.v 1) (.lc [3] (.nm 3) (.v 1) (.k (.bl true)) (.bin .add (.v 3) (.tup [.v 2]))))], .ret (.bi .sorted [.v 1])]
def S_law_threes : List S := [.ret (.lc [1] (.nm 1) (.call 127 [.v 0]) (.cmp .eq (.bi .len [.v 1]) (.k (.int 3))) (.v 1))]
def S_law_turn : List S := [.par [4, 5, 6] [.ix (.v 0) (.v 1), .ix (.v 0) (.v 2), .ix (.v 0) (.v 3)], .asg (.nm 7) (.bin .mul (.bin .sub (.ix (.v 5) (.k (.int 0))) (.ix (.v 4) (.k (.int 0)))) (.bin .sub (.ix (.v 6) (.k (.int 1))) (.ix (.v 4) (.k (.int 1))))), .ret (.bin .sub (.v 7) (.bin .mul (.bin .sub (.ix (.v 5) (.k (.int 1))) (.ix (.v 4) (.k (.int 1)))) (.bin .sub (.ix (.v 6) (.k (.int 0))) (.ix (.v 4) (.k (.int 0))))))]
def S_law_drawn : List S := [.for_ (.nm 2) (.rng [.k (.int 6)]) [.asg (.nm 3) (.bi .dict [.lc [7] (.nm 7) (.v 1) (.k (.bl true)) (.tup [.v 7, .tup [.bin .sub (.call 139 [.v 0, .k (.int 9)]) (.k (.int 2)), .bin .sub (.call 139 [.v 0, .k (.int 9)]) (.k (.int 4))]])]), .ite (.cmp .notin (.k (.int 0)) (.lc [8] (.nm 8) (.call 184 [.v 1]) (.k (.bl true)) (.call 189 [.v 3, .ix (.v 8) (.k (.int 0)), .ix (.v 8) (.k (.int 1)), .ix (.v 8) (.k (.int 2))]))) [.ret (.v 3)] []], .parT [(.nm 4), (.nm 3)] [.bi .list [.v 1], .dctO false], .for_ (.nm 5) (.rng [.bi .len [.v 1]]) [.asg (.nm 6) (.call 139 [.v 0, .bi .len [.v 4]]), .dputp (.v 3) (.ix (.v 4) (.v 6)) 4 (.tup [.v 5, .bin .mul (.v 5) (.v 5)]) (.bin .add (.sl (.v 4) (.nop) (.v 6)) (.sl (.v 4) (.bin .add (.v 6) (.k (.int 1))) (.nop)))], .ret (.v 3)]

structure Go (cs : List (Bool × OC)) (b : Nat) (s : SS) : Prop where
  cs : s.cs = cs
  ex : ∃ m, s.m = some m ∧ 0 ≤ m.at_ ∧ m.at_ + b ≤ GRD ∧ m.left.length ≤ 63
theorem Go.less {cs : List (Bool × OC)} {b c : Nat} {s : SS} (h : Go cs b s) (hc : c ≤ b) : Go cs c s := by
  obtain ⟨m, e, h1, h2, h3⟩ := h.ex
  exact ⟨h.cs, m, e, h1, by omega, h3⟩
theorem next_go {cs : List (Bool × OC)} {b : Nat} {n : Int} {s : SS} (h : Go cs (b + 1) s) (h1 : 0 < n) (h2 : n < 1073741824) : ∃ k s', nextM [.drw, .int n] s = .ok (.int k) s' ∧ 0 ≤ k ∧ k < n ∧ Go cs b s' := by
  have g1 : Go1 (b + 1) ⟨s.m, []⟩ := ⟨rfl, h.ex⟩
  obtain ⟨k, s', e, h3, h4, g2⟩ := next_ok g1 h1 h2
  refine ⟨k, ⟨s'.m, s.cs⟩, ?_, h3, h4, h.cs, g2.ex⟩
  obtain ⟨m, em, _⟩ := h.ex
  have e2 : nextM [.drw, .int n] ⟨s.m, []⟩ = .ok (.int k) s' := e
  show (match s.m with | some m => _ | none => _) = _
  have e3 : (match s.m with | some m => _ | none => _) = R.ok (D.int k) s' := e2
  rw [em] at e3 ⊢
  dsimp only at e3 ⊢
  split at e3
  · rename_i hc
    rw [if_pos hc]
    injection e3 with p1 p2
    injection p1 with p1
    rw [p1, ← p2]
  · cases e3
theorem fn_ret {n : Nat} {b : SM} {ds : List D} {d : D} {s s' : SS} {cs : List (Bool × OC)} (h : b (startE n ds) s = .rt d s') (hp : pureB d = true) (hc : s.cs = cs) (hc' : s'.cs = cs) : fnM n b ds s = .ok d s' := by
  unfold fnM
  rw [h]
  dsimp only
  rw [if_pos hp]
  unfold PI.cutS
  rw [hc, ← hc', List.take_length]
def LET : List Nat := ("abcdefghijklmnopqrstuvwxyz" : Str).cps.toList
def isWordS (x : Str) : Bool := (decide (1 ≤ x.length) && decide (x.length ≤ 8)) && x.cps.toList.all (fun c => LET.contains c)
def isWord : D → Bool
  | .str x => isWordS x
  | _ => false
def sgn (c : Nat) : D := .str ⟨#[c]⟩
theorem all_bools : ∀ (bs : List Bool), boolsD (bs.map D.bl) = some bs
  | [] => rfl
  | b :: bs => by show (boolsD (bs.map D.bl)).map (b :: ·) = _; rw [all_bools bs]; rfl
theorem bools_map {α : Type} (f : α → Bool) (xs : List α) : boolsD (xs.map fun a => D.bl (f a)) = some (xs.map f) := by rw [← all_bools, List.map_map]; rfl
theorem eqNil (L : List D) : eqD (.lst L) (.lst []) = some (.bl L.isEmpty) := by cases L <;> rfl
theorem neNil (L : List D) : neD (.lst L) (.lst []) = some (.bl (!L.isEmpty)) := by cases L <;> rfl
theorem none_bad {α β : Type} (p : α → Bool) (f : α → β) : ∀ xs : List α, ((xs.filter fun x => !p x).map f).isEmpty = xs.all p
  | [] => rfl
  | x :: xs => by
    rw [List.filter_cons, List.all_cons]
    cases h : p x with
    | true => exact none_bad p f xs
    | false => rfl
theorem cut1 {α : Type} (xs : List α) : cutL xs (some 1) none = xs.drop 1 := by
  unfold cutL
  rw [show (some (1 : Int)) = some ((1 : Nat) : Int) from rfl, HT.sIx_nat, HT.sIx_none]
  cases xs with
  | nil => rfl
  | cons x xs => simp [Nat.min_def]
theorem fine_not {B n w : Nat} {d : D} (hd : Fine B n w d) : (∀ c f v, d ≠ .obj c f v) ∧ (∀ i, d ≠ .own i) ∧ d ≠ .drw ∧ ∀ c C f v, d ≠ .exn c C f v := by
  refine ⟨fun c f v e => ?_, fun i e => ?_, fun e => ?_, fun c C f v e => ?_⟩ <;> (subst e; have := hd.f; cases this)
theorem len_chain {x : Str} {s : SS} {lo hi : Int} (h : x.length ≤ LIM) {Γ : Fns} {i : Nat} {env : Env'} (he : env[i]? = some (some (.str x))) :
    evC Γ (.chain .le .le (.k (.int lo)) (.bi .len [.v i]) (.k (.int hi))) env s = .ok (.bl (decide (lo ≤ x.length) && decide ((x.length : Int) ≤ hi))) s :=
  e_chain e_k (e_bi (n_cons (e_v he) n_nil) (show (if x.length ≤ LIM then some (D.int (x.length : Nat)) else none) = _ from if_pos h)) rfl fun _ => ⟨e_k, rfl⟩
theorem len_chainT {xs : List D} {s : SS} {lo hi : Int} {Γ : Fns} {i : Nat} {env : Env'} (he : env[i]? = some (some (.tup xs))) :
    evC Γ (.chain .le .le (.k (.int lo)) (.bi .len [.v i]) (.k (.int hi))) env s = .ok (.bl (decide (lo ≤ xs.length) && decide ((xs.length : Int) ≤ hi))) s :=
  e_chain e_k (e_bi (n_cons (e_v he) n_nil) rfl) rfl fun _ => ⟨e_k, rfl⟩
theorem len_fix (n lo hi : Nat) : (decide ((lo : Int) ≤ n) && decide ((n : Int) ≤ hi)) = (decide (lo ≤ n) && decide (n ≤ hi)) := by
  congr 1 <;> simp
theorem str_len {B n w : Nat} {x : Str} (hd : Fine B n w (.str x)) (hw : w ≤ LIM) : x.length ≤ LIM := by
  have := hd.w
  have e : wt (.str x) = 10 * x.length + 2 := rfl
  omega
theorem tup_len {B n w : Nat} {xs : List D} (hd : Fine B n w (.tup xs)) (hw : w ≤ LIM) : xs.length ≤ LIM := by
  have := hd.w
  have e : wt (.tup xs) = wts xs + 4 := rfl
  have := wts_len (xs := xs)
  omega
theorem is_word_ev (Γ : Fns) {x : Str} {s : SS} (hl : x.length ≤ LIM) {cs : List (Bool × OC)} (hc : s.cs = cs) : fnM 2 (evSs Γ S_is_word) [.str x] s = .ok (.bl (isWordS x)) s := by
  refine fn_ret (s_ret ?_ rfl) rfl hc hc
  refine e_and_t (e_isi (e_v rfl) rfl) ?_
  show _ = R.ok (D.bl (isWordS x)) s
  unfold isWordS
  rw [← len_fix x.length 1 8]
  refine e_and (len_chain hl rfl) fun _ => e_bi (n_cons (e_lcA (t := .nm 1) (ds := x.cps.toList.map sgn) (f := fun d => match d with | .str y => .bl (LET.contains (y.cps.getD 0 0)) | _ => .non) (i_walk (e_v rfl) rfl rfl) (by rw [List.length_map]; exact hl) fun d hd => ?_) n_nil) ?_
  · obtain ⟨c, _, rfl⟩ := List.mem_map.mp hd
    exact ⟨_, rfl, e_cmp (e_v rfl) e_k rfl, rfl⟩
  · show (boolsD ((x.cps.toList.map sgn).map _)).map (fun bs => D.bl (bs.all id)) = _
    rw [List.map_map]
    rw [show boolsD (x.cps.toList.map ((fun d => match d with | .str y => .bl (LET.contains (y.cps.getD 0 0)) | _ => .non) ∘ sgn)) = _ from bools_map (fun c => LET.contains c) x.cps.toList]
    show some (D.bl ((x.cps.toList.map fun c => LET.contains c).all id)) = _
    rw [List.all_map]
    rfl
/-- the law's own look -/
def rowD (r : List Str) : D := .tup (r.map .str)
def unS : D → Str
  | .str x => x
  | _ => ⟨#[]⟩
def unrow : D → List Str
  | .tup xs => xs.map unS
  | _ => []
theorem unrow_row (r : List Str) : unrow (rowD r) = r := by
  show (r.map D.str).map unS = r
  rw [List.map_map]
  exact List.map_id'' (fun _ => rfl) r
theorem unrow_rows (as : List (List Str)) : (as.map rowD).map unrow = as := by
  rw [List.map_map]
  exact List.map_id'' (fun r => unrow_row r) as
theorem rows_inj {as bs : List (List Str)} (h : as.map rowD = bs.map rowD) : as = bs := by
  rw [← unrow_rows as, h, unrow_rows]
def Wds (ws : List Str) : Prop := ∀ w ∈ ws, isWordS w = true
theorem let_small : ∀ c ∈ LET, c < 0x110000 := by decide +kernel
theorem word_plain {x : Str} (h : isWordS x = true) : plain (.str x) = true := by
  unfold isWordS at h
  rw [Bool.and_eq_true_iff] at h
  show x.cps.all (· < 0x110000) = true
  rw [Array.all_eq_true_iff_forall_mem]
  intro c hc
  have := List.all_eq_true.mp h.2 c (Array.mem_toList_iff.mpr hc)
  exact decide_eq_true (let_small c (by simpa using this))
theorem word_len {x : Str} (h : isWordS x = true) : 1 ≤ x.length ∧ x.length ≤ 8 := by
  unfold isWordS at h
  simp only [Bool.and_eq_true, decide_eq_true_eq] at h
  exact h.1
theorem row_plains : ∀ {r : List Str}, Wds r → plains (r.map D.str) = true ∧ deps (r.map D.str) = 0
  | [], _ => ⟨rfl, rfl⟩
  | x :: r, h => by
    obtain ⟨h1, h2⟩ := row_plains (r := r) fun w hw => h w (List.mem_cons_of_mem _ hw)
    refine ⟨?_, ?_⟩
    · show (plain (.str x) && plains (r.map D.str)) = true
      rw [word_plain (h x List.mem_cons_self), h1]; rfl
    · show max 0 (deps (r.map D.str)) = 0
      rw [h2]; rfl
theorem in_row {r : List Str} {x : Str} (hr : Wds r) (hx : isWordS x = true) : inD (.str x) (rowD r) = some (.bl (r.any fun y => y == x)) := by
  obtain ⟨h1, h2⟩ := row_plains hr
  show (if (plain (.str x) && plains (r.map D.str) && decide (min (dep (.str x)) (deps (r.map D.str)) ≤ 60)) = true then some (D.bl (inB (.str x) (r.map D.str))) else none) = _
  rw [word_plain hx, h1, h2, if_pos (show (true && true && decide (min (dep (D.str x)) 0 ≤ 60)) = true from rfl)]
  congr 2
  unfold inB
  rw [List.any_map]
  rfl
theorem at_in {α : Type} {xs : List α} {k : Int} (h0 : 0 ≤ k) (h1 : k < xs.length) : ∃ d, atI xs k = some d ∧ d ∈ xs := by
  have hk : k.toNat < xs.length := by omega
  refine ⟨xs[k.toNat], ?_, List.getElem_mem _⟩
  have e := atI_nat (xs := xs) (j := k.toNat) (v := xs[k.toNat]) (by simp)
  rw [show ((k.toNat : Nat) : Int) = k by omega] at e
  exact e
theorem e_next {Γ : Fns} {i : Nat} {c : C} {E : Env'} {n : Int} {d : D} {s s' : SS} (h139 : Γ 139 = nextM) (hv : E[i]? = some (some .drw)) (hb : evC Γ c E s = .ok (.int n) s) (h : nextM [.drw, .int n] s = .ok d s') : evC Γ (.call 139 [.v i, c]) E s = .ok d s' :=
  e_call (n_cons (e_v hv) (n_cons hb n_nil)) (by rw [h139]; exact h)
def tx (l : List Nat) : Str := ⟨l.toArray⟩
theorem tx_len (l : List Nat) : (tx l).length = l.length := by show l.toArray.size = _; simp
theorem tx_app (a b : List Nat) : tx a ++ tx b = tx (a ++ b) := by
  show (⟨a.toArray ++ b.toArray⟩ : Str) = _
  simp [tx]
theorem tx_add {a b : List Nat} (h : a.length + b.length ≤ 1000) : addD (.str (tx a)) (.str (tx b)) = some (.str (tx (a ++ b))) := by
  show (if (tx a).length + (tx b).length ≤ LIM then some (D.str (tx a ++ tx b)) else none) = _
  rw [tx_len, tx_len, if_pos (Nat.le_trans h (by decide)), tx_app]
theorem cutTo {α : Type} (xs : List α) (k : Nat) : cutL xs none (some (k : Int)) = xs.take k := by
  unfold cutL
  rw [HT.sIx_nat, HT.sIx_none, List.drop_zero, Nat.sub_zero]
  by_cases h : k ≤ xs.length
  · rw [Nat.min_eq_left h]
  · rw [Nat.min_eq_right (by omega), List.take_of_length_le (Nat.le_refl _), List.take_of_length_le (by omega)]
theorem cutFrom {α : Type} (xs : List α) (k : Nat) : cutL xs (some (k : Int)) none = xs.drop k := by
  unfold cutL
  rw [HT.sIx_nat, HT.sIx_none]
  rw [List.take_of_length_le (by rw [List.length_drop]; exact Nat.le_refl _)]
  by_cases h : k ≤ xs.length
  · rw [Nat.min_eq_left h]
  · rw [Nat.min_eq_right (by omega), List.drop_of_length_le (Nat.le_refl _), List.drop_of_length_le (by omega)]
theorem tx_cut {l : List Nat} (h : l.length ≤ 1000) (lo hi : Option Int) : cutD (.str (tx l)) lo hi = some (.str (tx (cutL l lo hi))) := by
  show (if (tx l).length ≤ LIM then some (D.str ⟨(cutL (tx l).cps.toList lo hi).toArray⟩) else none) = _
  rw [tx_len, if_pos (Nat.le_trans h (by decide))]
  show some (D.str ⟨(cutL (l.toArray).toList lo hi).toArray⟩) = _
  rw [List.toList_toArray]
  rfl
theorem tx_word {l : List Nat} (h1 : 1 ≤ l.length) (h2 : l.length ≤ 8) (h : ∀ c ∈ l, c ∈ LET) : isWordS (tx l) = true := by
  unfold isWordS
  rw [tx_len, decide_eq_true h1, decide_eq_true h2]
  show (true && true && (l.toArray.toList.all fun c => LET.contains c)) = true
  rw [List.toList_toArray, Bool.true_and, Bool.true_and]
  exact List.all_eq_true.mpr fun c hc => by simpa using h c hc
theorem tx_inj {a b : List Nat} (h : tx a = tx b) : a = b := by
  have : (tx a).cps.toList = (tx b).cps.toList := by rw [h]
  simpa [tx] using this
/-- a letter by its number -/
theorem let_at {k : Int} (h0 : 0 ≤ k) (h1 : k < 26) : ∃ c, ixD (.str "abcdefghijklmnopqrstuvwxyz") (.int k) = some (.str (tx [c])) ∧ LET[k.toNat]? = some c ∧ c ∈ LET := by
  have hk : k.toNat < LET.length := by have : LET.length = 26 := by decide
                                       omega
  refine ⟨LET[k.toNat], ?_, by simp, List.getElem_mem _⟩
  show (if Str.length "abcdefghijklmnopqrstuvwxyz" ≤ LIM then (atI LET k).map (fun c => D.str ⟨#[c]⟩) else none) = _
  rw [if_pos (by decide)]
  have e := atI_nat (xs := LET) (j := k.toNat) (v := LET[k.toNat]) (by simp)
  rw [show ((k.toNat : Nat) : Int) = k by omega] at e
  rw [e]
  rfl
abbrev LETD : D := .str "abcdefghijklmnopqrstuvwxyz"
theorem stem_ev {cs : List (Bool × OC)} (Γ : Fns) {b : Nat} {s : SS} {n : Int} (h139 : Γ 139 = nextM) (hg : Go cs (b + 8) s) :
    ∃ (l : List Nat) (x4 : Option D) (s' : SS) (ds : List D) (s1 : SS), evI Γ (.rng [.call 139 [.v 0, .k (.int 8)]]) [some .drw, some (.int n), some LETD, some (.str ""), none, none, none, none, none] s = .ok ds s1 ∧
      forL (.nm 4) (evSs Γ [.asg (.nm 3) (.bin .add (.v 3) (.ix (.v 2) (.call 139 [.v 0, .k (.int 26)])))]) ds [some .drw, some (.int n), some LETD, some (.str ""), none, none, none, none, none] s1 = .nx [some .drw, some (.int n), some LETD, some (.str (tx l)), x4, none, none, none, none] s' ∧
      l.length ≤ 7 ∧ (∀ c ∈ l, c ∈ LET) ∧ Go cs b s' := by
  obtain ⟨k, s1, hn, h0, h1, hg1⟩ := next_go (n := 8) hg (by decide) (by decide)
  have hr : inR k = true := by
    unfold inR
    rw [decide_eq_true (by omega), decide_eq_true (by omega)]; rfl
  have hlen : (rangeL 0 k).length = k.toNat := by simp [rangeL]
  obtain ⟨E, s2, hf, l, x4, rfl, hl, hc, hg2⟩ := for_inv (t := .nm 4) (bd := evSs Γ [.asg (.nm 3) (.bin .add (.v 3) (.ix (.v 2) (.call 139 [.v 0, .k (.int 26)])))])
    (fun ds E s' => ∃ (l : List Nat) (x4 : Option D), E = [some .drw, some (.int n), some LETD, some (.str (tx l)), x4, none, none, none, none] ∧ l.length + ds.length ≤ 7 ∧ (∀ c ∈ l, c ∈ LET) ∧ Go cs (b + ds.length) s')
    (ds := rangeL 0 k) (env := [some .drw, some (.int n), some LETD, some (.str ""), none, none, none, none, none]) (s := s1)
    ⟨[], none, rfl, by rw [hlen]; show 0 + _ ≤ 7; omega, (fun _ h => nomatch h), hg1.less (by rw [hlen]; omega)⟩
    (fun d ds env s' ⟨l, x4, e1, e2, e3, e4⟩ => by
      subst e1
      rw [List.length_cons] at e2 e4
      obtain ⟨j, s2, hn2, j0, j1, hg2⟩ := next_go (n := 26) (b := b + ds.length) e4 (by decide) (by decide)
      obtain ⟨c, ec, _, hc⟩ := let_at j0 j1
      refine ⟨_, _, s2, rfl, s_asg (d := .str (tx (l ++ [c]))) (E := [some .drw, some (.int n), some LETD, some (.str (tx (l ++ [c]))), some d, none, none, none, none]) (e_bin (e_v rfl) (e_ix (e_v rfl) (e_next h139 rfl e_k hn2) ec) (tx_add (by simp; omega))) rfl rfl, l ++ [c], some d, rfl, by simp; omega, fun z hz => ?_, hg2⟩
      rcases List.mem_append.mp hz with y | y
      · exact e3 z y
      · rw [List.mem_singleton.mp y]; exact hc)
  exact ⟨l, x4, s2, rangeL 0 k, s1, i_rng1 (e_next h139 rfl e_k hn) hr, hf, by simpa using hl, hc, by simpa using hg2⟩
theorem rep8 (c : Nat) : mulD (.str (tx [c])) (.int 8) = some (.str (tx [c, c, c, c, c, c, c, c])) := by
  show (if (2 ≤ (8 : Int) && (8 : Int) ≤ 1000 && decide ((tx [c]).length ≤ 1000)) = true then some (D.str (repS (tx [c]) (8 : Int).toNat)) else none) = _
  rw [tx_len, if_pos (show (decide ((2 : Int) ≤ 8) && decide ((8 : Int) ≤ 1000) && decide ([c].length ≤ 1000)) = true from rfl)]
  rfl
theorem bys : ∀ k : Int, 0 ≤ k → k < 6 → ∃ y : Int, ixD (.lst [.int 1, .int 3, .int 5, .int 7, .int 9, .int 11]) (.int k) = some (.int y) ∧ (y = 1 ∨ y = 3 ∨ y = 5 ∨ (5 < y ∧ y ≤ 11)) := by
  intro k h0 h1
  obtain ⟨d, h, hd⟩ := at_in (xs := [D.int 1, .int 3, .int 5, .int 7, .int 9, .int 11]) h0 h1
  simp only [List.mem_cons, List.not_mem_nil, or_false] at hd
  rcases hd with rfl | rfl | rfl | rfl | rfl | rfl
  · exact ⟨1, h, by omega⟩
  · exact ⟨3, h, by omega⟩
  · exact ⟨5, h, by omega⟩
  · exact ⟨7, h, by omega⟩
  · exact ⟨9, h, by omega⟩
  · exact ⟨11, h, by omega⟩
def unI : D → Nat
  | .int k => k.toNat
  | _ => 0
theorem range_mem {n : Nat} {d : D} (h : d ∈ rangeL 0 (n : Int)) : ∃ k : Nat, k < n ∧ d = .int (k : Int) := by
  unfold rangeL at h
  obtain ⟨k, hk, rfl⟩ := List.mem_map.mp h
  rw [List.mem_range] at hk
  exact ⟨k, by omega, by rw [Int.zero_add]⟩
theorem range_map {n : Nat} (g : Nat → Str) : (rangeL 0 (n : Int)).map (fun d => D.str (g (unI d))) = ((List.range n).map g).map D.str := by
  unfold rangeL
  rw [List.map_map, List.map_map]
  rw [show ((n : Int) - 0).toNat = n by omega]
  refine List.map_congr_left fun k _ => ?_
  show D.str (g ((0 : Int) + (k : Int)).toNat) = D.str (g k)
  rw [show ((0 : Int) + (k : Int)).toNat = k by omega]
theorem nodup_range {n : Nat} {g : Nat → Str} (h : ∀ i j, i < j → j < n → g i ≠ g j) : ((List.range n).map g).Nodup := by
  unfold List.Nodup
  rw [List.pairwise_map]
  refine List.Pairwise.imp_of_mem (R := fun a b => a < b) (fun {a b} ha hb hab => h a b hab (List.mem_range.mp hb)) List.pairwise_lt_range
structure Names (n : Nat) (ws : List Str) : Prop where
  len : ws.length = n
  nd : ws.Nodup
  wd : Wds ws
theorem names_of {n : Nat} {g : Nat → Str} (hw : ∀ k, k < n → isWordS (g k) = true) (h : ∀ i j, i < j → j < n → g i ≠ g j) : Names n ((List.range n).map g) :=
  ⟨by simp, nodup_range h, fun w hw' => by
    obtain ⟨k, hk, rfl⟩ := List.mem_map.mp hw'
    exact hw k (List.mem_range.mp hk)⟩
theorem names_ev {cs : List (Bool × OC)} (Γ : Fns) {b n : Nat} {s : SS} (h139 : Γ 139 = nextM) (hn : 3 ≤ n) (hn6 : n ≤ 6) (hg : Go cs (b + 11) s) :
    ∃ ws s', fnM 9 (evSs Γ S_law_names) [.drw, .int n] s = .ok (.lst (ws.map D.str)) s' ∧ Names n ws ∧ Go cs b s' := by
  obtain ⟨l, x4, s2, ds, s1, hi, hf, hl, hc, hg2⟩ := stem_ev Γ (b := b + 3) (n := n) h139 hg
  obtain ⟨at_, s3, n3, a0, a1, hg3⟩ := next_go (n := ((tx l).length : Int) + 1) (b := b + 2) hg2 (by omega) (by rw [tx_len]; omega)
  obtain ⟨fi, s4, n4, f0, f1, hg4⟩ := next_go (n := 26) (b := b + 1) hg3 (by decide) (by decide)
  obtain ⟨bi, s5, n5, b0, b1, hg5⟩ := next_go (n := 6) (b := b) hg4 (by decide) (by decide)
  obtain ⟨by_, eby, hby⟩ := bys bi b0 b1
  obtain ⟨c1, ec1, _, hc1⟩ := let_at f0 f1
  have hr : inR (n : Int) = true := by
    unfold inR
    rw [decide_eq_true (by omega), decide_eq_true (by omega)]; rfl
  have hrl : (rangeL 0 (n : Int)).length ≤ LIM := by
    have : (rangeL 0 (n : Int)).length = n := by simp [rangeL]
    rw [this]; exact Nat.le_trans hn6 (by decide)
  obtain ⟨wl, ewl⟩ : ∃ wl : List Nat, wl = (l ++ [c1, c1, c1, c1, c1, c1, c1, c1]).take 8 := ⟨_, rfl⟩
  have hwl : wl.length = 8 := by rw [ewl]; simp
  have hwc : ∀ c ∈ wl, c ∈ LET := fun c h => by
    rw [ewl] at h
    have h := List.mem_of_mem_take h
    rcases List.mem_append.mp h with z | z
    · exact hc c z
    · simp only [List.mem_cons, List.not_mem_nil, or_false, or_self] at z
      rw [z]; exact hc1
  let E1 : Env' := [some .drw, some (.int n), some LETD, some (.str (tx l)), x4, some (.int at_), some (.int fi), some (.int by_), some (.str (tx wl))]
  -- what is behind the word
  have tail : ∃ ws, evSs Γ [.ite (.and (.cmp .gt (.v 7) (.k (.int 5))) (.cmp .lt (.v 1) (.k (.int 9)))) [.ret (.lc [4] (.nm 4) (.rng [.v 1]) (.k (.bl true)) (.ite (.cmp .gt (.v 7) (.k (.int 7))) (.sl (.v 8) (.v 4) (.nop)) (.sl (.v 8) (.nop) (.bin .sub (.bin .add (.v 4) (.k (.int 9))) (.v 1)))))] [],
      .ret (.lc [4] (.nm 4) (.rng [.v 1]) (.k (.bl true)) (.bin .add (.bin .add (.sl (.v 3) (.nop) (.v 5)) (.ix (.v 2) (.bin .mod (.bi .int [.bin .add (.v 6) (.bin .mul (.v 7) (.v 4))]) (.k (.int 26))))) (.sl (.v 3) (.v 5) (.nop))))] E1 s5 = .rt (.lst (ws.map D.str)) s5 ∧ Names n ws := by
    have t9 : evC Γ (.cmp .lt (.v 1) (.k (.int 9))) E1 s5 = .ok (.bl true) s5 := by
      refine e_cmp (e_v rfl) e_k ?_
      show some (D.bl (decide ((n : Int) < 9))) = _
      rw [decide_eq_true (by omega)]
    have t5 : evC Γ (.cmp .gt (.v 7) (.k (.int 5))) E1 s5 = .ok (.bl (decide (5 < by_))) s5 := e_cmp (e_v rfl) e_k rfl
    by_cases h5 : 5 < by_
    · rw [decide_eq_true h5] at t5
      by_cases h7 : 7 < by_
      · -- ends of the word
        refine ⟨(List.range n).map fun k => tx (wl.drop k), ?_, names_of (fun k hk => tx_word (by rw [List.length_drop]; omega) (by rw [List.length_drop]; omega) fun c h => hwc c (List.mem_of_mem_drop h)) fun i j hij hj e => ?_⟩
        · refine s_if_ret (e_and_t t5 t9) (s_ret ?_ rfl)
          rw [← range_map]
          refine e_lcA (t := .nm 4) (i_rng1 (e_v rfl) hr) hrl fun d hd => ?_
          obtain ⟨k, hk, rfl⟩ := range_mem hd
          refine ⟨_, rfl, e_ite (p := true) (e_cmp (e_v rfl) e_k (by show some (D.bl (decide (7 < by_))) = _; rw [decide_eq_true h7])) (fun _ => e_sl (e_v rfl) (o_int (e_v rfl)) o_nop ?_) (fun z => nomatch z), rfl⟩
          show cutD (.str (tx wl)) (some (k : Int)) none = _
          rw [tx_cut (by omega), cutFrom]
          rfl
        · have := congrArg List.length (tx_inj e)
          rw [List.length_drop, List.length_drop] at this
          omega
      · -- beginnings of the word
        refine ⟨(List.range n).map fun k => tx (wl.take (k + 9 - n)), ?_, names_of (fun k hk => tx_word (by rw [List.length_take]; omega) (by rw [List.length_take]; omega) fun c h => hwc c (List.mem_of_mem_take h)) fun i j hij hj e => ?_⟩
        · refine s_if_ret (e_and_t t5 t9) (s_ret ?_ rfl)
          rw [← range_map]
          refine e_lcA (t := .nm 4) (i_rng1 (e_v rfl) hr) hrl fun d hd => ?_
          obtain ⟨k, hk, rfl⟩ := range_mem hd
          refine ⟨_, rfl, e_ite (p := false) (e_cmp (e_v rfl) e_k (by show some (D.bl (decide (7 < by_))) = _; rw [decide_eq_false h7])) (fun z => nomatch z) (fun _ => e_sl (e_v rfl) o_nop (o_int (i := (k : Int) + 9 - n) (e_bin (e_bin (e_v rfl) e_k rfl) (e_v rfl) rfl)) ?_), rfl⟩
          show cutD (.str (tx wl)) none (some ((k : Int) + 9 - n)) = _
          rw [tx_cut (by omega), show (k : Int) + 9 - n = ((k + 9 - n : Nat) : Int) by omega, cutTo]
          rfl
        · have := congrArg List.length (tx_inj e)
          rw [List.length_take, List.length_take] at this
          omega
    · rw [decide_eq_false h5] at t5
      let gk : Nat → Nat := fun k => ((fi + by_ * k) % 26).toNat
      let cs : Nat → Nat := fun k => LET[gk k]?.getD 0
      have hgk : ∀ k, gk k < 26 := fun k => by
        have := Int.emod_nonneg (fi + by_ * k) (show (26 : Int) ≠ 0 by decide)
        have := Int.emod_lt_of_pos (fi + by_ * k) (show (0 : Int) < 26 by decide)
        show ((fi + by_ * k) % 26).toNat < 26
        omega
      have hcs : ∀ k, cs k ∈ LET := fun k => by
        have h : gk k < LET.length := by have : LET.length = 26 := by decide
                                         have := hgk k
                                         omega
        show LET[gk k]?.getD 0 ∈ LET
        rw [List.getElem?_eq_getElem h]
        exact List.getElem_mem _
      have a2 : at_.toNat ≤ l.length := by rw [tx_len] at a1; omega
      refine ⟨(List.range n).map fun k => tx (l.take at_.toNat ++ [cs k] ++ l.drop at_.toNat), ?_, names_of (fun k hk => tx_word (by rw [List.length_append, List.length_append]; simp; omega) (by simp; omega) fun c h => ?_) fun i j hij hj e => ?_⟩
      · refine s_if_f (e_and_f t5) (s_ret ?_ rfl)
        rw [← range_map]
        refine e_lcA (t := .nm 4) (i_rng1 (e_v rfl) hr) hrl fun d hd => ?_
        obtain ⟨k, hk, rfl⟩ := range_mem hd
        have sm : mulD (.int by_) (.int (k : Int)) = some (.int (by_ * k)) := mul_small (.inr (small_of (by omega) (by omega)))
        have m0 := Int.emod_nonneg (fi + by_ * k) (show (26 : Int) ≠ 0 by decide)
        have m1 := Int.emod_lt_of_pos (fi + by_ * k) (show (0 : Int) < 26 by decide)
        obtain ⟨c, ec, el, _⟩ := let_at m0 m1
        have ecs : c = cs k := by show c = LET[gk k]?.getD 0; rw [show LET[gk k]? = some c from el]; rfl
        refine ⟨_, rfl, e_bin (x := .str (tx (l.take at_.toNat ++ [c]))) (e_bin (x := .str (tx (l.take at_.toNat))) (e_sl (e_v rfl) o_nop (o_int (e_v rfl)) ?_) (e_ix (e_v rfl) (e_bin (e_bi (n_cons (e_bin (e_v rfl) (e_bin (e_v rfl) (e_v rfl) sm) rfl) n_nil) rfl) e_k (mod_pos (by decide))) ec) (tx_add (a := l.take at_.toNat) (b := [c]) (by simp; omega))) (e_sl (d := .str (tx (l.drop at_.toNat))) (e_v rfl) (o_int (e_v rfl)) o_nop ?_) ((tx_add (a := l.take at_.toNat ++ [c]) (b := l.drop at_.toNat) (by simp; omega)).trans ?_), rfl⟩
        · show cutD (.str (tx l)) none (some at_) = _
          rw [tx_cut (by omega), show at_ = ((at_.toNat : Nat) : Int) by omega, cutTo, Int.toNat_natCast]
        · show cutD (.str (tx l)) (some at_) none = _
          rw [tx_cut (by omega), show at_ = ((at_.toNat : Nat) : Int) by omega, cutFrom, Int.toNat_natCast]
        · rw [ecs]
          rfl
      · rcases List.mem_append.mp h with z | z
        · rcases List.mem_append.mp z with y | y
          · exact hc c (List.mem_of_mem_take y)
          · rw [List.mem_singleton.mp y]; exact hcs k
        · exact hc c (List.mem_of_mem_drop z)
      · have e := tx_inj e
        rw [List.append_assoc, List.append_assoc] at e
        have e := List.append_cancel_left e
        have e3 : cs i = cs j := by
          have := congrArg List.head? e
          simpa using this
        have lnd : ∀ p : Nat, p < 26 → ∀ q : Nat, q < 26 → LET[p]?.getD 0 = LET[q]?.getD 0 → p = q := by decide +kernel
        have e4 := lnd _ (hgk i) _ (hgk j) e3
        have m0 := Int.emod_nonneg (fi + by_ * i) (show (26 : Int) ≠ 0 by decide)
        have m1 := Int.emod_nonneg (fi + by_ * j) (show (26 : Int) ≠ 0 by decide)
        have e5 : (fi + by_ * i) % 26 = (fi + by_ * j) % 26 := by
          have : ((fi + by_ * i) % 26).toNat = ((fi + by_ * j) % 26).toNat := e4
          omega
        rcases hby with rfl | rfl | rfl | h
        · omega
        · omega
        · omega
        · omega
  obtain ⟨ws, ht, hN⟩ := tail
  refine ⟨ws, s5, ?_, hN, hg5⟩
  refine fn_ret (d := .lst (ws.map D.str)) ?_ rfl hg.cs hg5.cs
  refine s_asg (d := .tup [LETD, .str ""]) (E := [some .drw, some (.int n), some LETD, some (.str ""), none, none, none, none, none]) rfl rfl ?_
  refine s_for hi hf ?_
  refine s_asg (d := .tup [.int at_, .int fi, .int by_]) (E := [some .drw, some (.int n), some LETD, some (.str (tx l)), x4, some (.int at_), some (.int fi), some (.int by_), none]) (s1 := s5) ?_ rfl ?_
  · refine e_tup (l_cons (e_next h139 rfl (e_bin (x := .int ((tx l).length : Nat)) (e_bi (n_cons (e_v rfl) n_nil) ?_) e_k rfl) n3) rfl (l_cons (e_next h139 rfl e_k n4) rfl (l_cons (e_ix (x := .lst [.int 1, .int 3, .int 5, .int 7, .int 9, .int 11]) (s1 := s4) rfl (e_next h139 rfl e_k n5) eby) rfl l_nil))) rfl (show 3 ≤ LIM by decide)
    show (if (tx l).length ≤ LIM then some (D.int ((tx l).length : Nat)) else none) = _
    rw [tx_len, if_pos (Nat.le_trans hl (by decide))]
  · refine s_asg (d := .str (tx wl)) (E := E1) (e_sl (e_bin (e_v rfl) (e_bin (e_ix (e_v rfl) (e_v rfl) ec1) e_k (rep8 c1)) (tx_add (by simp; omega))) o_nop (o_int e_k) ?_) rfl ht
    show cutD (.str (tx (l ++ [c1, c1, c1, c1, c1, c1, c1, c1]))) none (some 8) = _
    rw [tx_cut (by simp; omega), show (8 : Int) = ((8 : Nat) : Int) from rfl, cutTo, ewl]
theorem le_total : PySem.W.TotalLe fun a b : Str => !ltS b a := by
  refine ⟨fun a b c h1 h2 => ?_, fun a b => ?_⟩
  · simp only [Bool.not_eq_true'] at h1 h2 ⊢
    unfold ltS at h1 h2 ⊢
    have h1 := of_decide_eq_false h1
    have h2 := of_decide_eq_false h2
    refine decide_eq_false ?_
    exact List.not_lt.mpr (List.le_trans (List.not_lt.mp h1) (List.not_lt.mp h2))
  · simp only [Bool.not_eq_true']
    cases h : ltS b a with
    | false => exact .inl rfl
    | true => exact .inr (ltS_asymm h)
theorem sorted_perm (ws : List Str) : (sortBy ltS ws).Perm ws := by
  rw [sortBy_merge le_total]
  exact List.mergeSort_perm _ _
theorem sorted_asc {ws : List Str} (h : ws.Nodup) : Asc (sortBy ltS ws) := by
  have h1 := sortBy_pw le_total ws
  have h2 : (sortBy ltS ws).Nodup := (sorted_perm ws).nodup_iff.mpr h
  refine List.Pairwise.imp (R := fun a b => (!ltS b a) = true ∧ a ≠ b) (fun {a b} hab => ?_) (List.pairwise_and_iff.mpr ⟨h1, h2⟩)
  obtain ⟨p, q⟩ := hab
  simp only [Bool.not_eq_true'] at p
  unfold ltS at p ⊢
  have p := of_decide_eq_false p
  refine decide_eq_true ?_
  rcases List.le_iff_lt_or_eq.mp (List.not_lt.mp p) with z | z
  · exact z
  · refine absurd ?_ q
    obtain ⟨⟨x⟩⟩ := a
    obtain ⟨⟨y⟩⟩ := b
    have z : x = y := z
    rw [z]
theorem sort_words {ws : List Str} (hw : Wds ws) (h0 : 0 < ws.length) (hl : ws.length ≤ 1000) : sortedD [.lst (ws.map D.str)] = some (.lst ((sortBy ltS ws).map D.str)) := by
  have ok : sortOk (ws.map D.str) = true := by
    unfold sortOk
    obtain ⟨p1, p2⟩ := row_plains hw
    have p3 : allAlikeB (ws.map D.str) = true := by
      unfold allAlikeB
      refine List.all_eq_true.mpr fun x hx => List.all_eq_true.mpr fun y hy => ?_
      obtain ⟨a, _, rfl⟩ := List.mem_map.mp hx
      obtain ⟨b, _, rfl⟩ := List.mem_map.mp hy
      rfl
    have p4 : kindB (ws.map D.str) = true := by
      cases ws with
      | nil => cases h0
      | cons r L =>
        show List.all (.str r :: L.map D.str) (fun d => !isTupB d) = true
        refine List.all_eq_true.mpr fun x hx => ?_
        rcases List.mem_cons.mp hx with rfl | hx
        · rfl
        · obtain ⟨a, _, rfl⟩ := List.mem_map.mp hx
          rfl
    rw [p1, p3, p4, p2, decide_eq_true (show (ws.map D.str).length ≤ LIM by rw [List.length_map]; exact Nat.le_trans hl (by decide))]
    rfl
  show (if sortOk (ws.map D.str) = true then some (D.lst (sortBy ltB (ws.map D.str))) else none) = _
  rw [if_pos ok, sortBy_map (lt := ltS) D.str ws fun a _ b _ => rfl]
theorem names_sorted {n : Nat} {ws : List Str} (h : Names n ws) : Wds (sortBy ltS ws) ∧ Asc (sortBy ltS ws) ∧ (sortBy ltS ws).length = n :=
  ⟨fun w hw => h.wd w (mem_sortBy.mp hw), sorted_asc h.nd, by rw [(sorted_perm ws).length_eq, h.len]⟩
theorem words_ev {cs : List (Bool × OC)} (Γ : Fns) {b : Nat} {s : SS} (h139 : Γ 139 = nextM) (h135 : ∀ {b n : Nat} {s : SS}, 3 ≤ n → n ≤ 6 → Go cs (b + 11) s → ∃ ws s', Γ 135 [.drw, .int (n : Int)] s = .ok (.lst (ws.map D.str)) s' ∧ Names n ws ∧ Go cs b s') (hg : Go cs (b + 12) s) :
    ∃ ws s', fnM 2 (evSs Γ S_law_words) [.drw, .int 5] s = .ok (rowD ws) s' ∧ Wds ws ∧ Asc ws ∧ ws.length ∈ [3, 4, 5] ∧ Go cs b s' := by
  obtain ⟨k, s1, n1, k0, k1, hg1⟩ := next_go (n := 3) (b := b + 11) hg (by decide) (by decide)
  obtain ⟨ws, s2, n2, hN, hg2⟩ := h135 (n := 3 + k.toNat) (by omega) (by omega) hg1
  rw [show ((3 + k.toNat : Nat) : Int) = 3 + k by omega] at n2
  obtain ⟨h1, h2, h3⟩ := names_sorted hN
  refine ⟨sortBy ltS ws, s2, ?_, h1, h2, ?_, hg2⟩
  · refine fn_ret (s_ret (e_bi (n_cons (e_bi (n_cons (e_call (n_cons (e_v rfl) (n_cons (e_bin e_k (e_next h139 rfl (e_bin (e_v rfl) e_k rfl) n1) rfl) n_nil)) n2) n_nil) (sort_words hN.wd (by rw [hN.len]; omega) (by rw [hN.len]; omega))) n_nil) rfl) rfl) rfl hg.cs hg2.cs
  · rw [h3]
    have : k.toNat = 0 ∨ k.toNat = 1 ∨ k.toNat = 2 := by omega
    rcases this with e | e | e <;> rw [e] <;> decide
end LN

namespace K70
open PySem L2 PyProof.Rows PI
def top (i : Nat) : Stmt := PySem.Challenge.pw_leftmaps_k70_errors.main.body.getD i (.Pass ⟨0, 0, 0, 0⟩)
def topM (i j : Nat) : Stmt := (clsB (top i)).getD j (.Pass ⟨0, 0, 0, 0⟩)
/-- what the module's other names hold -/
structure G (mg : Str → Option Value) : Prop where
  IndexError : mg "IndexError" = none
  KeyError : mg "KeyError" = none
  LookupError : mg "LookupError" = none
  OverflowError : mg "OverflowError" = none
  ValueError : mg "ValueError" = none
  enumerate : mg "enumerate" = none
  int_ : mg "int" = none
  isinstance : mg "isinstance" = none
  len : mg "len" = none
  list_ : mg "list" = none
  min : mg "min" = none
  range : mg "range" = none
  repr : mg "repr" = none
  super : mg "super" = none
abbrev st_law_value : Stmt := top 19
def N_law_value : List Str := ["_law_m"]
def S_law_value : List S := [.ret (.ix (.lst [.k .non, .k (.int 0), .k (.int 5), .neg (.k (.int 1)), .k (.str "a"), .k (.str ""), .tup [], .tup [.k (.int 1), .k (.int 2)], .lst [], .dct0, .k (.bl true), .bin .pow (.k (.int 10)) (.k (.int 30))]) (.call 139 [.v 0, .k (.int 12)]))]
theorem sc_law_value : FnScope N_law_value ["_law_m"] (defScope st_law_value) := ⟨rfl, rfl, rfl, by decide +kernel, rfl, by decide +kernel, by decide +kernel⟩
set_option maxHeartbeats 4000000 in
theorem b_law_value {P : Program} {w : World} {K : PySem.W.Frag} {mg : Str → Option Value} {base : Heap} {cls : Nat → Addr} {k : Nat} {Γ : Fns} {f : Addr} {cdv : Value} {A : Around} {out : List Env} {s : Shared} {H : Hp} {E : XK} (g : G mg) (h__law_next : FnAt P w K mg base ⟨cls, fldX⟩ (k + 1) "_law_next" ["_law_m", "_law_many"] (Γ 139))
    (ok : Okx (cxOf (L2.CX P w) P w K mg base N_law_value "_law_value" (defScope st_law_value) f cdv A out s H E) k) (tk : Takes (cxOf (L2.CX P w) P w K mg base N_law_value "_law_value" (defScope st_law_value) f cdv A out s H E) (wE E)) (hp : PassesOwn (model P w) (cxOf (L2.CX P w) P w K mg base N_law_value "_law_value" (defScope st_law_value) f cdv A out s H E).A (cxOf (L2.CX P w) P w K mg base N_law_value "_law_value" (defScope st_law_value) f cdv A out s H E).env (cxOf (L2.CX P w) P w K mg base N_law_value "_law_value" (defScope st_law_value) f cdv A out s H E).xe) : JSs (cxOf (L2.CX P w) P w K mg base N_law_value "_law_value" (defScope st_law_value) f cdv A out s H E) ⟨cls, fldX⟩ (wE E) Γ (defBody st_law_value) S_law_value :=
  (js_cons (js_ret (j_ix ok (j_lst (jl_cons j_non (jl_cons j_int (jl_cons j_int (jl_cons (j_neg j_int) (jl_cons j_str (jl_cons j_str (jl_cons (j_tup jl_nil) (jl_cons (j_tup (jl_cons j_int (jl_cons j_int jl_nil))) (jl_cons (j_lst jl_nil) (jl_cons j_dct0 (jl_cons j_bl (jl_cons (j_bin .pow j_int j_int) jl_nil))))))))))))) (j_call h__law_next ok tk (jn_cons (j_v 0) (jn_cons j_int jn_nil)))))
  js_nil)
abbrev st_law_kinds : Stmt := top 20
def N_law_kinds : List Str := ["_law_one", "_law_found"]
def S_law_kinds : List S := [.asg (.nm 1) (.lst [.call 840 [.v 0], .call 841 [.v 0], .call 842 [.v 0], .call 843 [.v 0]]), .asg (.nm 1) (.bin .add (.v 1) (.lst [.call 844 [.v 0], .call 845 [.v 0], .call 846 [.v 0]])), .asg (.nm 1) (.bin .add (.v 1) (.lst [.call 847 [.v 0], .call 848 [.v 0], .call 849 [.v 0]])), .asg (.nm 1) (.bin .add (.v 1) (.lst [.call 850 [.v 0], .call 851 [.v 0]])), .ret (.bin .add (.v 1) (.lst [.call 852 [.v 0], .call 853 [.v 0]]))]
theorem sc_law_kinds : FnScope N_law_kinds ["_law_one"] (defScope st_law_kinds) := ⟨rfl, rfl, rfl, by decide +kernel, rfl, by decide +kernel, by decide +kernel⟩
set_option maxHeartbeats 4000000 in
theorem b_law_kinds {P : Program} {w : World} {K : PySem.W.Frag} {mg : Str → Option Value} {base : Heap} {cls : Nat → Addr} {k : Nat} {Γ : Fns} {f : Addr} {cdv : Value} {A : Around} {out : List Env} {s : Shared} {H : Hp} {E : XK} (g : G mg) (t_840 : IsX K ⟨cls, fldX⟩ [.ref (cls 0)] (Γ 840)) (t_841 : IsX K ⟨cls, fldX⟩ [.ref (cls 1)] (Γ 841)) (t_842 : IsX K ⟨cls, fldX⟩ [.ref (cls 2)] (Γ 842)) (t_843 : IsX K ⟨cls, fldX⟩ [.ref (cls 3)] (Γ 843)) (t_844 : IsX K ⟨cls, fldX⟩ [.ref (cls 4)] (Γ 844)) (t_845 : IsX K ⟨cls, fldX⟩ [.ref (cls 5)] (Γ 845)) (t_846 : IsX K ⟨cls, fldX⟩ [.ref (cls 6)] (Γ 846)) (t_847 : IsX K ⟨cls, fldX⟩ [.ref (cls 7)] (Γ 847)) (t_848 : IsX K ⟨cls, fldX⟩ [.ref (cls 8)] (Γ 848)) (t_849 : IsX K ⟨cls, fldX⟩ [.ref (cls 9)] (Γ 849)) (t_850 : IsX K ⟨cls, fldX⟩ [.ref (cls 10)] (Γ 850)) (t_851 : IsX K ⟨cls, fldX⟩ [.ref (cls 11)] (Γ 851)) (t_852 : IsX K ⟨cls, fldX⟩ [.ref (cls 12)] (Γ 852)) (t_853 : IsX K ⟨cls, fldX⟩ [.ref (cls 13)] (Γ 853)) (o_BadPlaces : mg "BadPlaces" = some (.ref (cls 0))) (o_BadPlace : mg "BadPlace" = some (.ref (cls 1))) (o_BadLot : mg "BadLot" = some (.ref (cls 2))) (o_BadTurns : mg "BadTurns" = some (.ref (cls 3))) (o_BadSpots : mg "BadSpots" = some (.ref (cls 4))) (o_BadNet : mg "BadNet" = some (.ref (cls 5))) (o_BadRound : mg "BadRound" = some (.ref (cls 6))) (o_BadClaim : mg "BadClaim" = some (.ref (cls 7))) (o_BadFacts : mg "BadFacts" = some (.ref (cls 8))) (o_BadNumber : mg "BadNumber" = some (.ref (cls 9))) (o_BadPaper : mg "BadPaper" = some (.ref (cls 10))) (o_BadText : mg "BadText" = some (.ref (cls 11))) (o_Quarrel : mg "Quarrel" = some (.ref (cls 12))) (o_TooMany : mg "TooMany" = some (.ref (cls 13)))
    (ok : Okx (cxOf (L2.CX P w) P w K mg base N_law_kinds "_law_kinds" (defScope st_law_kinds) f cdv A out s H E) k) (tk : Takes (cxOf (L2.CX P w) P w K mg base N_law_kinds "_law_kinds" (defScope st_law_kinds) f cdv A out s H E) (wE E)) (hp : PassesOwn (model P w) (cxOf (L2.CX P w) P w K mg base N_law_kinds "_law_kinds" (defScope st_law_kinds) f cdv A out s H E).A (cxOf (L2.CX P w) P w K mg base N_law_kinds "_law_kinds" (defScope st_law_kinds) f cdv A out s H E).env (cxOf (L2.CX P w) P w K mg base N_law_kinds "_law_kinds" (defScope st_law_kinds) f cdv A out s H E).xe) : JSs (cxOf (L2.CX P w) P w K mg base N_law_kinds "_law_kinds" (defScope st_law_kinds) f cdv A out s H E) ⟨cls, fldX⟩ (wE E) Γ (defBody st_law_kinds) S_law_kinds :=
  (js_cons (js_set 1 ok (j_lst (jl_cons (j_isx 840 t_840 g.isinstance (j_v 0) (jcl_own o_BadPlaces)) (jl_cons (j_isx 841 t_841 g.isinstance (j_v 0) (jcl_own o_BadPlace)) (jl_cons (j_isx 842 t_842 g.isinstance (j_v 0) (jcl_own o_BadLot)) (jl_cons (j_isx 843 t_843 g.isinstance (j_v 0) (jcl_own o_BadTurns)) jl_nil))))))
  (js_cons (js_set 1 ok (j_bin .add (j_v 1) (j_lst (jl_cons (j_isx 844 t_844 g.isinstance (j_v 0) (jcl_own o_BadSpots)) (jl_cons (j_isx 845 t_845 g.isinstance (j_v 0) (jcl_own o_BadNet)) (jl_cons (j_isx 846 t_846 g.isinstance (j_v 0) (jcl_own o_BadRound)) jl_nil))))))
  (js_cons (js_set 1 ok (j_bin .add (j_v 1) (j_lst (jl_cons (j_isx 847 t_847 g.isinstance (j_v 0) (jcl_own o_BadClaim)) (jl_cons (j_isx 848 t_848 g.isinstance (j_v 0) (jcl_own o_BadFacts)) (jl_cons (j_isx 849 t_849 g.isinstance (j_v 0) (jcl_own o_BadNumber)) jl_nil))))))
  (js_cons (js_set 1 ok (j_bin .add (j_v 1) (j_lst (jl_cons (j_isx 850 t_850 g.isinstance (j_v 0) (jcl_own o_BadPaper)) (jl_cons (j_isx 851 t_851 g.isinstance (j_v 0) (jcl_own o_BadText)) jl_nil)))))
  (js_cons (js_ret (j_bin .add (j_v 1) (j_lst (jl_cons (j_isx 852 t_852 g.isinstance (j_v 0) (jcl_own o_Quarrel)) (jl_cons (j_isx 853 t_853 g.isinstance (j_v 0) (jcl_own o_TooMany)) jl_nil)))))
  js_nil)))))
abbrev st_law_field : Stmt := top 21
def N_law_field : List Str := ["_law_one"]
def S_law_field : List S := [.ite (.call 854 [.v 0]) [.ret (.call 831 [.v 0])] [], .ite (.call 855 [.v 0]) [.ret (.call 830 [.v 0])] [], .ite (.call 848 [.v 0]) [.ret (.call 832 [.v 0])] [], .ite (.call 851 [.v 0]) [.ret (.call 833 [.v 0])] [], .ret (.ite (.call 852 [.v 0]) (.call 834 [.v 0]) (.call 835 [.v 0]))]
theorem sc_law_field : FnScope N_law_field ["_law_one"] (defScope st_law_field) := ⟨rfl, rfl, rfl, by decide +kernel, rfl, by decide +kernel, by decide +kernel⟩
set_option maxHeartbeats 4000000 in
theorem b_law_field {P : Program} {w : World} {K : PySem.W.Frag} {mg : Str → Option Value} {base : Heap} {cls : Nat → Addr} {k : Nat} {Γ : Fns} {f : Addr} {cdv : Value} {A : Around} {out : List Env} {s : Shared} {H : Hp} {E : XK} (g : G mg) (xa_place : Γ 831 = xatM "place") (xa_value : Γ 830 = xatM "value") (xa_number : Γ 832 = xatM "number") (xa_line : Γ 833 = xatM "line") (xa_tree : Γ 834 = xatM "tree") (xa_most : Γ 835 = xatM "most") (t_854 : IsX K ⟨cls, fldX⟩ [.ref (cls 3), .ref (cls 4), .ref (cls 10)] (Γ 854)) (t_855 : IsX K ⟨cls, fldX⟩ [.ref (cls 0), .ref (cls 1), .ref (cls 2), .ref (cls 5), .ref (cls 6), .ref (cls 7), .ref (cls 9)] (Γ 855)) (t_848 : IsX K ⟨cls, fldX⟩ [.ref (cls 8)] (Γ 848)) (t_851 : IsX K ⟨cls, fldX⟩ [.ref (cls 11)] (Γ 851)) (t_852 : IsX K ⟨cls, fldX⟩ [.ref (cls 12)] (Γ 852)) (o_BadTurns : mg "BadTurns" = some (.ref (cls 3))) (o_BadSpots : mg "BadSpots" = some (.ref (cls 4))) (o_BadPaper : mg "BadPaper" = some (.ref (cls 10))) (o_BadPlaces : mg "BadPlaces" = some (.ref (cls 0))) (o_BadPlace : mg "BadPlace" = some (.ref (cls 1))) (o_BadLot : mg "BadLot" = some (.ref (cls 2))) (o_BadNet : mg "BadNet" = some (.ref (cls 5))) (o_BadRound : mg "BadRound" = some (.ref (cls 6))) (o_BadClaim : mg "BadClaim" = some (.ref (cls 7))) (o_BadNumber : mg "BadNumber" = some (.ref (cls 9))) (o_BadFacts : mg "BadFacts" = some (.ref (cls 8))) (o_BadText : mg "BadText" = some (.ref (cls 11))) (o_Quarrel : mg "Quarrel" = some (.ref (cls 12)))
    (ok : Okx (cxOf (L2.CX P w) P w K mg base N_law_field "_law_field" (defScope st_law_field) f cdv A out s H E) k) (tk : Takes (cxOf (L2.CX P w) P w K mg base N_law_field "_law_field" (defScope st_law_field) f cdv A out s H E) (wE E)) (hp : PassesOwn (model P w) (cxOf (L2.CX P w) P w K mg base N_law_field "_law_field" (defScope st_law_field) f cdv A out s H E).A (cxOf (L2.CX P w) P w K mg base N_law_field "_law_field" (defScope st_law_field) f cdv A out s H E).env (cxOf (L2.CX P w) P w K mg base N_law_field "_law_field" (defScope st_law_field) f cdv A out s H E).xe) : JSs (cxOf (L2.CX P w) P w K mg base N_law_field "_law_field" (defScope st_law_field) f cdv A out s H E) ⟨cls, fldX⟩ (wE E) Γ (defBody st_law_field) S_law_field :=
  (js_cons (js_if (jt_val (j_isxT 854 t_854 g.isinstance (j_v 0) (jcls_cons (jcl_own o_BadTurns) (jcls_cons (jcl_own o_BadSpots) (jcls_cons (jcl_own o_BadPaper) jcls_nil))))) (js_cons (js_ret (j_xat 831 xa_place (j_v 0)))
  js_nil) js_nil)
  (js_cons (js_if (jt_val (j_isxT 855 t_855 g.isinstance (j_v 0) (jcls_cons (jcl_own o_BadPlaces) (jcls_cons (jcl_own o_BadPlace) (jcls_cons (jcl_own o_BadLot) (jcls_cons (jcl_own o_BadNet) (jcls_cons (jcl_own o_BadRound) (jcls_cons (jcl_own o_BadClaim) (jcls_cons (jcl_own o_BadNumber) jcls_nil))))))))) (js_cons (js_ret (j_xat 830 xa_value (j_v 0)))
  js_nil) js_nil)
  (js_cons (js_if (jt_val (j_isx 848 t_848 g.isinstance (j_v 0) (jcl_own o_BadFacts))) (js_cons (js_ret (j_xat 832 xa_number (j_v 0)))
  js_nil) js_nil)
  (js_cons (js_if (jt_val (j_isx 851 t_851 g.isinstance (j_v 0) (jcl_own o_BadText))) (js_cons (js_ret (j_xat 833 xa_line (j_v 0)))
  js_nil) js_nil)
  (js_cons (js_ret (j_ite (jt_val (j_isx 852 t_852 g.isinstance (j_v 0) (jcl_own o_Quarrel))) (j_xat 834 xa_tree (j_v 0)) (j_xat 835 xa_most (j_v 0))))
  js_nil)))))
abbrev st_law : Stmt := top 22
def N_law : List Str := ["_law_script", "_law_m", "_law_turn", "_law_q", "_law_some", "_law_far", "_law_at", "_law_one", "_law_told", "_law_k"]
def S_law : List S := [.asg (.nm 1) (.call 54 [.v 0]), .for_ (.nm 2) (.rng [.bin .add (.k (.int 2)) (.bi .min [.bi .len [.v 0], .k (.int 6)])]) [.asg (.nm 3) (.call 192 [.v 1]), .asg (.nm 4) (.lst [.call 800 [.v 3], .call 801 [.v 3], .call 802 [.v 3], .call 803 [.v 3], .call 804 [.v 3], .call 805 [.v 3], .call 806 [.v 3], .call 807 [.v 3]]), .asg (.nm 4) (.bin .add (.v 4) (.lst [.call 808 [.v 3], .call 809 [.v 3], .call 810 [.v 3], .call 811 [.v 3], .call 812 [.v 3], .call 813 [.v 3]])), .asg (.nm 5) (.lst [.call 800 [.v 3], .call 801 [.v 3], .call 802 [.v 3], .call 803 [.v 3], .call 804 [.v 3]]), .asg (.nm 5) (.bin .add (.v 5) (.lst [.call 805 [.v 3], .call 806 [.v 3], .call 807 [.v 3], .call 808 [.v 3], .call 809 [.v 3]])), .asg (.nm 5) (.bin .add (.v 5) (.lst [.call 810 [.v 3], .call 811 [.v 3], .call 812 [.v 3], .call 813 [.v 3]])), .for_ (.tup [(.nm 6), (.nm 7)]) (.enum [.v 4]) [.ite (.or (.cmp .ne (.bi .repr [.call 88 [.v 7]]) (.bi .repr [.v 3])) (.cmp .ne (.bi .repr [.call 88 [.ix (.v 5) (.v 6)]]) (.bi .repr [.v 3]))) [.ret (.k (.bl false))] [], .ite (.or (.cmp .ne (.call 118 [.v 7]) (.lc [9] (.nm 9) (.rng [.k (.int 14)]) (.k (.bl true)) (.cmp .eq (.v 9) (.v 6)))) (.cmp .ne (.call 118 [.ix (.v 5) (.v 6)]) (.call 118 [.v 7]))) [.ret (.k (.bl false))] [], .asg (.nm 8) (.lst [.call 856 [.v 7], .call 857 [.v 7], .call 858 [.v 7]]), .asg (.nm 8) (.bin .add (.v 8) (.lst [.call 859 [.v 7], .call 860 [.v 7]])), .ite (.cmp .ne (.v 8) (.lst [.cmp .lt (.v 6) (.k (.int 12)), .cmp .lt (.v 6) (.k (.int 12)), .cmp .eq (.v 6) (.k (.int 12)), .cmp .eq (.v 6) (.k (.int 13)), .k (.bl false)])) [.ret (.k (.bl false))] []]], .ret (.k (.bl true))]
theorem sc_law : FnScope N_law ["_law_script"] (defScope st_law) := ⟨rfl, rfl, rfl, by decide +kernel, rfl, by decide +kernel, by decide +kernel⟩
set_option maxHeartbeats 4000000 in
theorem b_law {P : Program} {w : World} {K : PySem.W.Frag} {mg : Str → Option Value} {base : Heap} {cls : Nat → Addr} {k : Nat} {Γ : Fns} {f : Addr} {cdv : Value} {A : Around} {out : List Env} {s : Shared} {H : Hp} {E : XK} (g : G mg) (h__law_begun : FnAt P w K mg base ⟨cls, fldX⟩ (k + 1) "_law_begun" ["_law_script"] (Γ 54)) (h__law_value : FnAt P w K mg base ⟨cls, fldX⟩ (k + 1) "_law_value" ["_law_m"] (Γ 192)) (h__law_field : FnAt P w K mg base ⟨cls, fldX⟩ (k + 1) "_law_field" ["_law_one"] (Γ 88)) (h__law_kinds : FnAt P w K mg base ⟨cls, fldX⟩ (k + 1) "_law_kinds" ["_law_one"] (Γ 118)) (m_BadPlaces : MkE P K mg ⟨cls, fldX⟩ "BadPlaces" "value" (Γ 800)) (m_BadPlace : MkE P K mg ⟨cls, fldX⟩ "BadPlace" "value" (Γ 801)) (m_BadLot : MkE P K mg ⟨cls, fldX⟩ "BadLot" "value" (Γ 802)) (m_BadTurns : MkE P K mg ⟨cls, fldX⟩ "BadTurns" "place" (Γ 803)) (m_BadSpots : MkE P K mg ⟨cls, fldX⟩ "BadSpots" "place" (Γ 804)) (m_BadNet : MkE P K mg ⟨cls, fldX⟩ "BadNet" "value" (Γ 805)) (m_BadRound : MkE P K mg ⟨cls, fldX⟩ "BadRound" "value" (Γ 806)) (m_BadClaim : MkE P K mg ⟨cls, fldX⟩ "BadClaim" "value" (Γ 807)) (m_BadFacts : MkE P K mg ⟨cls, fldX⟩ "BadFacts" "number" (Γ 808)) (m_BadNumber : MkE P K mg ⟨cls, fldX⟩ "BadNumber" "value" (Γ 809)) (m_BadPaper : MkE P K mg ⟨cls, fldX⟩ "BadPaper" "place" (Γ 810)) (m_BadText : MkE P K mg ⟨cls, fldX⟩ "BadText" "line" (Γ 811)) (m_Quarrel : MkE P K mg ⟨cls, fldX⟩ "Quarrel" "tree" (Γ 812)) (m_TooMany : MkE P K mg ⟨cls, fldX⟩ "TooMany" "most" (Γ 813)) (t_856 : IsX K ⟨cls, fldX⟩ [.ref (cls 14)] (Γ 856)) (t_857 : IsX K ⟨cls, fldX⟩ [.type "ValueError"] (Γ 857)) (t_858 : IsX K ⟨cls, fldX⟩ [.type "LookupError"] (Γ 858)) (t_859 : IsX K ⟨cls, fldX⟩ [.type "OverflowError"] (Γ 859)) (t_860 : IsX K ⟨cls, fldX⟩ [.type "KeyError", .type "IndexError"] (Γ 860)) (o_MapError : mg "MapError" = some (.ref (cls 14)))
    (ok : Okx (cxOf (L2.CX P w) P w K mg base N_law "law" (defScope st_law) f cdv A out s H E) k) (tk : Takes (cxOf (L2.CX P w) P w K mg base N_law "law" (defScope st_law) f cdv A out s H E) (wE E)) (hp : PassesOwn (model P w) (cxOf (L2.CX P w) P w K mg base N_law "law" (defScope st_law) f cdv A out s H E).A (cxOf (L2.CX P w) P w K mg base N_law "law" (defScope st_law) f cdv A out s H E).env (cxOf (L2.CX P w) P w K mg base N_law "law" (defScope st_law) f cdv A out s H E).xe) : JSs (cxOf (L2.CX P w) P w K mg base N_law "law" (defScope st_law) f cdv A out s H E) ⟨cls, fldX⟩ (wE E) Γ (defBody st_law) S_law :=
  (js_cons (js_set 1 ok (j_call h__law_begun ok tk (jn_cons (j_v 0) jn_nil)))
  (js_cons (js_for ok hp (ji_rng1 g.range (jl_cons (j_bin .add j_int (j_min ok g.min (jn_cons (j_len g.len (jn_cons (j_v 0) jn_nil)) (jn_cons j_int jn_nil)))) jl_nil)) (jg_nm 2 ok.nd) (js_cons (js_set 3 ok (j_call h__law_value ok tk (jn_cons (j_v 1) jn_nil)))
  (js_cons (js_set 4 ok (j_lst (jl_cons (j_mkE 800 m_BadPlaces ok g.super (j_v 3)) (jl_cons (j_mkE 801 m_BadPlace ok g.super (j_v 3)) (jl_cons (j_mkE 802 m_BadLot ok g.super (j_v 3)) (jl_cons (j_mkE 803 m_BadTurns ok g.super (j_v 3)) (jl_cons (j_mkE 804 m_BadSpots ok g.super (j_v 3)) (jl_cons (j_mkE 805 m_BadNet ok g.super (j_v 3)) (jl_cons (j_mkE 806 m_BadRound ok g.super (j_v 3)) (jl_cons (j_mkE 807 m_BadClaim ok g.super (j_v 3)) jl_nil))))))))))
  (js_cons (js_set 4 ok (j_bin .add (j_v 4) (j_lst (jl_cons (j_mkE 808 m_BadFacts ok g.super (j_v 3)) (jl_cons (j_mkE 809 m_BadNumber ok g.super (j_v 3)) (jl_cons (j_mkE 810 m_BadPaper ok g.super (j_v 3)) (jl_cons (j_mkE 811 m_BadText ok g.super (j_v 3)) (jl_cons (j_mkE 812 m_Quarrel ok g.super (j_v 3)) (jl_cons (j_mkE 813 m_TooMany ok g.super (j_v 3)) jl_nil)))))))))
  (js_cons (js_set 5 ok (j_lst (jl_cons (j_mkEk 800 m_BadPlaces ok g.super (j_v 3)) (jl_cons (j_mkEk 801 m_BadPlace ok g.super (j_v 3)) (jl_cons (j_mkEk 802 m_BadLot ok g.super (j_v 3)) (jl_cons (j_mkEk 803 m_BadTurns ok g.super (j_v 3)) (jl_cons (j_mkEk 804 m_BadSpots ok g.super (j_v 3)) jl_nil)))))))
  (js_cons (js_set 5 ok (j_bin .add (j_v 5) (j_lst (jl_cons (j_mkEk 805 m_BadNet ok g.super (j_v 3)) (jl_cons (j_mkEk 806 m_BadRound ok g.super (j_v 3)) (jl_cons (j_mkEk 807 m_BadClaim ok g.super (j_v 3)) (jl_cons (j_mkEk 808 m_BadFacts ok g.super (j_v 3)) (jl_cons (j_mkEk 809 m_BadNumber ok g.super (j_v 3)) jl_nil))))))))
  (js_cons (js_set 5 ok (j_bin .add (j_v 5) (j_lst (jl_cons (j_mkEk 810 m_BadPaper ok g.super (j_v 3)) (jl_cons (j_mkEk 811 m_BadText ok g.super (j_v 3)) (jl_cons (j_mkEk 812 m_Quarrel ok g.super (j_v 3)) (jl_cons (j_mkEk 813 m_TooMany ok g.super (j_v 3)) jl_nil)))))))
  (js_cons (js_for ok hp (ji_enum g.enumerate (jl_cons (j_v 4) jl_nil)) (jg_tup ok (jgs_cons (jg_nm 6 ok.nd) (jgs_cons (jg_nm 7 ok.nd) jgs_nil))) (js_cons (js_if (jt_w (jw_or (jt_cmp .ne ok (j_repr ok g.repr (jn_cons (j_call h__law_field ok tk (jn_cons (j_v 7) jn_nil)) jn_nil)) (j_repr ok g.repr (jn_cons (j_v 3) jn_nil))) (jw_or1 (jt_cmp .ne ok (j_repr ok g.repr (jn_cons (j_call h__law_field ok tk (jn_cons (j_ix ok (j_v 5) (j_v 6)) jn_nil)) jn_nil)) (j_repr ok g.repr (jn_cons (j_v 3) jn_nil)))))) (js_cons (js_ret j_bl)
  js_nil) js_nil)
  (js_cons (js_if (jt_w (jw_or (jt_cmp .ne ok (j_call h__law_kinds ok tk (jn_cons (j_v 7) jn_nil)) (j_lc (own := [("_law_k", 9)]) ok (blk_of (by kernel_rfl)) (ji_rng1 g.range (jl_cons j_int jl_nil)) (fun _ _ _ _ _ => (jg_nm 9 ok.blk.nd)) (fun _ _ _ _ _ => jts_nil) (fun _ _ _ _ _ => (j_cmp .eq ok.blk (j_v 9) (j_v 6))) (by decide))) (jw_or1 (jt_cmp .ne ok (j_call h__law_kinds ok tk (jn_cons (j_ix ok (j_v 5) (j_v 6)) jn_nil)) (j_call h__law_kinds ok tk (jn_cons (j_v 7) jn_nil)))))) (js_cons (js_ret j_bl)
  js_nil) js_nil)
  (js_cons (js_set 8 ok (j_lst (jl_cons (j_isx 856 t_856 g.isinstance (j_v 7) (jcl_own o_MapError)) (jl_cons (j_isx 857 t_857 g.isinstance (j_v 7) (jcl_ty g.ValueError)) (jl_cons (j_isx 858 t_858 g.isinstance (j_v 7) (jcl_ty g.LookupError)) jl_nil)))))
  (js_cons (js_set 8 ok (j_bin .add (j_v 8) (j_lst (jl_cons (j_isx 859 t_859 g.isinstance (j_v 7) (jcl_ty g.OverflowError)) (jl_cons (j_isxT 860 t_860 g.isinstance (j_v 7) (jcls_cons (jcl_ty g.KeyError) (jcls_cons (jcl_ty g.IndexError) jcls_nil))) jl_nil)))))
  (js_cons (js_if (jt_cmp .ne ok (j_v 8) (j_lst (jl_cons (j_cmp .lt ok (j_v 6) j_int) (jl_cons (j_cmp .lt ok (j_v 6) j_int) (jl_cons (j_cmp .eq ok (j_v 6) j_int) (jl_cons (j_cmp .eq ok (j_v 6) j_int) (jl_cons j_bl jl_nil))))))) (js_cons (js_ret j_bl)
  js_nil) js_nil)
  js_nil))))))
  js_nil))))))))
  (js_cons (js_ret j_bl)
  js_nil)))
abbrev st_law_next : Stmt := top 18
def N_law_next : List Str := ["_law_m", "_law_many", "_law_rest", "_law_at", "_law_bits", "_law_cell", "_law_blend"]
theorem sc_law_next : FnScope N_law_next ["_law_m", "_law_many"] (defScope st_law_next) := ⟨rfl, rfl, rfl, by decide +kernel, rfl, by decide +kernel, by decide +kernel⟩
set_option maxHeartbeats 4000000 in
theorem b_law_next {P : Program} {w : World} {K : PySem.W.Frag} {mg : Str → Option Value} {base : Heap} {xc : XC} {k : Nat} {Γ : Fns} {f : Addr} {cdv : Value} {A : Around} {out : List Env} {s : Shared} {H : Hp} {E : XK} (g : G mg)
    (ok : Okx (cxOf (L2.CX P w) P w K mg base N_law_next "_law_next" (defScope st_law_next) f cdv A out s H E) k) (tk : Takes (cxOf (L2.CX P w) P w K mg base N_law_next "_law_next" (defScope st_law_next) f cdv A out s H E) (wE E)) (hp : PassesOwn (model P w) (cxOf (L2.CX P w) P w K mg base N_law_next "_law_next" (defScope st_law_next) f cdv A out s H E).A (cxOf (L2.CX P w) P w K mg base N_law_next "_law_next" (defScope st_law_next) f cdv A out s H E).env (cxOf (L2.CX P w) P w K mg base N_law_next "_law_next" (defScope st_law_next) f cdv A out s H E).xe) : PSs (cxOf (L2.CX P w) P w K mg base N_law_next "_law_next" (defScope st_law_next) f cdv A out s H E) (defBody st_law_next) (tS K xc (wE E) (nextS Γ)) :=
  (pds_cons (pds_while (n := 65) hp (PW.pt (pdt_and (pt_mSome ok.hu (j_v (Γ := Γ) 0)) (pw_and1 (pdt_cmp (cmp_ok ok.hu .eq) rfl (pd_mHead ok.hu (j_v (Γ := Γ) 0)) (j_int (Γ := Γ)))))) (pds_cons (pds_mCut ok.hu (pe_var (i := 0) rfl (Or.inl rfl) (by decide) (by decide)) (pe_var (i := 0) rfl (Or.inl rfl) (by decide) (by decide)) rfl) pds_nil))
  (pds_cons (pds_if (pt_mSome ok.hu (j_v (Γ := Γ) 0)) (pds_cons (pds_set (i := 2) ok.nd rfl (Or.inl rfl) (pd_mHead ok.hu (j_v (Γ := Γ) 0)) rfl (.inr rfl)) (pds_cons (pds_mHead ok.hu (j_v (Γ := Γ) 0) (j_bin (Γ := Γ) .fdiv (j_v 2) (j_v 1)) rfl rfl rfl)
    (js_cons (js_ret (j_bin .mod (j_toint g.int_ (jn_cons (j_v 2) jn_nil)) (j_v 1))) js_nil))) pds_nil)
  (pds_cons (pds_par2 (i := 3) (j := 4) ok.cm ok.nd rfl rfl (by decide) rfl rfl (pda_consN (pd_op (bin_ok .add) (pd_mAt ok.hu (j_v (Γ := Γ) 0)) (j_int (Γ := Γ))) (pda_consN (pd_mCells ok.hu (j_v (Γ := Γ) 0)) pda_nil rfl) rfl) rfl rfl)
  (pds_cons (pds_mAt ok.hu (j_v (Γ := Γ) 0) (j_v (Γ := Γ) 3) rfl)
  (js_cons (js_set 5 ok (j_ite (jt_cmp .ne ok (j_v 4) (j_lst jl_nil)) (j_toint g.int_ (jn_cons (j_ix ok (j_v 4) (j_bin .mod (j_toint g.int_ (jn_cons (j_bin .add (j_bin .mul (j_v 3) (j_v 3)) (j_bin .fdiv (j_v 3) j_int)) jn_nil)) (j_len g.len (jn_cons (j_v 4) jn_nil)))) jn_nil)) j_int))
  (js_cons (js_set 6 ok (j_bin .mod (j_toint g.int_ (jn_cons (j_bin .add (j_bin .add (j_bin .mul (j_v 5) j_int) (j_bin .mul (j_v 3) j_int)) (j_bin .mul (j_bin .mul j_int (j_v 3)) (j_v 3))) jn_nil)) j_int))
  (js_cons (js_ret (j_bin .mod (j_toint g.int_ (jn_cons (j_bin .fdiv (j_bin .mod (j_toint g.int_ (jn_cons (j_bin .add (j_bin .mul (j_v 6) j_int) (j_bin .mul j_int (j_v 3))) jn_nil)) j_int) j_int) jn_nil)) (j_v 1)))
  js_nil)))))))
abbrev st_law_begun : Stmt := top 17
def N_law_begun : List Str := ["_law_script", "_law_cell"]
theorem sc_law_begun : FnScope N_law_begun ["_law_script"] (defScope st_law_begun) := ⟨rfl, rfl, rfl, by decide +kernel, rfl, by decide +kernel, by decide +kernel⟩
set_option maxHeartbeats 4000000 in
theorem b_law_begun {P : Program} {w : World} {K : PySem.W.Frag} {mg : Str → Option Value} {base : Heap} {xc : XC} {k : Nat} {Γ : Fns} {f : Addr} {cdv : Value} {A : Around} {out : List Env} {s : Shared} {H : Hp} {E : XK} (g : G mg) (ok : Okx (cxOf (L2.CX P w) P w K mg base N_law_begun "_law_begun" (defScope st_law_begun) f cdv A out s H E) k) : PSs (cxOf (L2.CX P w) P w K mg base N_law_begun "_law_begun" (defScope st_law_begun) f cdv A out s H E) (defBody st_law_begun) (tRet (tE K xc (wE E) (begE (begL Γ) (begR Γ)))) :=
  pss_one (ps_ret (pd_begun (j_tolst (Γ := Γ) g.list_ (jn_cons (j_v 0) jn_nil)) (pd_lcU (own := [("_law_cell", 1)]) (t := .nm 1) ok.cm ok.nd (ji_walk (Γ := Γ) (j_v 0)) (blk_of (by kernel_rfl)) (fun _ _ _ _ _ => jg_nm 1 ok.blk.nd) (fun _ _ _ _ _ => jts_one (jt_cmp (Γ := Γ) .ge ok.blk (j_v 1) (j_bin .pow j_int j_int))) (fun _ _ _ _ _ => j_v (Γ := Γ) 1) (fun _ => rfl) (by decide))))
structure Txt (P : Program) (K : PySem.W.Frag) (mg : Str → Option Value) (cls : Nat → Addr) : Prop where
  g : G mg
  d__law_value : DefAt K mg "_law_value" st_law_value
  d__law_kinds : DefAt K mg "_law_kinds" st_law_kinds
  d__law_field : DefAt K mg "_law_field" st_law_field
  d_law : DefAt K mg "law" st_law
  d__law_next : DefAt K mg "_law_next" st_law_next
  d__law_begun : DefAt K mg "_law_begun" st_law_begun
  xn_BadPlaces : XnTxt P K mg "BadPlaces" "value" (cls 0) (bmOf (cls 14) 0)
  xn_BadPlace : XnTxt P K mg "BadPlace" "value" (cls 1) (bmOf (cls 14) 1)
  xn_BadLot : XnTxt P K mg "BadLot" "value" (cls 2) (bmOf (cls 14) 2)
  xn_BadTurns : XnTxt P K mg "BadTurns" "place" (cls 3) (bmOf (cls 14) 3)
  xn_BadSpots : XnTxt P K mg "BadSpots" "place" (cls 4) (bmOf (cls 14) 4)
  xn_BadNet : XnTxt P K mg "BadNet" "value" (cls 5) (bmOf (cls 14) 5)
  xn_BadRound : XnTxt P K mg "BadRound" "value" (cls 6) (bmOf (cls 14) 6)
  xn_BadClaim : XnTxt P K mg "BadClaim" "value" (cls 7) (bmOf (cls 14) 7)
  xn_BadFacts : XnTxt P K mg "BadFacts" "number" (cls 8) (bmOf (cls 14) 8)
  xn_BadNumber : XnTxt P K mg "BadNumber" "value" (cls 9) (bmOf (cls 14) 9)
  xn_BadPaper : XnTxt P K mg "BadPaper" "place" (cls 10) (bmOf (cls 14) 10)
  xn_BadText : XnTxt P K mg "BadText" "line" (cls 11) (bmOf (cls 14) 11)
  xn_Quarrel : XnTxt P K mg "Quarrel" "tree" (cls 12) (bmOf (cls 14) 12)
  xn_TooMany : XnTxt P K mg "TooMany" "most" (cls 13) (bmOf (cls 14) 13)
  at_MapError : mg "MapError" = some (.ref (cls 14))
  xns : Xns K cls
structure Calls (P : Program) (w : World) (K : PySem.W.Frag) (mg : Str → Option Value) (base : Heap) (xc : XC) (k : Nat) (Γ : Fns) : Prop where
  h__law_value : FnAt P w K mg base xc (2 * k + 1) "_law_value" ["_law_m"] (Γ 192)
  h__law_kinds : FnAt P w K mg base xc (2 * k + 1) "_law_kinds" ["_law_one"] (Γ 118)
  h__law_field : FnAt P w K mg base xc (2 * k + 1) "_law_field" ["_law_one"] (Γ 88)
  h_law : FnAt P w K mg base xc (2 * k + 1) "law" ["_law_script"] (Γ 273)
  h__law_next : FnAt P w K mg base xc (2 * k + 1) "_law_next" ["_law_m", "_law_many"] (Γ 139)
  h__law_begun : FnAt P w K mg base xc (2 * k + 1) "_law_begun" ["_law_script"] (Γ 54)
  m_BadPlaces : MkE P K mg xc "BadPlaces" "value" (Γ 800)
  m_BadPlace : MkE P K mg xc "BadPlace" "value" (Γ 801)
  m_BadLot : MkE P K mg xc "BadLot" "value" (Γ 802)
  m_BadTurns : MkE P K mg xc "BadTurns" "place" (Γ 803)
  m_BadSpots : MkE P K mg xc "BadSpots" "place" (Γ 804)
  m_BadNet : MkE P K mg xc "BadNet" "value" (Γ 805)
  m_BadRound : MkE P K mg xc "BadRound" "value" (Γ 806)
  m_BadClaim : MkE P K mg xc "BadClaim" "value" (Γ 807)
  m_BadFacts : MkE P K mg xc "BadFacts" "number" (Γ 808)
  m_BadNumber : MkE P K mg xc "BadNumber" "value" (Γ 809)
  m_BadPaper : MkE P K mg xc "BadPaper" "place" (Γ 810)
  m_BadText : MkE P K mg xc "BadText" "line" (Γ 811)
  m_Quarrel : MkE P K mg xc "Quarrel" "tree" (Γ 812)
  m_TooMany : MkE P K mg xc "TooMany" "most" (Γ 813)
  xa_value : Γ 830 = xatM "value"
  xa_place : Γ 831 = xatM "place"
  xa_number : Γ 832 = xatM "number"
  xa_line : Γ 833 = xatM "line"
  xa_tree : Γ 834 = xatM "tree"
  xa_most : Γ 835 = xatM "most"
  t_840 : IsX K xc [.ref (xc.cls 0)] (Γ 840)
  t_841 : IsX K xc [.ref (xc.cls 1)] (Γ 841)
  t_842 : IsX K xc [.ref (xc.cls 2)] (Γ 842)
  t_843 : IsX K xc [.ref (xc.cls 3)] (Γ 843)
  t_844 : IsX K xc [.ref (xc.cls 4)] (Γ 844)
  t_845 : IsX K xc [.ref (xc.cls 5)] (Γ 845)
  t_846 : IsX K xc [.ref (xc.cls 6)] (Γ 846)
  t_847 : IsX K xc [.ref (xc.cls 7)] (Γ 847)
  t_848 : IsX K xc [.ref (xc.cls 8)] (Γ 848)
  t_849 : IsX K xc [.ref (xc.cls 9)] (Γ 849)
  t_850 : IsX K xc [.ref (xc.cls 10)] (Γ 850)
  t_851 : IsX K xc [.ref (xc.cls 11)] (Γ 851)
  t_852 : IsX K xc [.ref (xc.cls 12)] (Γ 852)
  t_853 : IsX K xc [.ref (xc.cls 13)] (Γ 853)
  t_854 : IsX K xc [.ref (xc.cls 3), .ref (xc.cls 4), .ref (xc.cls 10)] (Γ 854)
  t_855 : IsX K xc [.ref (xc.cls 0), .ref (xc.cls 1), .ref (xc.cls 2), .ref (xc.cls 5), .ref (xc.cls 6), .ref (xc.cls 7), .ref (xc.cls 9)] (Γ 855)
  t_856 : IsX K xc [.ref (xc.cls 14)] (Γ 856)
  t_857 : IsX K xc [.type "ValueError"] (Γ 857)
  t_858 : IsX K xc [.type "LookupError"] (Γ 858)
  t_859 : IsX K xc [.type "OverflowError"] (Γ 859)
  t_860 : IsX K xc [.type "KeyError", .type "IndexError"] (Γ 860)
def tab (cls : Nat → Addr) (Γ : Fns) (f : Nat) : List D → M D :=
  bif Nat.beq f 192 then fnM 1 (evSs Γ S_law_value) else
  bif Nat.beq f 118 then fnM 2 (evSs Γ S_law_kinds) else
  bif Nat.beq f 88 then fnM 1 (evSs Γ S_law_field) else
  bif Nat.beq f 273 then fnM 10 (evSs Γ S_law) else
  bif Nat.beq f 800 then mkxM 0 (cls 0) "value" else
  bif Nat.beq f 801 then mkxM 1 (cls 1) "value" else
  bif Nat.beq f 802 then mkxM 2 (cls 2) "value" else
  bif Nat.beq f 803 then mkxM 3 (cls 3) "place" else
  bif Nat.beq f 804 then mkxM 4 (cls 4) "place" else
  bif Nat.beq f 805 then mkxM 5 (cls 5) "value" else
  bif Nat.beq f 806 then mkxM 6 (cls 6) "value" else
  bif Nat.beq f 807 then mkxM 7 (cls 7) "value" else
  bif Nat.beq f 808 then mkxM 8 (cls 8) "number" else
  bif Nat.beq f 809 then mkxM 9 (cls 9) "value" else
  bif Nat.beq f 810 then mkxM 10 (cls 10) "place" else
  bif Nat.beq f 811 then mkxM 11 (cls 11) "line" else
  bif Nat.beq f 812 then mkxM 12 (cls 12) "tree" else
  bif Nat.beq f 813 then mkxM 13 (cls 13) "most" else
  bif Nat.beq f 830 then xatM "value" else
  bif Nat.beq f 831 then xatM "place" else
  bif Nat.beq f 832 then xatM "number" else
  bif Nat.beq f 833 then xatM "line" else
  bif Nat.beq f 834 then xatM "tree" else
  bif Nat.beq f 835 then xatM "most" else
  bif Nat.beq f 840 then isxM cls (tbs [.own 0]) else
  bif Nat.beq f 841 then isxM cls (tbs [.own 1]) else
  bif Nat.beq f 842 then isxM cls (tbs [.own 2]) else
  bif Nat.beq f 843 then isxM cls (tbs [.own 3]) else
  bif Nat.beq f 844 then isxM cls (tbs [.own 4]) else
  bif Nat.beq f 845 then isxM cls (tbs [.own 5]) else
  bif Nat.beq f 846 then isxM cls (tbs [.own 6]) else
  bif Nat.beq f 847 then isxM cls (tbs [.own 7]) else
  bif Nat.beq f 848 then isxM cls (tbs [.own 8]) else
  bif Nat.beq f 849 then isxM cls (tbs [.own 9]) else
  bif Nat.beq f 850 then isxM cls (tbs [.own 10]) else
  bif Nat.beq f 851 then isxM cls (tbs [.own 11]) else
  bif Nat.beq f 852 then isxM cls (tbs [.own 12]) else
  bif Nat.beq f 853 then isxM cls (tbs [.own 13]) else
  bif Nat.beq f 854 then isxM cls (tbs [.own 3, .own 4, .own 10]) else
  bif Nat.beq f 855 then isxM cls (tbs [.own 0, .own 1, .own 2, .own 5, .own 6, .own 7, .own 9]) else
  bif Nat.beq f 856 then isxM cls (tbs [.own 14]) else
  bif Nat.beq f 857 then isxM cls (tbs [.ve]) else
  bif Nat.beq f 858 then isxM cls (tbs [.le]) else
  bif Nat.beq f 859 then isxM cls (tbs [.oe]) else
  bif Nat.beq f 860 then isxM cls (tbs [.ke, .ie]) else
  bif Nat.beq f 139 then nextM else
  bif Nat.beq f 54 then begunM else
  fun _ => M.stk
def tab0 (cls : Nat → Addr) (f : Nat) : List D → M D :=
  bif Nat.beq f 800 then mkxM 0 (cls 0) "value" else
  bif Nat.beq f 801 then mkxM 1 (cls 1) "value" else
  bif Nat.beq f 802 then mkxM 2 (cls 2) "value" else
  bif Nat.beq f 803 then mkxM 3 (cls 3) "place" else
  bif Nat.beq f 804 then mkxM 4 (cls 4) "place" else
  bif Nat.beq f 805 then mkxM 5 (cls 5) "value" else
  bif Nat.beq f 806 then mkxM 6 (cls 6) "value" else
  bif Nat.beq f 807 then mkxM 7 (cls 7) "value" else
  bif Nat.beq f 808 then mkxM 8 (cls 8) "number" else
  bif Nat.beq f 809 then mkxM 9 (cls 9) "value" else
  bif Nat.beq f 810 then mkxM 10 (cls 10) "place" else
  bif Nat.beq f 811 then mkxM 11 (cls 11) "line" else
  bif Nat.beq f 812 then mkxM 12 (cls 12) "tree" else
  bif Nat.beq f 813 then mkxM 13 (cls 13) "most" else
  bif Nat.beq f 830 then xatM "value" else
  bif Nat.beq f 831 then xatM "place" else
  bif Nat.beq f 832 then xatM "number" else
  bif Nat.beq f 833 then xatM "line" else
  bif Nat.beq f 834 then xatM "tree" else
  bif Nat.beq f 835 then xatM "most" else
  bif Nat.beq f 840 then isxM cls (tbs [.own 0]) else
  bif Nat.beq f 841 then isxM cls (tbs [.own 1]) else
  bif Nat.beq f 842 then isxM cls (tbs [.own 2]) else
  bif Nat.beq f 843 then isxM cls (tbs [.own 3]) else
  bif Nat.beq f 844 then isxM cls (tbs [.own 4]) else
  bif Nat.beq f 845 then isxM cls (tbs [.own 5]) else
  bif Nat.beq f 846 then isxM cls (tbs [.own 6]) else
  bif Nat.beq f 847 then isxM cls (tbs [.own 7]) else
  bif Nat.beq f 848 then isxM cls (tbs [.own 8]) else
  bif Nat.beq f 849 then isxM cls (tbs [.own 9]) else
  bif Nat.beq f 850 then isxM cls (tbs [.own 10]) else
  bif Nat.beq f 851 then isxM cls (tbs [.own 11]) else
  bif Nat.beq f 852 then isxM cls (tbs [.own 12]) else
  bif Nat.beq f 853 then isxM cls (tbs [.own 13]) else
  bif Nat.beq f 854 then isxM cls (tbs [.own 3, .own 4, .own 10]) else
  bif Nat.beq f 855 then isxM cls (tbs [.own 0, .own 1, .own 2, .own 5, .own 6, .own 7, .own 9]) else
  bif Nat.beq f 856 then isxM cls (tbs [.own 14]) else
  bif Nat.beq f 857 then isxM cls (tbs [.ve]) else
  bif Nat.beq f 858 then isxM cls (tbs [.le]) else
  bif Nat.beq f 859 then isxM cls (tbs [.oe]) else
  bif Nat.beq f 860 then isxM cls (tbs [.ke, .ie]) else
  fun _ => M.stk
def callT (cls : Nat → Addr) : Nat → Fns
  | 0 => tab0 cls
  | k + 1 => tab cls (callT cls k)
theorem bd_law_value (kV doc pm : Value) (an : Option Addr) (cdv ct : Value) (us : List Value) (hl : us.length = (["_law_m"] : List Str).length) : bindArgs (PySem.W.fnOf "_law_value" "_law_value" (defArgs st_law_value) (defBody st_law_value) (defScope st_law_value) .none kV doc pm an cdv ct) ⟨us, []⟩ = pure ((["_law_m"] : List Str).zip us) := match us, hl with | [_], _ => by kernel_rfl
theorem bd_law_kinds (kV doc pm : Value) (an : Option Addr) (cdv ct : Value) (us : List Value) (hl : us.length = (["_law_one"] : List Str).length) : bindArgs (PySem.W.fnOf "_law_kinds" "_law_kinds" (defArgs st_law_kinds) (defBody st_law_kinds) (defScope st_law_kinds) .none kV doc pm an cdv ct) ⟨us, []⟩ = pure ((["_law_one"] : List Str).zip us) := match us, hl with | [_], _ => by kernel_rfl
theorem bd_law_field (kV doc pm : Value) (an : Option Addr) (cdv ct : Value) (us : List Value) (hl : us.length = (["_law_one"] : List Str).length) : bindArgs (PySem.W.fnOf "_law_field" "_law_field" (defArgs st_law_field) (defBody st_law_field) (defScope st_law_field) .none kV doc pm an cdv ct) ⟨us, []⟩ = pure ((["_law_one"] : List Str).zip us) := match us, hl with | [_], _ => by kernel_rfl
theorem bd_law (kV doc pm : Value) (an : Option Addr) (cdv ct : Value) (us : List Value) (hl : us.length = (["_law_script"] : List Str).length) : bindArgs (PySem.W.fnOf "law" "law" (defArgs st_law) (defBody st_law) (defScope st_law) .none kV doc pm an cdv ct) ⟨us, []⟩ = pure ((["_law_script"] : List Str).zip us) := match us, hl with | [_], _ => by kernel_rfl
theorem bd_law_next (kV doc pm : Value) (an : Option Addr) (cdv ct : Value) (us : List Value) (hl : us.length = (["_law_m", "_law_many"] : List Str).length) : bindArgs (PySem.W.fnOf "_law_next" "_law_next" (defArgs st_law_next) (defBody st_law_next) (defScope st_law_next) .none kV doc pm an cdv ct) ⟨us, []⟩ = pure ((["_law_m", "_law_many"] : List Str).zip us) := match us, hl with | [_, _], _ => by kernel_rfl
theorem bd_law_begun (kV doc pm : Value) (an : Option Addr) (cdv ct : Value) (us : List Value) (hl : us.length = (["_law_script"] : List Str).length) : bindArgs (PySem.W.fnOf "_law_begun" "_law_begun" (defArgs st_law_begun) (defBody st_law_begun) (defScope st_law_begun) .none kV doc pm an cdv ct) ⟨us, []⟩ = pure ((["_law_script"] : List Str).zip us) := match us, hl with | [_], _ => by kernel_rfl
theorem calls0 {P : Program} {w : World} {K : PySem.W.Frag} {mg : Str → Option Value} {base : Heap} {cls : Nat → Addr} (T : Txt P K mg cls) : Calls P w K mg base ⟨cls, fldX⟩ 0 (callT cls 0) :=
  { h__law_value := fnAt_stk T.d__law_value bd_law_value,
    h__law_kinds := fnAt_stk T.d__law_kinds bd_law_kinds,
    h__law_field := fnAt_stk T.d__law_field bd_law_field,
    h_law := fnAt_stk T.d_law bd_law,
    h__law_next := fnAt_stk T.d__law_next bd_law_next,
    h__law_begun := fnAt_stk T.d__law_begun bd_law_begun,
    m_BadPlaces := ⟨0, rfl, T.xn_BadPlaces.sup, T.xn_BadPlaces.at_⟩,
    m_BadPlace := ⟨1, rfl, T.xn_BadPlace.sup, T.xn_BadPlace.at_⟩,
    m_BadLot := ⟨2, rfl, T.xn_BadLot.sup, T.xn_BadLot.at_⟩,
    m_BadTurns := ⟨3, rfl, T.xn_BadTurns.sup, T.xn_BadTurns.at_⟩,
    m_BadSpots := ⟨4, rfl, T.xn_BadSpots.sup, T.xn_BadSpots.at_⟩,
    m_BadNet := ⟨5, rfl, T.xn_BadNet.sup, T.xn_BadNet.at_⟩,
    m_BadRound := ⟨6, rfl, T.xn_BadRound.sup, T.xn_BadRound.at_⟩,
    m_BadClaim := ⟨7, rfl, T.xn_BadClaim.sup, T.xn_BadClaim.at_⟩,
    m_BadFacts := ⟨8, rfl, T.xn_BadFacts.sup, T.xn_BadFacts.at_⟩,
    m_BadNumber := ⟨9, rfl, T.xn_BadNumber.sup, T.xn_BadNumber.at_⟩,
    m_BadPaper := ⟨10, rfl, T.xn_BadPaper.sup, T.xn_BadPaper.at_⟩,
    m_BadText := ⟨11, rfl, T.xn_BadText.sup, T.xn_BadText.at_⟩,
    m_Quarrel := ⟨12, rfl, T.xn_Quarrel.sup, T.xn_Quarrel.at_⟩,
    m_TooMany := ⟨13, rfl, T.xn_TooMany.sup, T.xn_TooMany.at_⟩,
    xa_value := rfl,
    xa_place := rfl,
    xa_number := rfl,
    xa_line := rfl,
    xa_tree := rfl,
    xa_most := rfl,
    t_840 := isx_mk T.xns [.own 0] rfl,
    t_841 := isx_mk T.xns [.own 1] rfl,
    t_842 := isx_mk T.xns [.own 2] rfl,
    t_843 := isx_mk T.xns [.own 3] rfl,
    t_844 := isx_mk T.xns [.own 4] rfl,
    t_845 := isx_mk T.xns [.own 5] rfl,
    t_846 := isx_mk T.xns [.own 6] rfl,
    t_847 := isx_mk T.xns [.own 7] rfl,
    t_848 := isx_mk T.xns [.own 8] rfl,
    t_849 := isx_mk T.xns [.own 9] rfl,
    t_850 := isx_mk T.xns [.own 10] rfl,
    t_851 := isx_mk T.xns [.own 11] rfl,
    t_852 := isx_mk T.xns [.own 12] rfl,
    t_853 := isx_mk T.xns [.own 13] rfl,
    t_854 := isx_mk T.xns [.own 3, .own 4, .own 10] rfl,
    t_855 := isx_mk T.xns [.own 0, .own 1, .own 2, .own 5, .own 6, .own 7, .own 9] rfl,
    t_856 := isx_mk T.xns [.own 14] rfl,
    t_857 := isx_mk T.xns [.ve] rfl,
    t_858 := isx_mk T.xns [.le] rfl,
    t_859 := isx_mk T.xns [.oe] rfl,
    t_860 := isx_mk T.xns [.ke, .ie] rfl }
theorem calls1 {P : Program} {w : World} {K : PySem.W.Frag} {mg : Str → Option Value} {base : Heap} {cls : Nat → Addr} {k : Nat} {Γ : Fns} (T : Txt P K mg cls) (h : Calls P w K mg base ⟨cls, fldX⟩ k Γ) : Calls P w K mg base ⟨cls, fldX⟩ (k + 1) (tab cls Γ) :=
  { h__law_value := (fnAt_body T.d__law_value sc_law_value bd_law_value fun f cdv A out s H E ok tk hp => b_law_value T.g h.h__law_next  ok tk hp).up (Nat.le_succ _),
    h__law_kinds := (fnAt_body T.d__law_kinds sc_law_kinds bd_law_kinds fun f cdv A out s H E ok tk hp => b_law_kinds T.g   h.t_840 h.t_841 h.t_842 h.t_843 h.t_844 h.t_845 h.t_846 h.t_847 h.t_848 h.t_849 h.t_850 h.t_851 h.t_852 h.t_853 T.xn_BadPlaces.at_ T.xn_BadPlace.at_ T.xn_BadLot.at_ T.xn_BadTurns.at_ T.xn_BadSpots.at_ T.xn_BadNet.at_ T.xn_BadRound.at_ T.xn_BadClaim.at_ T.xn_BadFacts.at_ T.xn_BadNumber.at_ T.xn_BadPaper.at_ T.xn_BadText.at_ T.xn_Quarrel.at_ T.xn_TooMany.at_ ok tk hp).up (Nat.le_succ _),
    h__law_field := (fnAt_body T.d__law_field sc_law_field bd_law_field fun f cdv A out s H E ok tk hp => b_law_field T.g   h.xa_place h.xa_value h.xa_number h.xa_line h.xa_tree h.xa_most h.t_854 h.t_855 h.t_848 h.t_851 h.t_852 T.xn_BadTurns.at_ T.xn_BadSpots.at_ T.xn_BadPaper.at_ T.xn_BadPlaces.at_ T.xn_BadPlace.at_ T.xn_BadLot.at_ T.xn_BadNet.at_ T.xn_BadRound.at_ T.xn_BadClaim.at_ T.xn_BadNumber.at_ T.xn_BadFacts.at_ T.xn_BadText.at_ T.xn_Quarrel.at_ ok tk hp).up (Nat.le_succ _),
    h_law := (fnAt_body T.d_law sc_law bd_law fun f cdv A out s H E ok tk hp => b_law T.g h.h__law_begun h.h__law_value h.h__law_field h.h__law_kinds  h.m_BadPlaces h.m_BadPlace h.m_BadLot h.m_BadTurns h.m_BadSpots h.m_BadNet h.m_BadRound h.m_BadClaim h.m_BadFacts h.m_BadNumber h.m_BadPaper h.m_BadText h.m_Quarrel h.m_TooMany h.t_856 h.t_857 h.t_858 h.t_859 h.t_860 T.at_MapError ok tk hp).up (Nat.le_succ _),
    h__law_next := ((fnAt_body T.d__law_next sc_law_next bd_law_next fun f cdv A out s H E ok tk hp => b_law_next (Γ := Γ) T.g ok tk hp).imp (next_eq Γ)).up (Nat.le_succ _),
    h__law_begun := ((fnAt_ret' T.d__law_begun sc_law_begun bd_law_begun fun f cdv A out s H E ok => b_law_begun (Γ := Γ) T.g ok).imp (beg_eq Γ)).up (Nat.le_succ _),
    m_BadPlaces := ⟨0, rfl, T.xn_BadPlaces.sup, T.xn_BadPlaces.at_⟩,
    m_BadPlace := ⟨1, rfl, T.xn_BadPlace.sup, T.xn_BadPlace.at_⟩,
    m_BadLot := ⟨2, rfl, T.xn_BadLot.sup, T.xn_BadLot.at_⟩,
    m_BadTurns := ⟨3, rfl, T.xn_BadTurns.sup, T.xn_BadTurns.at_⟩,
    m_BadSpots := ⟨4, rfl, T.xn_BadSpots.sup, T.xn_BadSpots.at_⟩,
    m_BadNet := ⟨5, rfl, T.xn_BadNet.sup, T.xn_BadNet.at_⟩,
    m_BadRound := ⟨6, rfl, T.xn_BadRound.sup, T.xn_BadRound.at_⟩,
    m_BadClaim := ⟨7, rfl, T.xn_BadClaim.sup, T.xn_BadClaim.at_⟩,
    m_BadFacts := ⟨8, rfl, T.xn_BadFacts.sup, T.xn_BadFacts.at_⟩,
    m_BadNumber := ⟨9, rfl, T.xn_BadNumber.sup, T.xn_BadNumber.at_⟩,
    m_BadPaper := ⟨10, rfl, T.xn_BadPaper.sup, T.xn_BadPaper.at_⟩,
    m_BadText := ⟨11, rfl, T.xn_BadText.sup, T.xn_BadText.at_⟩,
    m_Quarrel := ⟨12, rfl, T.xn_Quarrel.sup, T.xn_Quarrel.at_⟩,
    m_TooMany := ⟨13, rfl, T.xn_TooMany.sup, T.xn_TooMany.at_⟩,
    xa_value := rfl,
    xa_place := rfl,
    xa_number := rfl,
    xa_line := rfl,
    xa_tree := rfl,
    xa_most := rfl,
    t_840 := isx_mk T.xns [.own 0] rfl,
    t_841 := isx_mk T.xns [.own 1] rfl,
    t_842 := isx_mk T.xns [.own 2] rfl,
    t_843 := isx_mk T.xns [.own 3] rfl,
    t_844 := isx_mk T.xns [.own 4] rfl,
    t_845 := isx_mk T.xns [.own 5] rfl,
    t_846 := isx_mk T.xns [.own 6] rfl,
    t_847 := isx_mk T.xns [.own 7] rfl,
    t_848 := isx_mk T.xns [.own 8] rfl,
    t_849 := isx_mk T.xns [.own 9] rfl,
    t_850 := isx_mk T.xns [.own 10] rfl,
    t_851 := isx_mk T.xns [.own 11] rfl,
    t_852 := isx_mk T.xns [.own 12] rfl,
    t_853 := isx_mk T.xns [.own 13] rfl,
    t_854 := isx_mk T.xns [.own 3, .own 4, .own 10] rfl,
    t_855 := isx_mk T.xns [.own 0, .own 1, .own 2, .own 5, .own 6, .own 7, .own 9] rfl,
    t_856 := isx_mk T.xns [.own 14] rfl,
    t_857 := isx_mk T.xns [.ve] rfl,
    t_858 := isx_mk T.xns [.le] rfl,
    t_859 := isx_mk T.xns [.oe] rfl,
    t_860 := isx_mk T.xns [.ke, .ie] rfl }
theorem calls {P : Program} {w : World} {K : PySem.W.Frag} {mg : Str → Option Value} {base : Heap} {cls : Nat → Addr} (T : Txt P K mg cls) : ∀ k, Calls P w K mg base ⟨cls, fldX⟩ k (callT cls k)
  | 0 => calls0 T
  | k + 1 => calls1 T (calls T k)
theorem law_fd {P : Program} {w : World} {K : PySem.W.Frag} {mg : Str → Option Value} {cls : Nat → Addr} {k : Nat} {fa : Addr} (hmg : mg "law" = some (.ref fa)) (T : Txt P K mg cls) :
    ∃ fd : FuncData, Binds K fd ["_law_script"] [] ∧ ∀ base : Heap, FnG P w K mg base (L2.CX P w) (2 * k + 2) fa fd ["_law_script"] (spM ⟨cls, fldX⟩ K 1 (callT cls (k + 1) 273)) :=
  fnG_body hmg T.d_law sc_law bd_law fun base f cdv A out s H E ok tk hp => b_law T.g (calls T k).h__law_begun (calls T k).h__law_value (calls T k).h__law_field (calls T k).h__law_kinds  (calls (w := w) (base := base) T k).m_BadPlaces (calls (w := w) (base := base) T k).m_BadPlace (calls (w := w) (base := base) T k).m_BadLot (calls (w := w) (base := base) T k).m_BadTurns (calls (w := w) (base := base) T k).m_BadSpots (calls (w := w) (base := base) T k).m_BadNet (calls (w := w) (base := base) T k).m_BadRound (calls (w := w) (base := base) T k).m_BadClaim (calls (w := w) (base := base) T k).m_BadFacts (calls (w := w) (base := base) T k).m_BadNumber (calls (w := w) (base := base) T k).m_BadPaper (calls (w := w) (base := base) T k).m_BadText (calls (w := w) (base := base) T k).m_Quarrel (calls (w := w) (base := base) T k).m_TooMany (calls (w := w) (base := base) T k).t_856 (calls (w := w) (base := base) T k).t_857 (calls (w := w) (base := base) T k).t_858 (calls (w := w) (base := base) T k).t_859 (calls (w := w) (base := base) T k).t_860 T.at_MapError ok tk hp
theorem txt_mk {P : Program} {w : World} {K : PySem.W.Frag} {mg : Str → Option Value} {k n : Nat} {fa : Addr} {C_BadPlaces : Addr} {C_BadPlace : Addr} {C_BadLot : Addr} {C_BadTurns : Addr} {C_BadSpots : Addr} {C_BadNet : Addr} {C_BadRound : Addr} {C_BadClaim : Addr} {C_BadFacts : Addr} {C_BadNumber : Addr} {C_BadPaper : Addr} {C_BadText : Addr} {C_Quarrel : Addr} {C_TooMany : Addr} {C_MapError : Addr} (hmain : ∀ (cls : Nat → Addr) (ns : List Int), ns.length ≤ n → ∃ s', callT cls (k + 1) 273 [.lst (ns.map D.int)] ⟨none, []⟩ = .ok (.bl true) s') (hmg : mg "law" = some (.ref fa)) (g : G mg)
    (d__law_value : DefAt K mg "_law_value" st_law_value) (d__law_kinds : DefAt K mg "_law_kinds" st_law_kinds) (d__law_field : DefAt K mg "_law_field" st_law_field) (d_law : DefAt K mg "law" st_law) (d__law_next : DefAt K mg "_law_next" st_law_next) (d__law_begun : DefAt K mg "_law_begun" st_law_begun)
    (t_BadPlaces : XnTxt P K mg "BadPlaces" "value" C_BadPlaces (bmOf C_MapError 0)) (t_BadPlace : XnTxt P K mg "BadPlace" "value" C_BadPlace (bmOf C_MapError 1)) (t_BadLot : XnTxt P K mg "BadLot" "value" C_BadLot (bmOf C_MapError 2)) (t_BadTurns : XnTxt P K mg "BadTurns" "place" C_BadTurns (bmOf C_MapError 3)) (t_BadSpots : XnTxt P K mg "BadSpots" "place" C_BadSpots (bmOf C_MapError 4)) (t_BadNet : XnTxt P K mg "BadNet" "value" C_BadNet (bmOf C_MapError 5)) (t_BadRound : XnTxt P K mg "BadRound" "value" C_BadRound (bmOf C_MapError 6)) (t_BadClaim : XnTxt P K mg "BadClaim" "value" C_BadClaim (bmOf C_MapError 7)) (t_BadFacts : XnTxt P K mg "BadFacts" "number" C_BadFacts (bmOf C_MapError 8)) (t_BadNumber : XnTxt P K mg "BadNumber" "value" C_BadNumber (bmOf C_MapError 9)) (t_BadPaper : XnTxt P K mg "BadPaper" "place" C_BadPaper (bmOf C_MapError 10)) (t_BadText : XnTxt P K mg "BadText" "line" C_BadText (bmOf C_MapError 11)) (t_Quarrel : XnTxt P K mg "Quarrel" "tree" C_Quarrel (bmOf C_MapError 12)) (t_TooMany : XnTxt P K mg "TooMany" "most" C_TooMany (bmOf C_MapError 13))
    (aM : mg "MapError" = some (.ref C_MapError)) (iM : PySem.W.isClsIn K C_MapError = true) (tM : PySem.W.typeIn K (.ref C_MapError) = some (.type "type")) (nd : [C_BadPlaces, C_BadPlace, C_BadLot, C_BadTurns, C_BadSpots, C_BadNet, C_BadRound, C_BadClaim, C_BadFacts, C_BadNumber, C_BadPaper, C_BadText, C_Quarrel, C_TooMany, C_MapError].Nodup) :
    ∃ (fd : FuncData) (xc : XC) (m : List D → M D), (∀ (s : Shared) (u : Value), K.In s.heap → BindsTo s fd ⟨[u], []⟩ [(("_law_script" : Str), u)]) ∧ (∀ base : Heap, K.In base → base.Ns mainGlobals mg → FnG P w K mg base (L2.CX P w) (2 * k + 2) fa fd ["_law_script"] (spM xc K 1 m)) ∧ ∀ ns : List Int, ns.length ≤ n → ∃ s', m [.lst (ns.map D.int)] ⟨none, []⟩ = .ok (.bl true) s' :=
  law_mk2 (hmain (fun n => match n with | 0 => C_BadPlaces | 1 => C_BadPlace | 2 => C_BadLot | 3 => C_BadTurns | 4 => C_BadSpots | 5 => C_BadNet | 6 => C_BadRound | 7 => C_BadClaim | 8 => C_BadFacts | 9 => C_BadNumber | 10 => C_BadPaper | 11 => C_BadText | 12 => C_Quarrel | 13 => C_TooMany | 14 => C_MapError | _ => 0)) hmg (law_fd (cls := fun n => match n with | 0 => C_BadPlaces | 1 => C_BadPlace | 2 => C_BadLot | 3 => C_BadTurns | 4 => C_BadSpots | 5 => C_BadNet | 6 => C_BadRound | 7 => C_BadClaim | 8 => C_BadFacts | 9 => C_BadNumber | 10 => C_BadPaper | 11 => C_BadText | 12 => C_Quarrel | 13 => C_TooMany | 14 => C_MapError | _ => 0) hmg
    { g := g, d__law_value := d__law_value, d__law_kinds := d__law_kinds, d__law_field := d__law_field, d_law := d_law, d__law_next := d__law_next, d__law_begun := d__law_begun, xn_BadPlaces := t_BadPlaces, xn_BadPlace := t_BadPlace, xn_BadLot := t_BadLot, xn_BadTurns := t_BadTurns, xn_BadSpots := t_BadSpots, xn_BadNet := t_BadNet, xn_BadRound := t_BadRound, xn_BadClaim := t_BadClaim, xn_BadFacts := t_BadFacts, xn_BadNumber := t_BadNumber, xn_BadPaper := t_BadPaper, xn_BadText := t_BadText, xn_Quarrel := t_Quarrel, xn_TooMany := t_TooMany, at_MapError := aM, xns := {
      one := fun c hc => by
        match c, hc with
        | 0, _ => exact t_BadPlaces.mro
        | 1, _ => exact t_BadPlace.mro
        | 2, _ => exact t_BadLot.mro
        | 3, _ => exact t_BadTurns.mro
        | 4, _ => exact t_BadSpots.mro
        | 5, _ => exact t_BadNet.mro
        | 6, _ => exact t_BadRound.mro
        | 7, _ => exact t_BadClaim.mro
        | 8, _ => exact t_BadFacts.mro
        | 9, _ => exact t_BadNumber.mro
        | 10, _ => exact t_BadPaper.mro
        | 11, _ => exact t_BadText.mro
        | 12, _ => exact t_Quarrel.mro
        | 13, _ => exact t_TooMany.mro
        | c + 14, hc => exact absurd hc (by omega)
      typ := fun c hc => by
        match c, hc with
        | 0, _ => exact ⟨(fun ⟨cd, h, _⟩ => by show (PySem.W.clsIn K C_BadPlaces).isSome = true; rw [h]; rfl : (∃ cd, PySem.W.clsIn K C_BadPlaces = some cd ∧ cd.mro = .ref C_BadPlaces :: bmOf C_MapError 0) → _) t_BadPlaces.mro, t_BadPlaces.typ⟩
        | 1, _ => exact ⟨(fun ⟨cd, h, _⟩ => by show (PySem.W.clsIn K C_BadPlace).isSome = true; rw [h]; rfl : (∃ cd, PySem.W.clsIn K C_BadPlace = some cd ∧ cd.mro = .ref C_BadPlace :: bmOf C_MapError 1) → _) t_BadPlace.mro, t_BadPlace.typ⟩
        | 2, _ => exact ⟨(fun ⟨cd, h, _⟩ => by show (PySem.W.clsIn K C_BadLot).isSome = true; rw [h]; rfl : (∃ cd, PySem.W.clsIn K C_BadLot = some cd ∧ cd.mro = .ref C_BadLot :: bmOf C_MapError 2) → _) t_BadLot.mro, t_BadLot.typ⟩
        | 3, _ => exact ⟨(fun ⟨cd, h, _⟩ => by show (PySem.W.clsIn K C_BadTurns).isSome = true; rw [h]; rfl : (∃ cd, PySem.W.clsIn K C_BadTurns = some cd ∧ cd.mro = .ref C_BadTurns :: bmOf C_MapError 3) → _) t_BadTurns.mro, t_BadTurns.typ⟩
        | 4, _ => exact ⟨(fun ⟨cd, h, _⟩ => by show (PySem.W.clsIn K C_BadSpots).isSome = true; rw [h]; rfl : (∃ cd, PySem.W.clsIn K C_BadSpots = some cd ∧ cd.mro = .ref C_BadSpots :: bmOf C_MapError 4) → _) t_BadSpots.mro, t_BadSpots.typ⟩
        | 5, _ => exact ⟨(fun ⟨cd, h, _⟩ => by show (PySem.W.clsIn K C_BadNet).isSome = true; rw [h]; rfl : (∃ cd, PySem.W.clsIn K C_BadNet = some cd ∧ cd.mro = .ref C_BadNet :: bmOf C_MapError 5) → _) t_BadNet.mro, t_BadNet.typ⟩
        | 6, _ => exact ⟨(fun ⟨cd, h, _⟩ => by show (PySem.W.clsIn K C_BadRound).isSome = true; rw [h]; rfl : (∃ cd, PySem.W.clsIn K C_BadRound = some cd ∧ cd.mro = .ref C_BadRound :: bmOf C_MapError 6) → _) t_BadRound.mro, t_BadRound.typ⟩
        | 7, _ => exact ⟨(fun ⟨cd, h, _⟩ => by show (PySem.W.clsIn K C_BadClaim).isSome = true; rw [h]; rfl : (∃ cd, PySem.W.clsIn K C_BadClaim = some cd ∧ cd.mro = .ref C_BadClaim :: bmOf C_MapError 7) → _) t_BadClaim.mro, t_BadClaim.typ⟩
        | 8, _ => exact ⟨(fun ⟨cd, h, _⟩ => by show (PySem.W.clsIn K C_BadFacts).isSome = true; rw [h]; rfl : (∃ cd, PySem.W.clsIn K C_BadFacts = some cd ∧ cd.mro = .ref C_BadFacts :: bmOf C_MapError 8) → _) t_BadFacts.mro, t_BadFacts.typ⟩
        | 9, _ => exact ⟨(fun ⟨cd, h, _⟩ => by show (PySem.W.clsIn K C_BadNumber).isSome = true; rw [h]; rfl : (∃ cd, PySem.W.clsIn K C_BadNumber = some cd ∧ cd.mro = .ref C_BadNumber :: bmOf C_MapError 9) → _) t_BadNumber.mro, t_BadNumber.typ⟩
        | 10, _ => exact ⟨(fun ⟨cd, h, _⟩ => by show (PySem.W.clsIn K C_BadPaper).isSome = true; rw [h]; rfl : (∃ cd, PySem.W.clsIn K C_BadPaper = some cd ∧ cd.mro = .ref C_BadPaper :: bmOf C_MapError 10) → _) t_BadPaper.mro, t_BadPaper.typ⟩
        | 11, _ => exact ⟨(fun ⟨cd, h, _⟩ => by show (PySem.W.clsIn K C_BadText).isSome = true; rw [h]; rfl : (∃ cd, PySem.W.clsIn K C_BadText = some cd ∧ cd.mro = .ref C_BadText :: bmOf C_MapError 11) → _) t_BadText.mro, t_BadText.typ⟩
        | 12, _ => exact ⟨(fun ⟨cd, h, _⟩ => by show (PySem.W.clsIn K C_Quarrel).isSome = true; rw [h]; rfl : (∃ cd, PySem.W.clsIn K C_Quarrel = some cd ∧ cd.mro = .ref C_Quarrel :: bmOf C_MapError 12) → _) t_Quarrel.mro, t_Quarrel.typ⟩
        | 13, _ => exact ⟨(fun ⟨cd, h, _⟩ => by show (PySem.W.clsIn K C_TooMany).isSome = true; rw [h]; rfl : (∃ cd, PySem.W.clsIn K C_TooMany = some cd ∧ cd.mro = .ref C_TooMany :: bmOf C_MapError 13) → _) t_TooMany.mro, t_TooMany.typ⟩
        | 14, _ => exact ⟨iM, tM⟩
        | c + 15, hc => exact absurd hc (by omega)
      inj := fun c d hc hd h => by
        have e : ∀ c, c < 15 → ([C_BadPlaces, C_BadPlace, C_BadLot, C_BadTurns, C_BadSpots, C_BadNet, C_BadRound, C_BadClaim, C_BadFacts, C_BadNumber, C_BadPaper, C_BadText, C_Quarrel, C_TooMany, C_MapError] : List Addr)[c]? = some ((fun n => match n with | 0 => C_BadPlaces | 1 => C_BadPlace | 2 => C_BadLot | 3 => C_BadTurns | 4 => C_BadSpots | 5 => C_BadNet | 6 => C_BadRound | 7 => C_BadClaim | 8 => C_BadFacts | 9 => C_BadNumber | 10 => C_BadPaper | 11 => C_BadText | 12 => C_Quarrel | 13 => C_TooMany | 14 => C_MapError | _ => 0 : Nat → Addr) c) := fun c hc => by
          match c, hc with
          | 0, _ => rfl
          | 1, _ => rfl
          | 2, _ => rfl
          | 3, _ => rfl
          | 4, _ => rfl
          | 5, _ => rfl
          | 6, _ => rfl
          | 7, _ => rfl
          | 8, _ => rfl
          | 9, _ => rfl
          | 10, _ => rfl
          | 11, _ => rfl
          | 12, _ => rfl
          | 13, _ => rfl
          | 14, _ => rfl
          | c + 15, hc => exact absurd hc (by omega)
        obtain ⟨h1, e1⟩ := List.getElem?_eq_some_iff.mp (e c hc)
        obtain ⟨h2, e2⟩ := List.getElem?_eq_some_iff.mp (e d hd)
        exact (List.getElem_inj nd).mp (e1.trans (h.trans e2.symm)) } })
end K70

/-! the law -/
namespace K70
open PySem PI LN PL PyProof.Rows
open L2 (atI)
section
variable {cls : Nat → Addr}
abbrev ex (cls : Nat → Addr) (q : D) (c : Nat) : D := .exn c (cls c) (fldX c) q
def LQ : List D := [.non, .int 0, .int 5, .int (-1), .str "a", .str "", .tup [], .tup [.int 1, .int 2], .lst [], .dct [] [], .bl true, .int (10 ^ 30)]
theorem LQ_all : LQ.all (fun d => fit (10 ^ 31) d && decide (dp d ≤ 2) && decide (wt d ≤ 200)) = true := by decide +kernel
theorem LQ_th {d : D} (h : d ∈ LQ) : Fine (10 ^ 40) 60 200 d := by
  have := List.all_eq_true.mp LQ_all d h
  simp only [Bool.and_eq_true, decide_eq_true_eq] at this
  obtain ⟨⟨h1, h2⟩, h3⟩ := this
  exact ⟨fit_mono (by decide) d h1, Nat.le_trans h2 (by decide), h3⟩
theorem value_ev {k b : Nat} {s : SS} (hg : Go [] (b + 1) s) : ∃ q s', callT cls (k + 2) 192 [.drw] s = .ok q s' ∧ q ∈ LQ ∧ Go [] b s' := by
  obtain ⟨i, s', hn, h0, h1, hg'⟩ := next_go (n := 12) hg (by decide) (by decide)
  obtain ⟨d, hd, hm⟩ := at_in (xs := LQ) h0 h1
  have th := LQ_th hm
  refine ⟨d, s', ?_, hm, hg'⟩
  have a1 : evSs (callT cls (k + 1)) S_law_value [some .drw] s = .rt d s' := s_ret (e_ix (x := .lst LQ) (s1 := s) rfl (e_next (Γ := callT cls (k + 1)) rfl rfl e_k hn) hd) (fit_pure th.f)
  exact fn_ret a1 (fit_pure th.f) hg.cs hg'.cs
theorem isx_ok {ts : List Tg} {c : Nat} {f : Str} {q : D} {s : SS} (hc : c < 14) : isxM cls (tbs ts) [.exn c (cls c) f q] s = .ok (.bl (ts.any fun t => tgB t c)) s := by
  show (if cls c = cls c then M.opt ((tbs ts c).map D.bl) else M.stk) s = _
  rw [if_pos rfl]
  unfold tbs
  rw [if_pos hc]
  rfl
theorem mk_ok {c : Nat} {C : Addr} {f : Str} {q : D} {s : SS} (hp : pureB q = true) : mkxM c C f [q] s = .ok (D.exn c C f q) s := by
  show (if pureB q = true then M.ret (D.exn c C f q) else M.stk) s = _
  rw [if_pos hp]
  rfl
theorem xat_ok {c : Nat} {C : Addr} {f g : Str} {q : D} {s : SS} (h : g = f) : xatM f [.exn c C g q] s = .ok q s := by
  show (if g = f then M.ret q else M.stk) s = _
  rw [if_pos h]
  rfl
theorem kinds_bits : ∀ c, c < 14 → ((List.range 14).map fun i => [Tg.own i].any fun t => tgB t c) = (List.range 14).map fun i => i == c := by decide +kernel
theorem kinds_ev {k c : Nat} {q : D} {s : SS} (hc : c < 14) : callT cls (k + 2) 118 [ex cls q c] s = .ok (.lst ((List.range 14).map fun i => .bl (i == c))) s := by
  let t (i : Nat) : D := .bl ([Tg.own i].any fun t => tgB t c)
  let E1 (l : List D) : Env' := [some (ex cls q c), some (.lst l)]
  have is (i : Nat) : isxM cls (tbs [.own i]) [ex cls q c] s = .ok (t i) s := isx_ok hc
  have a1 : evSs (callT cls (k + 1)) S_law_kinds [some (ex cls q c), none] s = .rt (.lst [t 0, t 1, t 2, t 3, t 4, t 5, t 6, t 7, t 8, t 9, t 10, t 11, t 12, t 13]) s := by
    refine s_asg (E := E1 [t 0, t 1, t 2, t 3]) (e_lst (l_cons (e_call (n_cons (e_v rfl) n_nil) (is 0)) rfl (l_cons (e_call (n_cons (e_v rfl) n_nil) (is 1)) rfl (l_cons (e_call (n_cons (e_v rfl) n_nil) (is 2)) rfl (l_cons (e_call (n_cons (e_v rfl) n_nil) (is 3)) rfl l_nil)))) rfl (show 4 ≤ LIM by decide)) rfl ?_
    refine s_asg (E := E1 [t 0, t 1, t 2, t 3, t 4, t 5, t 6]) (e_bin (e_v rfl) (e_lst (l_cons (e_call (n_cons (e_v rfl) n_nil) (is 4)) rfl (l_cons (e_call (n_cons (e_v rfl) n_nil) (is 5)) rfl (l_cons (e_call (n_cons (e_v rfl) n_nil) (is 6)) rfl l_nil))) rfl (show 3 ≤ LIM by decide)) rfl) rfl ?_
    refine s_asg (E := E1 [t 0, t 1, t 2, t 3, t 4, t 5, t 6, t 7, t 8, t 9]) (e_bin (e_v rfl) (e_lst (l_cons (e_call (n_cons (e_v rfl) n_nil) (is 7)) rfl (l_cons (e_call (n_cons (e_v rfl) n_nil) (is 8)) rfl (l_cons (e_call (n_cons (e_v rfl) n_nil) (is 9)) rfl l_nil))) rfl (show 3 ≤ LIM by decide)) rfl) rfl ?_
    refine s_asg (E := E1 [t 0, t 1, t 2, t 3, t 4, t 5, t 6, t 7, t 8, t 9, t 10, t 11]) (e_bin (e_v rfl) (e_lst (l_cons (e_call (n_cons (e_v rfl) n_nil) (is 10)) rfl (l_cons (e_call (n_cons (e_v rfl) n_nil) (is 11)) rfl l_nil)) rfl (show 2 ≤ LIM by decide)) rfl) rfl ?_
    exact s_ret (e_bin (e_v rfl) (e_lst (l_cons (e_call (n_cons (e_v rfl) n_nil) (is 12)) rfl (l_cons (e_call (n_cons (e_v rfl) n_nil) (is 13)) rfl l_nil)) rfl (show 2 ≤ LIM by decide)) rfl) rfl
  have e : ([t 0, t 1, t 2, t 3, t 4, t 5, t 6, t 7, t 8, t 9, t 10, t 11, t 12, t 13] : List D) = (List.range 14).map fun i => .bl (i == c) := by
    have h := congrArg (List.map D.bl) (kinds_bits c hc)
    rw [List.map_map, List.map_map] at h
    exact h
  rw [e] at a1
  exact fn_ret a1 rfl rfl rfl
theorem fld_p : ∀ c, c < 14 → ([Tg.own 3, .own 4, .own 10].any fun t => tgB t c) = true → fldX c = "place" := by decide +kernel
theorem fld_v : ∀ c, c < 14 → ([Tg.own 0, .own 1, .own 2, .own 5, .own 6, .own 7, .own 9].any fun t => tgB t c) = true → fldX c = "value" := by decide +kernel
theorem fld_n : ∀ c, c < 14 → ([Tg.own 8].any fun t => tgB t c) = true → fldX c = "number" := by decide +kernel
theorem fld_l : ∀ c, c < 14 → ([Tg.own 11].any fun t => tgB t c) = true → fldX c = "line" := by decide +kernel
theorem fld_t : ∀ c, c < 14 → ([Tg.own 12].any fun t => tgB t c) = true → fldX c = "tree" := by decide +kernel
theorem fld_m : ∀ c, c < 14 → ([Tg.own 3, .own 4, .own 10].any fun t => tgB t c) = false ∧ ([Tg.own 0, .own 1, .own 2, .own 5, .own 6, .own 7, .own 9].any fun t => tgB t c) = false ∧ ([Tg.own 8].any fun t => tgB t c) = false ∧ ([Tg.own 11].any fun t => tgB t c) = false ∧
    ([Tg.own 12].any fun t => tgB t c) = false → fldX c = "most" := by decide +kernel
theorem field_ev {k c : Nat} {q : D} {s : SS} (hc : c < 14) (hp : pureB q = true) : callT cls (k + 2) 88 [ex cls q c] s = .ok q s := by
  let E : Env' := [some (ex cls q c)]
  let Γ := callT cls (k + 1)
  have x0 : evN Γ [.v 0] E s = .ok [ex cls q c] s := n_cons (e_v rfl) n_nil
  have c1 : evC Γ (.call 854 [.v 0]) E s = .ok (.bl ([Tg.own 3, .own 4, .own 10].any fun t => tgB t c)) s := e_call x0 (isx_ok (cls := cls) (f := fldX c) (q := q) hc)
  have c2 : evC Γ (.call 855 [.v 0]) E s = .ok (.bl ([Tg.own 0, .own 1, .own 2, .own 5, .own 6, .own 7, .own 9].any fun t => tgB t c)) s := e_call x0 (isx_ok (cls := cls) (f := fldX c) (q := q) hc)
  have c3 : evC Γ (.call 848 [.v 0]) E s = .ok (.bl ([Tg.own 8].any fun t => tgB t c)) s := e_call x0 (isx_ok (cls := cls) (f := fldX c) (q := q) hc)
  have c4 : evC Γ (.call 851 [.v 0]) E s = .ok (.bl ([Tg.own 11].any fun t => tgB t c)) s := e_call x0 (isx_ok (cls := cls) (f := fldX c) (q := q) hc)
  have c5 : evC Γ (.call 852 [.v 0]) E s = .ok (.bl ([Tg.own 12].any fun t => tgB t c)) s := e_call x0 (isx_ok (cls := cls) (f := fldX c) (q := q) hc)
  have a1 : evSs Γ S_law_field E s = .rt q s := by
    cases b1 : ([Tg.own 3, .own 4, .own 10].any fun t => tgB t c) with
    | true => rw [b1] at c1; exact s_if_ret c1 (s_ret (e_call x0 (xat_ok (c := c) (C := cls c) (fld_p c hc b1))) hp)
    | false =>
      rw [b1] at c1
      refine s_if_f c1 ?_
      cases b2 : ([Tg.own 0, .own 1, .own 2, .own 5, .own 6, .own 7, .own 9].any fun t => tgB t c) with
      | true => rw [b2] at c2; exact s_if_ret c2 (s_ret (e_call x0 (xat_ok (c := c) (C := cls c) (fld_v c hc b2))) hp)
      | false =>
        rw [b2] at c2
        refine s_if_f c2 ?_
        cases b3 : ([Tg.own 8].any fun t => tgB t c) with
        | true => rw [b3] at c3; exact s_if_ret c3 (s_ret (e_call x0 (xat_ok (c := c) (C := cls c) (fld_n c hc b3))) hp)
        | false =>
          rw [b3] at c3
          refine s_if_f c3 ?_
          cases b4 : ([Tg.own 11].any fun t => tgB t c) with
          | true => rw [b4] at c4; exact s_if_ret c4 (s_ret (e_call x0 (xat_ok (c := c) (C := cls c) (fld_l c hc b4))) hp)
          | false =>
            rw [b4] at c4
            exact s_if_f c4 (s_ret (e_ite c5 (fun b5 => e_call x0 (xat_ok (c := c) (C := cls c) (fld_t c hc b5))) (fun b5 => e_call x0 (xat_ok (c := c) (C := cls c) (fld_m c hc ⟨b1, b2, b3, b4, b5⟩)))) hp)
  exact fn_ret a1 hp rfl rfl
theorem eqBs_bl : ∀ bs : List Bool, eqBs (bs.map D.bl) (bs.map D.bl) = true
  | [] => rfl
  | b :: bs => by
    show (eqB (.bl b) (.bl b) && eqBs (bs.map D.bl) (bs.map D.bl)) = true
    rw [eqBs_bl bs]
    show ((b == b) && true) = true
    rw [beq_self_eq_true]; rfl
theorem plains_bl : ∀ bs : List Bool, plains (bs.map D.bl) = true ∧ deps (bs.map D.bl) = 0
  | [] => ⟨rfl, rfl⟩
  | b :: bs => by
    obtain ⟨h1, h2⟩ := plains_bl bs
    refine ⟨?_, ?_⟩
    · show (plain (.bl b) && plains (bs.map D.bl)) = true
      rw [h1]; rfl
    · show max 0 (deps (bs.map D.bl)) = 0
      rw [h2]; rfl
theorem ne_bl (b : Bool) (bs : List Bool) : neD (.lst ((b :: bs).map D.bl)) (.lst ((b :: bs).map D.bl)) = some (.bl false) := by
  have ok : eqOk (.lst ((b :: bs).map D.bl)) (.lst ((b :: bs).map D.bl)) = true := by
    obtain ⟨h1, h2⟩ := plains_bl (b :: bs)
    unfold eqOk
    show (plains ((b :: bs).map D.bl) && plains ((b :: bs).map D.bl) && decide (min (deps ((b :: bs).map D.bl) + 1) (deps ((b :: bs).map D.bl) + 1) ≤ 60)) = true
    rw [h1, h2]; rfl
  show (if eqOk (.lst ((b :: bs).map D.bl)) (.lst ((b :: bs).map D.bl)) = true then some (D.bl (!eqBs ((b :: bs).map D.bl) ((b :: bs).map D.bl))) else none) = _
  rw [if_pos ok, eqBs_bl]; rfl
theorem told_bits : ∀ j, j < 14 → [[Tg.own 14].any fun t => tgB t j, [Tg.ve].any fun t => tgB t j, [Tg.le].any fun t => tgB t j, [Tg.oe].any fun t => tgB t j, [Tg.ke, .ie].any fun t => tgB t j] = [decide (j < 12), decide (j < 12), decide (j = 12), decide (j = 13), false] := by decide +kernel
theorem i_enum {Γ : Fns} {a : C} {env : Env'} {s s1 : SS} {xs : List D} (h : evL Γ [a] env s = .ok [.lst xs] s1) : evI Γ (.enum [a]) env s = .ok (enumL 0 xs) s1 := by
  show enumM (evL Γ [a] env) s = _
  unfold enumM
  rw [bnd_ok h]; rfl
abbrev S_turn : List S := [.ite (.or (.cmp .ne (.bi .repr [.call 88 [.v 7]]) (.bi .repr [.v 3])) (.cmp .ne (.bi .repr [.call 88 [.ix (.v 5) (.v 6)]]) (.bi .repr [.v 3]))) [.ret (.k (.bl false))] [], .ite (.or (.cmp .ne (.call 118 [.v 7]) (.lc [9] (.nm 9) (.rng [.k (.int 14)]) (.k (.bl true)) (.cmp .eq (.v 9) (.v 6)))) (.cmp .ne (.call 118 [.ix (.v 5) (.v 6)]) (.call 118 [.v 7]))) [.ret (.k (.bl false))] [], .asg (.nm 8) (.lst [.call 856 [.v 7], .call 857 [.v 7], .call 858 [.v 7]]), .asg (.nm 8) (.bin .add (.v 8) (.lst [.call 859 [.v 7], .call 860 [.v 7]])), .ite (.cmp .ne (.v 8) (.lst [.cmp .lt (.v 6) (.k (.int 12)), .cmp .lt (.v 6) (.k (.int 12)), .cmp .eq (.v 6) (.k (.int 12)), .cmp .eq (.v 6) (.k (.int 13)), .k (.bl false)])) [.ret (.k (.bl false))] []]
abbrev exs (cls : Nat → Addr) (q : D) : List D := (List.range 14).map (ex cls q)
theorem one_ev {k j : Nat} {q : D} {s : SS} (hj : j < 14) (hq : q ∈ LQ) {a0 a1 a2 a4 a8 a9 : Option D} :
    ∃ b8, evSs (callT cls (k + 2)) S_turn [a0, a1, a2, some q, a4, some (.lst (exs cls q)), some (.int (j : Int)), some (ex cls q j), a8, a9] s = .nx [a0, a1, a2, some q, a4, some (.lst (exs cls q)), some (.int (j : Int)), some (ex cls q j), b8, a9] s := by
  have th := LQ_th hq
  have hp : pureB q = true := fit_pure th.f
  have er : reprD [q] = some (.str (reprS q)) := repr_ok' th (by decide) (by decide) (by decide)
  have pl : plain (.str (reprS q)) = true := repr_plain th
  have en : neD (.str (reprS q)) (.str (reprS q)) = some (.bl false) := by
    have ok : eqOk (.str (reprS q)) (.str (reprS q)) = true := by
      unfold eqOk
      rw [pl]
      rfl
    show (if eqOk (.str (reprS q)) (.str (reprS q)) = true then some (D.bl (!eqB (.str (reprS q)) (.str (reprS q)))) else none) = _
    rw [if_pos ok]
    simp [eqB]
  let Γ := callT cls (k + 2)
  let E : Env' := [a0, a1, a2, some q, a4, some (.lst (exs cls q)), some (.int (j : Int)), some (ex cls q j), a8, a9]
  have v7 : evN Γ [.v 7] E s = .ok [ex cls q j] s := n_cons (e_v rfl) n_nil
  have at5 : evC Γ (.ix (.v 5) (.v 6)) E s = .ok (ex cls q j) s := by
    refine e_ix (x := .lst (exs cls q)) (y := .int (j : Int)) (s1 := s) (e_v rfl) (e_v rfl) ?_
    show atI (exs cls q) (j : Int) = _
    refine L2.atI_nat ?_
    unfold exs
    rw [List.getElem?_map, List.getElem?_range hj]
    rfl
  have v5 : evN Γ [.ix (.v 5) (.v 6)] E s = .ok [ex cls q j] s := n_cons at5 n_nil
  have rq : evC Γ (.bi .repr [.v 3]) E s = .ok (.str (reprS q)) s := e_bi (n_cons (e_v rfl) n_nil) (by show reprD [vw s q] = _; rw [vw_ok hp]; exact er)
  have rf : ∀ {c : C}, evN Γ [c] E s = .ok [ex cls q j] s → evC Γ (.bi .repr [.call 88 [c]]) E s = .ok (.str (reprS q)) s := fun h => e_bi (n_cons (e_call h (field_ev (k := k) hj hp)) n_nil) (by show reprD [vw s q] = _; rw [vw_ok hp]; exact er)
  have t1 : evC Γ (.or (.cmp .ne (.bi .repr [.call 88 [.v 7]]) (.bi .repr [.v 3])) (.cmp .ne (.bi .repr [.call 88 [.ix (.v 5) (.v 6)]]) (.bi .repr [.v 3]))) E s = .ok (.bl false) s :=
    e_or_f (e_cmp (rf v7) rq en) (e_cmp (rf v5) rq en)
  let B : List Bool := (List.range 14).map fun i => i == j
  have eB : ((List.range 14).map fun i => D.bl (i == j)) = B.map D.bl := by rw [List.map_map]; rfl
  have kd : ∀ {c : C}, evN Γ [c] E s = .ok [ex cls q j] s → evC Γ (.call 118 [c]) E s = .ok (.lst (B.map D.bl)) s := fun h => by
    rw [← eB]
    exact e_call h (kinds_ev (k := k) hj)
  have lc : evC Γ (.lc [9] (.nm 9) (.rng [.k (.int 14)]) (.k (.bl true)) (.cmp .eq (.v 9) (.v 6))) E s = .ok (.lst (B.map D.bl)) s := by
    have h := e_lcA (Γ := Γ) (own := [9]) (t := .nm 9) (env := E) (s := s) (e := .cmp .eq (.v 9) (.v 6)) (f := fun d => .bl (unI d == j)) (i_rng1 (j := 14) (a := .k (.int 14)) e_k rfl) (by show (rangeL 0 14).length ≤ LIM; decide) fun d hd => by
      obtain ⟨i, hi, rfl⟩ := range_mem (n := 14) hd
      refine ⟨_, rfl, ?_, rfl⟩
      refine e_cmp (x := .int (i : Int)) (y := .int (j : Int)) (e_v rfl) (e_v rfl) ?_
      show some (D.bl ((i : Int) == (j : Int))) = some (.bl (((i : Int).toNat) == j))
      rw [Int.toNat_natCast]
      congr 2
      rw [Bool.eq_iff_iff, beq_iff_eq, beq_iff_eq]
      omega
    have e : ((rangeL 0 14).map fun d => D.bl (unI d == j)) = B.map D.bl := by
      show ((rangeL 0 14).map fun d => D.bl (unI d == j)) = ((List.range 14).map fun i => i == j).map D.bl
      rfl
    rw [e] at h
    exact h
  have nb : neD (.lst (B.map D.bl)) (.lst (B.map D.bl)) = some (.bl false) := ne_bl (0 == j) _
  have t2 : evC Γ (.or (.cmp .ne (.call 118 [.v 7]) (.lc [9] (.nm 9) (.rng [.k (.int 14)]) (.k (.bl true)) (.cmp .eq (.v 9) (.v 6)))) (.cmp .ne (.call 118 [.ix (.v 5) (.v 6)]) (.call 118 [.v 7]))) E s = .ok (.bl false) s :=
    e_or_f (e_cmp (kd v7) lc nb) (e_cmp (kd v5) (kd v7) nb)
  let L : List Bool := [decide (j < 12), decide (j < 12), decide (j = 12), decide (j = 13), false]
  have tb := told_bits j hj
  have tb : [([Tg.own 14].any fun t => tgB t j), ([Tg.ve].any fun t => tgB t j), ([Tg.le].any fun t => tgB t j), ([Tg.oe].any fun t => tgB t j), ([Tg.ke, .ie].any fun t => tgB t j)].map D.bl = L.map D.bl := congrArg (List.map D.bl) tb
  let m : D := .bl ([Tg.own 14].any fun t => tgB t j)
  let v : D := .bl ([Tg.ve].any fun t => tgB t j)
  let l : D := .bl ([Tg.le].any fun t => tgB t j)
  let o : D := .bl ([Tg.oe].any fun t => tgB t j)
  let i : D := .bl ([Tg.ke, .ie].any fun t => tgB t j)
  let E2 : Env' := [a0, a1, a2, some q, a4, some (.lst (exs cls q)), some (.int (j : Int)), some (ex cls q j), some (.lst [m, v, l]), a9]
  let E3 : Env' := [a0, a1, a2, some q, a4, some (.lst (exs cls q)), some (.int (j : Int)), some (ex cls q j), some (.lst [m, v, l, o, i]), a9]
  have w7 : evN Γ [.v 7] E2 s = .ok [ex cls q j] s := n_cons (e_v rfl) n_nil
  refine ⟨some (.lst [m, v, l, o, i]), s_if_f t1 (s_if_f t2 ?_)⟩
  refine s_asg (E := E2) (d := .lst [m, v, l]) (e_lst (l_cons (e_call v7 (isx_ok (cls := cls) (f := fldX j) (q := q) (ts := [.own 14]) hj)) rfl (l_cons (e_call v7 (isx_ok (cls := cls) (f := fldX j) (q := q) (ts := [.ve]) hj)) rfl (l_cons (e_call v7 (isx_ok (cls := cls) (f := fldX j) (q := q) (ts := [.le]) hj)) rfl l_nil))) rfl (show 3 ≤ LIM by decide)) rfl ?_
  refine s_asg (E := E3) (d := .lst [m, v, l, o, i]) (e_bin (x := .lst [m, v, l]) (y := .lst [o, i]) (e_v rfl) (e_lst (l_cons (e_call w7 (isx_ok (cls := cls) (f := fldX j) (q := q) (ts := [.oe]) hj)) rfl (l_cons (e_call w7 (isx_ok (cls := cls) (f := fldX j) (q := q) (ts := [.ke, .ie]) hj)) rfl l_nil)) rfl (show 2 ≤ LIM by decide)) rfl) rfl ?_
  have lt : evC Γ (.cmp .lt (.v 6) (.k (.int 12))) E3 s = .ok (.bl (decide (j < 12))) s := e_cmp (x := .int (j : Int)) (y := .int 12) (e_v rfl) e_k (by
    show some (D.bl (decide ((j : Int) < 12))) = _
    congr 2
    rw [decide_eq_decide]; omega)
  have eq (n : Nat) : evC Γ (.cmp .eq (.v 6) (.k (.int (n : Int)))) E3 s = .ok (.bl (decide (j = n))) s := e_cmp (x := .int (j : Int)) (y := .int (n : Int)) (e_v rfl) e_k (by
    show some (D.bl ((j : Int) == (n : Int))) = _
    congr 2
    rw [Bool.eq_iff_iff, beq_iff_eq, decide_eq_true_eq]; omega)
  have ll : evC Γ (.lst [.cmp .lt (.v 6) (.k (.int 12)), .cmp .lt (.v 6) (.k (.int 12)), .cmp .eq (.v 6) (.k (.int 12)), .cmp .eq (.v 6) (.k (.int 13)), .k (.bl false)]) E3 s = .ok (.lst (L.map D.bl)) s :=
    e_lst (l_cons lt rfl (l_cons lt rfl (l_cons (eq 12) rfl (l_cons (eq 13) rfl (l_cons e_k rfl l_nil))))) rfl (show 5 ≤ LIM by decide)
  refine s_if_f (e_cmp (x := .lst (L.map D.bl)) (y := .lst (L.map D.bl)) (s1 := s) ?_ ll (ne_bl (decide (j < 12)) [decide (j < 12), decide (j = 12), decide (j = 13), false])) rfl
  rw [← tb]
  exact e_v rfl
theorem loop_ev {k : Nat} {q : D} {s : SS} (hq : q ∈ LQ) {a0 a1 a2 a4 a9 : Option D} : ∀ (n j : Nat), j + n = 14 → ∀ a6 a7 a8 : Option D,
    ∃ b6 b7 b8, forL (.tup [.nm 6, .nm 7]) (evSs (callT cls (k + 2)) S_turn) (enumL j ((List.range' j n).map (ex cls q))) [a0, a1, a2, some q, a4, some (.lst (exs cls q)), a6, a7, a8, a9] s = .nx [a0, a1, a2, some q, a4, some (.lst (exs cls q)), b6, b7, b8, a9] s
  | 0, j, h, a6, a7, a8 => ⟨a6, a7, a8, rfl⟩
  | n + 1, j, h, a6, a7, a8 => by
    obtain ⟨b8, e1⟩ := one_ev (cls := cls) (k := k) (j := j) (s := s) (a0 := a0) (a1 := a1) (a2 := a2) (a4 := a4) (a8 := a8) (a9 := a9) (by omega) hq
    obtain ⟨c6, c7, c8, e2⟩ := loop_ev (k := k) (s := s) hq (a0 := a0) (a1 := a1) (a2 := a2) (a4 := a4) (a9 := a9) n (j + 1) (by omega) (some (.int (j : Int))) (some (ex cls q j)) b8
    refine ⟨c6, c7, c8, ?_⟩
    rw [List.range'_succ, List.map_cons]
    exact for_cons (d := .tup [.int (j : Int), ex cls q j]) rfl e1 e2
theorem main (cls : Nat → Addr) (ns : List Int) (hn : ns.length ≤ 63) : ∃ s', callT cls 31 273 [.lst (ns.map D.int)] ⟨none, []⟩ = .ok (.bl true) s' := by
  let M : MS := ⟨ns, ns.filter (fun n => decide (1000000000000000000 ≤ n)), 0⟩
  let s0 : SS := ⟨some M, []⟩
  have hb : callT cls 30 54 [.lst (ns.map D.int)] ⟨none, []⟩ = .ok .drw s0 := by
    show begunM [.lst (ns.map D.int)] ⟨none, []⟩ = _
    unfold begunM
    dsimp only
    rw [intsOf_map, show ([] : List (Bool × OC)).all tblC = true from rfl]
    dsimp only
    rw [if_pos hn]
  have hg : Go [] 100 s0 := ⟨rfl, M, rfl, Int.le_refl 0, (show (0 : Int) + 100 ≤ GRD by decide), Nat.le_trans (List.length_filter_le _ _) hn⟩
  let j : Int := 2 + (if (6 : Int) < (ns.length : Int) then 6 else (ns.length : Int))
  have j0 : 0 ≤ j ∧ j ≤ 8 := by
    show 0 ≤ 2 + _ ∧ 2 + _ ≤ 8
    split <;> omega
  have hr : inR j = true := by
    unfold PI.inR
    rw [decide_eq_true (by omega), decide_eq_true (by omega)]; rfl
  have hlen : (rangeL 0 j).length = j.toNat := by simp [rangeL]
  let Γ := callT cls 30
  let body : List S := [.asg (.nm 3) (.call 192 [.v 1]), .asg (.nm 4) (.lst [.call 800 [.v 3], .call 801 [.v 3], .call 802 [.v 3], .call 803 [.v 3], .call 804 [.v 3], .call 805 [.v 3], .call 806 [.v 3], .call 807 [.v 3]]), .asg (.nm 4) (.bin .add (.v 4) (.lst [.call 808 [.v 3], .call 809 [.v 3], .call 810 [.v 3], .call 811 [.v 3], .call 812 [.v 3], .call 813 [.v 3]])), .asg (.nm 5) (.lst [.call 800 [.v 3], .call 801 [.v 3], .call 802 [.v 3], .call 803 [.v 3], .call 804 [.v 3]]), .asg (.nm 5) (.bin .add (.v 5) (.lst [.call 805 [.v 3], .call 806 [.v 3], .call 807 [.v 3], .call 808 [.v 3], .call 809 [.v 3]])), .asg (.nm 5) (.bin .add (.v 5) (.lst [.call 810 [.v 3], .call 811 [.v 3], .call 812 [.v 3], .call 813 [.v 3]])), .for_ (.tup [(.nm 6), (.nm 7)]) (.enum [.v 4]) S_turn]
  obtain ⟨E, s1, hf, hl, h1, hg1⟩ := for_inv (t := .nm 2) (bd := evSs Γ body)
    (fun ds E s => E.length = 10 ∧ E[1]? = some (some .drw) ∧ Go [] ds.length s)
    (ds := rangeL 0 j) (env := [some (.lst (ns.map D.int)), some .drw, none, none, none, none, none, none, none, none]) (s := s0)
    ⟨rfl, rfl, hg.less (by rw [hlen]; omega)⟩
    (fun d ds env s ⟨hl, h1, hg⟩ => by
      rw [List.length_cons] at hg
      obtain ⟨x0, x1, x2, x3, x4, x5, x6, x7, x8, x9, rfl⟩ : ∃ x0 x1 x2 x3 x4 x5 x6 x7 x8 x9, env = [x0, x1, x2, x3, x4, x5, x6, x7, x8, x9] := by
        match env, hl with
        | [x0, x1, x2, x3, x4, x5, x6, x7, x8, x9], _ => exact ⟨x0, x1, x2, x3, x4, x5, x6, x7, x8, x9, rfl⟩
      have h1 : x1 = some .drw := Option.some.inj h1
      subst h1
      obtain ⟨q, s', e1, hq, hg'⟩ := value_ev (cls := cls) (k := 28) hg
      have hp : pureB q = true := fit_pure (LQ_th hq).f
      obtain ⟨b6, b7, b8, e2⟩ := loop_ev (cls := cls) (k := 28) (q := q) (s := s') hq (a0 := x0) (a1 := some .drw) (a2 := some d) (a4 := some (.lst (exs cls q))) (a9 := x9) 14 0 rfl x6 x7 x8
      refine ⟨[x0, some .drw, some d, x3, x4, x5, x6, x7, x8, x9], [x0, some .drw, some d, some q, some (.lst (exs cls q)), some (.lst (exs cls q)), b6, b7, b8, x9], s', rfl, ?_, rfl, rfl, hg'⟩
      let Ea (a4 a5 : Option D) : Env' := [x0, some .drw, some d, some q, a4, a5, x6, x7, x8, x9]
      have mk : ∀ (a4 a5 : Option D), evN Γ [.v 3] (Ea a4 a5) s' = .ok [q] s' := fun a4 a5 => n_cons (e_v rfl) n_nil
      refine s_asg (E := Ea x4 x5) (e_call (n_cons (e_v rfl) n_nil) e1) rfl ?_
      refine s_asg (E := Ea (some (.lst ((List.range 8).map (ex cls q)))) x5) (d := .lst ((List.range 8).map (ex cls q))) (e_lst (l_cons (e_call (mk _ _) (mk_ok hp)) rfl (l_cons (e_call (mk _ _) (mk_ok hp)) rfl (l_cons (e_call (mk _ _) (mk_ok hp)) rfl (l_cons (e_call (mk _ _) (mk_ok hp)) rfl (l_cons (e_call (mk _ _) (mk_ok hp)) rfl (l_cons (e_call (mk _ _) (mk_ok hp)) rfl (l_cons (e_call (mk _ _) (mk_ok hp)) rfl (l_cons (e_call (mk _ _) (mk_ok hp)) rfl l_nil)))))))) rfl (show 8 ≤ LIM by decide)) rfl ?_
      refine s_asg (E := Ea (some (.lst (exs cls q))) x5) (d := .lst (exs cls q)) (e_bin (x := .lst ((List.range 8).map (ex cls q))) (y := .lst ((List.range' 8 6).map (ex cls q))) (e_v rfl) (e_lst (l_cons (e_call (mk _ _) (mk_ok hp)) rfl (l_cons (e_call (mk _ _) (mk_ok hp)) rfl (l_cons (e_call (mk _ _) (mk_ok hp)) rfl (l_cons (e_call (mk _ _) (mk_ok hp)) rfl (l_cons (e_call (mk _ _) (mk_ok hp)) rfl (l_cons (e_call (mk _ _) (mk_ok hp)) rfl l_nil)))))) rfl (show 6 ≤ LIM by decide)) rfl) rfl ?_
      refine s_asg (E := Ea (some (.lst (exs cls q))) (some (.lst ((List.range 5).map (ex cls q))))) (d := .lst ((List.range 5).map (ex cls q))) (e_lst (l_cons (e_call (mk _ _) (mk_ok hp)) rfl (l_cons (e_call (mk _ _) (mk_ok hp)) rfl (l_cons (e_call (mk _ _) (mk_ok hp)) rfl (l_cons (e_call (mk _ _) (mk_ok hp)) rfl (l_cons (e_call (mk _ _) (mk_ok hp)) rfl l_nil))))) rfl (show 5 ≤ LIM by decide)) rfl ?_
      refine s_asg (E := Ea (some (.lst (exs cls q))) (some (.lst ((List.range 10).map (ex cls q))))) (d := .lst ((List.range 10).map (ex cls q))) (e_bin (x := .lst ((List.range 5).map (ex cls q))) (y := .lst ((List.range' 5 5).map (ex cls q))) (e_v rfl) (e_lst (l_cons (e_call (mk _ _) (mk_ok hp)) rfl (l_cons (e_call (mk _ _) (mk_ok hp)) rfl (l_cons (e_call (mk _ _) (mk_ok hp)) rfl (l_cons (e_call (mk _ _) (mk_ok hp)) rfl (l_cons (e_call (mk _ _) (mk_ok hp)) rfl l_nil))))) rfl (show 5 ≤ LIM by decide)) rfl) rfl ?_
      refine s_asg (E := Ea (some (.lst (exs cls q))) (some (.lst (exs cls q)))) (d := .lst (exs cls q)) (e_bin (x := .lst ((List.range 10).map (ex cls q))) (y := .lst ((List.range' 10 4).map (ex cls q))) (e_v rfl) (e_lst (l_cons (e_call (mk _ _) (mk_ok hp)) rfl (l_cons (e_call (mk _ _) (mk_ok hp)) rfl (l_cons (e_call (mk _ _) (mk_ok hp)) rfl (l_cons (e_call (mk _ _) (mk_ok hp)) rfl l_nil)))) rfl (show 4 ≤ LIM by decide)) rfl) rfl ?_
      refine s_for (ds := enumL 0 (exs cls q)) (s1 := s') (i_enum (l_cons (e_v rfl) rfl l_nil)) ?_ rfl
      exact e2)
  have t : callT cls 31 273 = fnM 10 (evSs (callT cls 30) S_law) := rfl
  rw [t]
  refine ⟨PI.cutS 0 s1, ?_⟩
  have hbody : evSs (callT cls 30) S_law (startE 10 [.lst (ns.map D.int)]) ⟨none, []⟩ = .rt (.bl true) s1 :=
    s_asg (d := .drw) (s1 := s0) (E := [some (.lst (ns.map D.int)), some .drw, none, none, none, none, none, none, none, none]) (e_call (n_cons (e_v rfl) n_nil) hb) rfl (s_for (i_rng1 (j := j) (e_bin e_k (e_bi (n_cons (e_bi (n_cons (e_v rfl) n_nil) (show some (D.int ((ns.map D.int).length : Nat)) = some (D.int (ns.length : Int)) by rw [List.length_map])) (n_cons e_k n_nil)) rfl) rfl) hr) hf (s_ret e_k rfl))
  unfold fnM
  rw [hbody]
  rfl
end
end K70

open PySem PySem.W PyProof.Rows
set_option maxRecDepth 100000 in
set_option maxHeartbeats 8000000 in
theorem PySem.Challenge.cw_leftmaps_k70_errors_holds : PySem.Challenge.rw_leftmaps_k70_errors.Holds := by
  w_on; o_law; k_head; (case hw => w_witness2); k_fill
  refine PI.walkG2 (l := PySem.Challenge.rw_leftmaps_k70_errors) (n := 63) (k := 62) (x := "_law_script") rfl (by decide) rfl ⟨rfl, by decide, by decide⟩ (fun w h Y => PySem.W.kIn_of Y) (fun w => by kernel_rfl) ?F
  case F =>
    intro w mg fa h KX G hmg
    refine' K70.txt_mk (k := 30) (fun cls ns hn => K70.main cls ns hn) hmg ⟨PySem.W.mg_none_of KX G ?g_IndexError, PySem.W.mg_none_of KX G ?g_KeyError, PySem.W.mg_none_of KX G ?g_LookupError, PySem.W.mg_none_of KX G ?g_OverflowError, PySem.W.mg_none_of KX G ?g_ValueError, PySem.W.mg_none_of KX G ?g_enumerate, PySem.W.mg_none_of KX G ?g_int_, PySem.W.mg_none_of KX G ?g_isinstance, PySem.W.mg_none_of KX G ?g_len, PySem.W.mg_none_of KX G ?g_list_, PySem.W.mg_none_of KX G ?g_min, PySem.W.mg_none_of KX G ?g_range, PySem.W.mg_none_of KX G ?g_repr, PySem.W.mg_none_of KX G ?g_super⟩ (PI.def_mk KX G ?a__law_value ?l__law_value ?c__law_value ?k__law_value) (PI.def_mk KX G ?a__law_kinds ?l__law_kinds ?c__law_kinds ?k__law_kinds) (PI.def_mk KX G ?a__law_field ?l__law_field ?c__law_field ?k__law_field) (PI.def_mk KX G ?a_law ?l_law ?c_law ?k_law) (PI.def_mk KX G ?a__law_next ?l__law_next ?c__law_next ?k__law_next) (PI.def_mk KX G ?a__law_begun ?l__law_begun ?c__law_begun ?k__law_begun) ?t_BadPlaces ?t_BadPlace ?t_BadLot ?t_BadTurns ?t_BadSpots ?t_BadNet ?t_BadRound ?t_BadClaim ?t_BadFacts ?t_BadNumber ?t_BadPaper ?t_BadText ?t_Quarrel ?t_TooMany (PySem.W.mg_of KX G ?aM) ?iM ?tM ?nd
    case g_IndexError => k_is
    case g_KeyError => k_is
    case g_LookupError => k_is
    case g_OverflowError => k_is
    case g_ValueError => k_is
    case g_enumerate => k_is
    case g_int_ => k_is
    case g_isinstance => k_is
    case g_len => k_is
    case g_list_ => k_is
    case g_min => k_is
    case g_range => k_is
    case g_repr => k_is
    case g_super => k_is
    (case a__law_value => k_is); (case l__law_value => k_is); (case c__law_value => k_is); (case k__law_value => k_is)
    (case a__law_kinds => k_is); (case l__law_kinds => k_is); (case c__law_kinds => k_is); (case k__law_kinds => k_is)
    (case a__law_field => k_is); (case l__law_field => k_is); (case c__law_field => k_is); (case k__law_field => k_is)
    (case a_law => k_is); (case l_law => k_is); (case c_law => k_is); (case k_law => k_is)
    (case a__law_next => k_is); (case l__law_next => k_is); (case c__law_next => k_is); (case k__law_next => k_is)
    (case a__law_begun => k_is); (case l__law_begun => k_is); (case c__law_begun => k_is); (case k__law_begun => k_is)
    case aM => k_is
    case t_BadPlaces =>
      refine' PI.xn_mk KX G PI.bx_VE ?aC_BadPlaces ?xL_BadPlaces ?a1_BadPlaces ?l1_BadPlaces ?l2_BadPlaces ?l3_BadPlaces ?t1_BadPlaces ?c1_BadPlaces ?sa_BadPlaces ?ga_BadPlaces ?gg_BadPlaces ?nb_BadPlaces ?gc_BadPlaces ?gn_BadPlaces ?gt_BadPlaces ?gm_BadPlaces ?kC_BadPlaces ?eC_BadPlaces ?tC_BadPlaces ?hC_BadPlaces ?ve_BadPlaces ?mr_BadPlaces ?oq_BadPlaces ?su_BadPlaces ?rv_BadPlaces ?e6_BadPlaces ?e7_BadPlaces ?tp_BadPlaces ?e9_BadPlaces ?e10_BadPlaces ?e11_BadPlaces ?e11k_BadPlaces ?e12_BadPlaces ?e13_BadPlaces ?e14_BadPlaces ?e15_BadPlaces ?e16_BadPlaces ?e17_BadPlaces ?e18_BadPlaces ?e19_BadPlaces ?e20_BadPlaces ?e21_BadPlaces ?e22_BadPlaces
      (case aC_BadPlaces => k_is); (case xL_BadPlaces => k_is); (case a1_BadPlaces => k_is); (case l1_BadPlaces => k_is); (case l2_BadPlaces => k_is); (case l3_BadPlaces => k_is); (case t1_BadPlaces => k_is); (case c1_BadPlaces => k_is); (case sa_BadPlaces => k_is); (case ga_BadPlaces => k_is); (case gg_BadPlaces => k_is); (case nb_BadPlaces => k_is); (case gc_BadPlaces => k_is); (case gn_BadPlaces => k_is); (case gt_BadPlaces => k_is); (case gm_BadPlaces => k_is)
      (case kC_BadPlaces => k_is); (case eC_BadPlaces => k_is); (case tC_BadPlaces => k_is); (case hC_BadPlaces => k_is); (case ve_BadPlaces => k_is); (case mr_BadPlaces => k_is); (case oq_BadPlaces => k_is); (case su_BadPlaces => kernel_rfl); (case e6_BadPlaces => rfl); (case e9_BadPlaces => rfl)
      all_goals first | rfl | (intro _ _; rfl) | decide | kernel_rfl
    case t_BadPlace =>
      refine' PI.xn_mk KX G PI.bx_VE ?aC_BadPlace ?xL_BadPlace ?a1_BadPlace ?l1_BadPlace ?l2_BadPlace ?l3_BadPlace ?t1_BadPlace ?c1_BadPlace ?sa_BadPlace ?ga_BadPlace ?gg_BadPlace ?nb_BadPlace ?gc_BadPlace ?gn_BadPlace ?gt_BadPlace ?gm_BadPlace ?kC_BadPlace ?eC_BadPlace ?tC_BadPlace ?hC_BadPlace ?ve_BadPlace ?mr_BadPlace ?oq_BadPlace ?su_BadPlace ?rv_BadPlace ?e6_BadPlace ?e7_BadPlace ?tp_BadPlace ?e9_BadPlace ?e10_BadPlace ?e11_BadPlace ?e11k_BadPlace ?e12_BadPlace ?e13_BadPlace ?e14_BadPlace ?e15_BadPlace ?e16_BadPlace ?e17_BadPlace ?e18_BadPlace ?e19_BadPlace ?e20_BadPlace ?e21_BadPlace ?e22_BadPlace
      (case aC_BadPlace => k_is); (case xL_BadPlace => k_is); (case a1_BadPlace => k_is); (case l1_BadPlace => k_is); (case l2_BadPlace => k_is); (case l3_BadPlace => k_is); (case t1_BadPlace => k_is); (case c1_BadPlace => k_is); (case sa_BadPlace => k_is); (case ga_BadPlace => k_is); (case gg_BadPlace => k_is); (case nb_BadPlace => k_is); (case gc_BadPlace => k_is); (case gn_BadPlace => k_is); (case gt_BadPlace => k_is); (case gm_BadPlace => k_is)
      (case kC_BadPlace => k_is); (case eC_BadPlace => k_is); (case tC_BadPlace => k_is); (case hC_BadPlace => k_is); (case ve_BadPlace => k_is); (case mr_BadPlace => k_is); (case oq_BadPlace => k_is); (case su_BadPlace => kernel_rfl); (case e6_BadPlace => rfl); (case e9_BadPlace => rfl)
      all_goals first | rfl | (intro _ _; rfl) | decide | kernel_rfl
    case t_BadLot =>
      refine' PI.xn_mk KX G PI.bx_VE ?aC_BadLot ?xL_BadLot ?a1_BadLot ?l1_BadLot ?l2_BadLot ?l3_BadLot ?t1_BadLot ?c1_BadLot ?sa_BadLot ?ga_BadLot ?gg_BadLot ?nb_BadLot ?gc_BadLot ?gn_BadLot ?gt_BadLot ?gm_BadLot ?kC_BadLot ?eC_BadLot ?tC_BadLot ?hC_BadLot ?ve_BadLot ?mr_BadLot ?oq_BadLot ?su_BadLot ?rv_BadLot ?e6_BadLot ?e7_BadLot ?tp_BadLot ?e9_BadLot ?e10_BadLot ?e11_BadLot ?e11k_BadLot ?e12_BadLot ?e13_BadLot ?e14_BadLot ?e15_BadLot ?e16_BadLot ?e17_BadLot ?e18_BadLot ?e19_BadLot ?e20_BadLot ?e21_BadLot ?e22_BadLot
      (case aC_BadLot => k_is); (case xL_BadLot => k_is); (case a1_BadLot => k_is); (case l1_BadLot => k_is); (case l2_BadLot => k_is); (case l3_BadLot => k_is); (case t1_BadLot => k_is); (case c1_BadLot => k_is); (case sa_BadLot => k_is); (case ga_BadLot => k_is); (case gg_BadLot => k_is); (case nb_BadLot => k_is); (case gc_BadLot => k_is); (case gn_BadLot => k_is); (case gt_BadLot => k_is); (case gm_BadLot => k_is)
      (case kC_BadLot => k_is); (case eC_BadLot => k_is); (case tC_BadLot => k_is); (case hC_BadLot => k_is); (case ve_BadLot => k_is); (case mr_BadLot => k_is); (case oq_BadLot => k_is); (case su_BadLot => kernel_rfl); (case e6_BadLot => rfl); (case e9_BadLot => rfl)
      all_goals first | rfl | (intro _ _; rfl) | decide | kernel_rfl
    case t_BadTurns =>
      refine' PI.xn_mk KX G PI.bx_VE ?aC_BadTurns ?xL_BadTurns ?a1_BadTurns ?l1_BadTurns ?l2_BadTurns ?l3_BadTurns ?t1_BadTurns ?c1_BadTurns ?sa_BadTurns ?ga_BadTurns ?gg_BadTurns ?nb_BadTurns ?gc_BadTurns ?gn_BadTurns ?gt_BadTurns ?gm_BadTurns ?kC_BadTurns ?eC_BadTurns ?tC_BadTurns ?hC_BadTurns ?ve_BadTurns ?mr_BadTurns ?oq_BadTurns ?su_BadTurns ?rv_BadTurns ?e6_BadTurns ?e7_BadTurns ?tp_BadTurns ?e9_BadTurns ?e10_BadTurns ?e11_BadTurns ?e11k_BadTurns ?e12_BadTurns ?e13_BadTurns ?e14_BadTurns ?e15_BadTurns ?e16_BadTurns ?e17_BadTurns ?e18_BadTurns ?e19_BadTurns ?e20_BadTurns ?e21_BadTurns ?e22_BadTurns
      (case aC_BadTurns => k_is); (case xL_BadTurns => k_is); (case a1_BadTurns => k_is); (case l1_BadTurns => k_is); (case l2_BadTurns => k_is); (case l3_BadTurns => k_is); (case t1_BadTurns => k_is); (case c1_BadTurns => k_is); (case sa_BadTurns => k_is); (case ga_BadTurns => k_is); (case gg_BadTurns => k_is); (case nb_BadTurns => k_is); (case gc_BadTurns => k_is); (case gn_BadTurns => k_is); (case gt_BadTurns => k_is); (case gm_BadTurns => k_is)
      (case kC_BadTurns => k_is); (case eC_BadTurns => k_is); (case tC_BadTurns => k_is); (case hC_BadTurns => k_is); (case ve_BadTurns => k_is); (case mr_BadTurns => k_is); (case oq_BadTurns => k_is); (case su_BadTurns => kernel_rfl); (case e6_BadTurns => rfl); (case e9_BadTurns => rfl)
      all_goals first | rfl | (intro _ _; rfl) | decide | kernel_rfl
    case t_BadSpots =>
      refine' PI.xn_mk KX G PI.bx_VE ?aC_BadSpots ?xL_BadSpots ?a1_BadSpots ?l1_BadSpots ?l2_BadSpots ?l3_BadSpots ?t1_BadSpots ?c1_BadSpots ?sa_BadSpots ?ga_BadSpots ?gg_BadSpots ?nb_BadSpots ?gc_BadSpots ?gn_BadSpots ?gt_BadSpots ?gm_BadSpots ?kC_BadSpots ?eC_BadSpots ?tC_BadSpots ?hC_BadSpots ?ve_BadSpots ?mr_BadSpots ?oq_BadSpots ?su_BadSpots ?rv_BadSpots ?e6_BadSpots ?e7_BadSpots ?tp_BadSpots ?e9_BadSpots ?e10_BadSpots ?e11_BadSpots ?e11k_BadSpots ?e12_BadSpots ?e13_BadSpots ?e14_BadSpots ?e15_BadSpots ?e16_BadSpots ?e17_BadSpots ?e18_BadSpots ?e19_BadSpots ?e20_BadSpots ?e21_BadSpots ?e22_BadSpots
      (case aC_BadSpots => k_is); (case xL_BadSpots => k_is); (case a1_BadSpots => k_is); (case l1_BadSpots => k_is); (case l2_BadSpots => k_is); (case l3_BadSpots => k_is); (case t1_BadSpots => k_is); (case c1_BadSpots => k_is); (case sa_BadSpots => k_is); (case ga_BadSpots => k_is); (case gg_BadSpots => k_is); (case nb_BadSpots => k_is); (case gc_BadSpots => k_is); (case gn_BadSpots => k_is); (case gt_BadSpots => k_is); (case gm_BadSpots => k_is)
      (case kC_BadSpots => k_is); (case eC_BadSpots => k_is); (case tC_BadSpots => k_is); (case hC_BadSpots => k_is); (case ve_BadSpots => k_is); (case mr_BadSpots => k_is); (case oq_BadSpots => k_is); (case su_BadSpots => kernel_rfl); (case e6_BadSpots => rfl); (case e9_BadSpots => rfl)
      all_goals first | rfl | (intro _ _; rfl) | decide | kernel_rfl
    case t_BadNet =>
      refine' PI.xn_mk KX G PI.bx_VE ?aC_BadNet ?xL_BadNet ?a1_BadNet ?l1_BadNet ?l2_BadNet ?l3_BadNet ?t1_BadNet ?c1_BadNet ?sa_BadNet ?ga_BadNet ?gg_BadNet ?nb_BadNet ?gc_BadNet ?gn_BadNet ?gt_BadNet ?gm_BadNet ?kC_BadNet ?eC_BadNet ?tC_BadNet ?hC_BadNet ?ve_BadNet ?mr_BadNet ?oq_BadNet ?su_BadNet ?rv_BadNet ?e6_BadNet ?e7_BadNet ?tp_BadNet ?e9_BadNet ?e10_BadNet ?e11_BadNet ?e11k_BadNet ?e12_BadNet ?e13_BadNet ?e14_BadNet ?e15_BadNet ?e16_BadNet ?e17_BadNet ?e18_BadNet ?e19_BadNet ?e20_BadNet ?e21_BadNet ?e22_BadNet
      (case aC_BadNet => k_is); (case xL_BadNet => k_is); (case a1_BadNet => k_is); (case l1_BadNet => k_is); (case l2_BadNet => k_is); (case l3_BadNet => k_is); (case t1_BadNet => k_is); (case c1_BadNet => k_is); (case sa_BadNet => k_is); (case ga_BadNet => k_is); (case gg_BadNet => k_is); (case nb_BadNet => k_is); (case gc_BadNet => k_is); (case gn_BadNet => k_is); (case gt_BadNet => k_is); (case gm_BadNet => k_is)
      (case kC_BadNet => k_is); (case eC_BadNet => k_is); (case tC_BadNet => k_is); (case hC_BadNet => k_is); (case ve_BadNet => k_is); (case mr_BadNet => k_is); (case oq_BadNet => k_is); (case su_BadNet => kernel_rfl); (case e6_BadNet => rfl); (case e9_BadNet => rfl)
      all_goals first | rfl | (intro _ _; rfl) | decide | kernel_rfl
    case t_BadRound =>
      refine' PI.xn_mk KX G PI.bx_VE ?aC_BadRound ?xL_BadRound ?a1_BadRound ?l1_BadRound ?l2_BadRound ?l3_BadRound ?t1_BadRound ?c1_BadRound ?sa_BadRound ?ga_BadRound ?gg_BadRound ?nb_BadRound ?gc_BadRound ?gn_BadRound ?gt_BadRound ?gm_BadRound ?kC_BadRound ?eC_BadRound ?tC_BadRound ?hC_BadRound ?ve_BadRound ?mr_BadRound ?oq_BadRound ?su_BadRound ?rv_BadRound ?e6_BadRound ?e7_BadRound ?tp_BadRound ?e9_BadRound ?e10_BadRound ?e11_BadRound ?e11k_BadRound ?e12_BadRound ?e13_BadRound ?e14_BadRound ?e15_BadRound ?e16_BadRound ?e17_BadRound ?e18_BadRound ?e19_BadRound ?e20_BadRound ?e21_BadRound ?e22_BadRound
      (case aC_BadRound => k_is); (case xL_BadRound => k_is); (case a1_BadRound => k_is); (case l1_BadRound => k_is); (case l2_BadRound => k_is); (case l3_BadRound => k_is); (case t1_BadRound => k_is); (case c1_BadRound => k_is); (case sa_BadRound => k_is); (case ga_BadRound => k_is); (case gg_BadRound => k_is); (case nb_BadRound => k_is); (case gc_BadRound => k_is); (case gn_BadRound => k_is); (case gt_BadRound => k_is); (case gm_BadRound => k_is)
      (case kC_BadRound => k_is); (case eC_BadRound => k_is); (case tC_BadRound => k_is); (case hC_BadRound => k_is); (case ve_BadRound => k_is); (case mr_BadRound => k_is); (case oq_BadRound => k_is); (case su_BadRound => kernel_rfl); (case e6_BadRound => rfl); (case e9_BadRound => rfl)
      all_goals first | rfl | (intro _ _; rfl) | decide | kernel_rfl
    case t_BadClaim =>
      refine' PI.xn_mk KX G PI.bx_VE ?aC_BadClaim ?xL_BadClaim ?a1_BadClaim ?l1_BadClaim ?l2_BadClaim ?l3_BadClaim ?t1_BadClaim ?c1_BadClaim ?sa_BadClaim ?ga_BadClaim ?gg_BadClaim ?nb_BadClaim ?gc_BadClaim ?gn_BadClaim ?gt_BadClaim ?gm_BadClaim ?kC_BadClaim ?eC_BadClaim ?tC_BadClaim ?hC_BadClaim ?ve_BadClaim ?mr_BadClaim ?oq_BadClaim ?su_BadClaim ?rv_BadClaim ?e6_BadClaim ?e7_BadClaim ?tp_BadClaim ?e9_BadClaim ?e10_BadClaim ?e11_BadClaim ?e11k_BadClaim ?e12_BadClaim ?e13_BadClaim ?e14_BadClaim ?e15_BadClaim ?e16_BadClaim ?e17_BadClaim ?e18_BadClaim ?e19_BadClaim ?e20_BadClaim ?e21_BadClaim ?e22_BadClaim
      (case aC_BadClaim => k_is); (case xL_BadClaim => k_is); (case a1_BadClaim => k_is); (case l1_BadClaim => k_is); (case l2_BadClaim => k_is); (case l3_BadClaim => k_is); (case t1_BadClaim => k_is); (case c1_BadClaim => k_is); (case sa_BadClaim => k_is); (case ga_BadClaim => k_is); (case gg_BadClaim => k_is); (case nb_BadClaim => k_is); (case gc_BadClaim => k_is); (case gn_BadClaim => k_is); (case gt_BadClaim => k_is); (case gm_BadClaim => k_is)
      (case kC_BadClaim => k_is); (case eC_BadClaim => k_is); (case tC_BadClaim => k_is); (case hC_BadClaim => k_is); (case ve_BadClaim => k_is); (case mr_BadClaim => k_is); (case oq_BadClaim => k_is); (case su_BadClaim => kernel_rfl); (case e6_BadClaim => rfl); (case e9_BadClaim => rfl)
      all_goals first | rfl | (intro _ _; rfl) | decide | kernel_rfl
    case t_BadFacts =>
      refine' PI.xn_mk KX G PI.bx_VE ?aC_BadFacts ?xL_BadFacts ?a1_BadFacts ?l1_BadFacts ?l2_BadFacts ?l3_BadFacts ?t1_BadFacts ?c1_BadFacts ?sa_BadFacts ?ga_BadFacts ?gg_BadFacts ?nb_BadFacts ?gc_BadFacts ?gn_BadFacts ?gt_BadFacts ?gm_BadFacts ?kC_BadFacts ?eC_BadFacts ?tC_BadFacts ?hC_BadFacts ?ve_BadFacts ?mr_BadFacts ?oq_BadFacts ?su_BadFacts ?rv_BadFacts ?e6_BadFacts ?e7_BadFacts ?tp_BadFacts ?e9_BadFacts ?e10_BadFacts ?e11_BadFacts ?e11k_BadFacts ?e12_BadFacts ?e13_BadFacts ?e14_BadFacts ?e15_BadFacts ?e16_BadFacts ?e17_BadFacts ?e18_BadFacts ?e19_BadFacts ?e20_BadFacts ?e21_BadFacts ?e22_BadFacts
      (case aC_BadFacts => k_is); (case xL_BadFacts => k_is); (case a1_BadFacts => k_is); (case l1_BadFacts => k_is); (case l2_BadFacts => k_is); (case l3_BadFacts => k_is); (case t1_BadFacts => k_is); (case c1_BadFacts => k_is); (case sa_BadFacts => k_is); (case ga_BadFacts => k_is); (case gg_BadFacts => k_is); (case nb_BadFacts => k_is); (case gc_BadFacts => k_is); (case gn_BadFacts => k_is); (case gt_BadFacts => k_is); (case gm_BadFacts => k_is)
      (case kC_BadFacts => k_is); (case eC_BadFacts => k_is); (case tC_BadFacts => k_is); (case hC_BadFacts => k_is); (case ve_BadFacts => k_is); (case mr_BadFacts => k_is); (case oq_BadFacts => k_is); (case su_BadFacts => kernel_rfl); (case e6_BadFacts => rfl); (case e9_BadFacts => rfl)
      all_goals first | rfl | (intro _ _; rfl) | decide | kernel_rfl
    case t_BadNumber =>
      refine' PI.xn_mk KX G PI.bx_VE ?aC_BadNumber ?xL_BadNumber ?a1_BadNumber ?l1_BadNumber ?l2_BadNumber ?l3_BadNumber ?t1_BadNumber ?c1_BadNumber ?sa_BadNumber ?ga_BadNumber ?gg_BadNumber ?nb_BadNumber ?gc_BadNumber ?gn_BadNumber ?gt_BadNumber ?gm_BadNumber ?kC_BadNumber ?eC_BadNumber ?tC_BadNumber ?hC_BadNumber ?ve_BadNumber ?mr_BadNumber ?oq_BadNumber ?su_BadNumber ?rv_BadNumber ?e6_BadNumber ?e7_BadNumber ?tp_BadNumber ?e9_BadNumber ?e10_BadNumber ?e11_BadNumber ?e11k_BadNumber ?e12_BadNumber ?e13_BadNumber ?e14_BadNumber ?e15_BadNumber ?e16_BadNumber ?e17_BadNumber ?e18_BadNumber ?e19_BadNumber ?e20_BadNumber ?e21_BadNumber ?e22_BadNumber
      (case aC_BadNumber => k_is); (case xL_BadNumber => k_is); (case a1_BadNumber => k_is); (case l1_BadNumber => k_is); (case l2_BadNumber => k_is); (case l3_BadNumber => k_is); (case t1_BadNumber => k_is); (case c1_BadNumber => k_is); (case sa_BadNumber => k_is); (case ga_BadNumber => k_is); (case gg_BadNumber => k_is); (case nb_BadNumber => k_is); (case gc_BadNumber => k_is); (case gn_BadNumber => k_is); (case gt_BadNumber => k_is); (case gm_BadNumber => k_is)
      (case kC_BadNumber => k_is); (case eC_BadNumber => k_is); (case tC_BadNumber => k_is); (case hC_BadNumber => k_is); (case ve_BadNumber => k_is); (case mr_BadNumber => k_is); (case oq_BadNumber => k_is); (case su_BadNumber => kernel_rfl); (case e6_BadNumber => rfl); (case e9_BadNumber => rfl)
      all_goals first | rfl | (intro _ _; rfl) | decide | kernel_rfl
    case t_BadPaper =>
      refine' PI.xn_mk KX G PI.bx_VE ?aC_BadPaper ?xL_BadPaper ?a1_BadPaper ?l1_BadPaper ?l2_BadPaper ?l3_BadPaper ?t1_BadPaper ?c1_BadPaper ?sa_BadPaper ?ga_BadPaper ?gg_BadPaper ?nb_BadPaper ?gc_BadPaper ?gn_BadPaper ?gt_BadPaper ?gm_BadPaper ?kC_BadPaper ?eC_BadPaper ?tC_BadPaper ?hC_BadPaper ?ve_BadPaper ?mr_BadPaper ?oq_BadPaper ?su_BadPaper ?rv_BadPaper ?e6_BadPaper ?e7_BadPaper ?tp_BadPaper ?e9_BadPaper ?e10_BadPaper ?e11_BadPaper ?e11k_BadPaper ?e12_BadPaper ?e13_BadPaper ?e14_BadPaper ?e15_BadPaper ?e16_BadPaper ?e17_BadPaper ?e18_BadPaper ?e19_BadPaper ?e20_BadPaper ?e21_BadPaper ?e22_BadPaper
      (case aC_BadPaper => k_is); (case xL_BadPaper => k_is); (case a1_BadPaper => k_is); (case l1_BadPaper => k_is); (case l2_BadPaper => k_is); (case l3_BadPaper => k_is); (case t1_BadPaper => k_is); (case c1_BadPaper => k_is); (case sa_BadPaper => k_is); (case ga_BadPaper => k_is); (case gg_BadPaper => k_is); (case nb_BadPaper => k_is); (case gc_BadPaper => k_is); (case gn_BadPaper => k_is); (case gt_BadPaper => k_is); (case gm_BadPaper => k_is)
      (case kC_BadPaper => k_is); (case eC_BadPaper => k_is); (case tC_BadPaper => k_is); (case hC_BadPaper => k_is); (case ve_BadPaper => k_is); (case mr_BadPaper => k_is); (case oq_BadPaper => k_is); (case su_BadPaper => kernel_rfl); (case e6_BadPaper => rfl); (case e9_BadPaper => rfl)
      all_goals first | rfl | (intro _ _; rfl) | decide | kernel_rfl
    case t_BadText =>
      refine' PI.xn_mk KX G PI.bx_VE ?aC_BadText ?xL_BadText ?a1_BadText ?l1_BadText ?l2_BadText ?l3_BadText ?t1_BadText ?c1_BadText ?sa_BadText ?ga_BadText ?gg_BadText ?nb_BadText ?gc_BadText ?gn_BadText ?gt_BadText ?gm_BadText ?kC_BadText ?eC_BadText ?tC_BadText ?hC_BadText ?ve_BadText ?mr_BadText ?oq_BadText ?su_BadText ?rv_BadText ?e6_BadText ?e7_BadText ?tp_BadText ?e9_BadText ?e10_BadText ?e11_BadText ?e11k_BadText ?e12_BadText ?e13_BadText ?e14_BadText ?e15_BadText ?e16_BadText ?e17_BadText ?e18_BadText ?e19_BadText ?e20_BadText ?e21_BadText ?e22_BadText
      (case aC_BadText => k_is); (case xL_BadText => k_is); (case a1_BadText => k_is); (case l1_BadText => k_is); (case l2_BadText => k_is); (case l3_BadText => k_is); (case t1_BadText => k_is); (case c1_BadText => k_is); (case sa_BadText => k_is); (case ga_BadText => k_is); (case gg_BadText => k_is); (case nb_BadText => k_is); (case gc_BadText => k_is); (case gn_BadText => k_is); (case gt_BadText => k_is); (case gm_BadText => k_is)
      (case kC_BadText => k_is); (case eC_BadText => k_is); (case tC_BadText => k_is); (case hC_BadText => k_is); (case ve_BadText => k_is); (case mr_BadText => k_is); (case oq_BadText => k_is); (case su_BadText => kernel_rfl); (case e6_BadText => rfl); (case e9_BadText => rfl)
      all_goals first | rfl | (intro _ _; rfl) | decide | kernel_rfl
    case t_Quarrel =>
      refine' PI.xn_mk KX G PI.bx_LE ?aC_Quarrel ?xL_Quarrel ?a1_Quarrel ?l1_Quarrel ?l2_Quarrel ?l3_Quarrel ?t1_Quarrel ?c1_Quarrel ?sa_Quarrel ?ga_Quarrel ?gg_Quarrel ?nb_Quarrel ?gc_Quarrel ?gn_Quarrel ?gt_Quarrel ?gm_Quarrel ?kC_Quarrel ?eC_Quarrel ?tC_Quarrel ?hC_Quarrel ?ve_Quarrel ?mr_Quarrel ?oq_Quarrel ?su_Quarrel ?rv_Quarrel ?e6_Quarrel ?e7_Quarrel ?tp_Quarrel ?e9_Quarrel ?e10_Quarrel ?e11_Quarrel ?e11k_Quarrel ?e12_Quarrel ?e13_Quarrel ?e14_Quarrel ?e15_Quarrel ?e16_Quarrel ?e17_Quarrel ?e18_Quarrel ?e19_Quarrel ?e20_Quarrel ?e21_Quarrel ?e22_Quarrel
      (case aC_Quarrel => k_is); (case xL_Quarrel => k_is); (case a1_Quarrel => k_is); (case l1_Quarrel => k_is); (case l2_Quarrel => k_is); (case l3_Quarrel => k_is); (case t1_Quarrel => k_is); (case c1_Quarrel => k_is); (case sa_Quarrel => k_is); (case ga_Quarrel => k_is); (case gg_Quarrel => k_is); (case nb_Quarrel => k_is); (case gc_Quarrel => k_is); (case gn_Quarrel => k_is); (case gt_Quarrel => k_is); (case gm_Quarrel => k_is)
      (case kC_Quarrel => k_is); (case eC_Quarrel => k_is); (case tC_Quarrel => k_is); (case hC_Quarrel => k_is); (case ve_Quarrel => k_is); (case mr_Quarrel => k_is); (case oq_Quarrel => k_is); (case su_Quarrel => kernel_rfl); (case e6_Quarrel => rfl); (case e9_Quarrel => rfl)
      all_goals first | rfl | (intro _ _; rfl) | decide | kernel_rfl
    case t_TooMany =>
      refine' PI.xn_mk KX G PI.bx_OE ?aC_TooMany ?xL_TooMany ?a1_TooMany ?l1_TooMany ?l2_TooMany ?l3_TooMany ?t1_TooMany ?c1_TooMany ?sa_TooMany ?ga_TooMany ?gg_TooMany ?nb_TooMany ?gc_TooMany ?gn_TooMany ?gt_TooMany ?gm_TooMany ?kC_TooMany ?eC_TooMany ?tC_TooMany ?hC_TooMany ?ve_TooMany ?mr_TooMany ?oq_TooMany ?su_TooMany ?rv_TooMany ?e6_TooMany ?e7_TooMany ?tp_TooMany ?e9_TooMany ?e10_TooMany ?e11_TooMany ?e11k_TooMany ?e12_TooMany ?e13_TooMany ?e14_TooMany ?e15_TooMany ?e16_TooMany ?e17_TooMany ?e18_TooMany ?e19_TooMany ?e20_TooMany ?e21_TooMany ?e22_TooMany
      (case aC_TooMany => k_is); (case xL_TooMany => k_is); (case a1_TooMany => k_is); (case l1_TooMany => k_is); (case l2_TooMany => k_is); (case l3_TooMany => k_is); (case t1_TooMany => k_is); (case c1_TooMany => k_is); (case sa_TooMany => k_is); (case ga_TooMany => k_is); (case gg_TooMany => k_is); (case nb_TooMany => k_is); (case gc_TooMany => k_is); (case gn_TooMany => k_is); (case gt_TooMany => k_is); (case gm_TooMany => k_is)
      (case kC_TooMany => k_is); (case eC_TooMany => k_is); (case tC_TooMany => k_is); (case hC_TooMany => k_is); (case ve_TooMany => k_is); (case mr_TooMany => k_is); (case oq_TooMany => k_is); (case su_TooMany => kernel_rfl); (case e6_TooMany => rfl); (case e9_TooMany => rfl)
      all_goals first | rfl | (intro _ _; rfl) | decide | kernel_rfl
    case iM => k_is
    case tM => k_is
    case nd => decide
