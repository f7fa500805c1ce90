import PyProof.Rows.All
import Wide.All
import OpenK.AllK
import Wide.FinOn
import HandS.ForMost
import HandS.Exc
import HandS.Flow
import HandS.TryMany
import HandS.IsInst
import HandS.HeadHook1
import KE.KDictKeyed
import HandS.DictComp
import HandS.TupAny
import HandS.Style
import HandS.StrMore
import HandS.TupMul
import HandS.SortInts
import HandS.Iter
import HandS.Comp
import HandS.WordsExc
import HandS.ExcOwn
import HandS.More
import HandS.HeadHook2
import HandS.HeadEnd
import KE.KStateDown
import HandS.Head0
import HandS.Head1
import HandS.Head2
import PySem.Challenge.RW_rowwalkers_k75_whole_answers
set_option Elab.async false
set_option linter.all false
/-! RwA: data as trees, the core syntax, its evaluator (value semantics; lists and dicts are owned by one variable while they may be changed). Plain Lean. -/
namespace Rw
open PySem

abbrev Sg := List Nat
/-- a written text's signs -/
def sg (s : String) : Sg := s.toList.map Char.toNat

/-- Python data; o: owned (may be changed in place, through its one owner) -/
inductive D where
  | non | bl (b : Bool) | int (i : Int) | str (x : Sg)
  | tup (xs : List D) | lst (o : Bool) (xs : List D)
  | dct (o : Bool) (kvs : List (D × D)) | obj (o : Bool) (c : String) (fs : List (String × D))
  /-- the script that the law is handed -/
  | scr (ns : List Int)
  deriving Inhabited

mutual
/-- nothing in it is owned -/
def isFr : D → Bool
  | .non | .bl _ | .int _ | .str _ | .scr _ => true
  | .tup xs => isFrL xs
  | .lst o xs => !o && isFrL xs
  | .dct o kvs => !o && isFrP kvs
  | .obj o _ fs => !o && isFrF fs
def isFrL : List D → Bool
  | [] => true
  | x :: t => isFr x && isFrL t
def isFrP : List (D × D) → Bool
  | [] => true
  | (k, v) :: t => isFr k && (isFr v && isFrP t)
def isFrF : List (String × D) → Bool
  | [] => true
  | (_, v) :: t => isFr v && isFrF t
end
mutual
def freeze : D → D
  | .non => .non
  | .bl b => .bl b
  | .int i => .int i
  | .str x => .str x
  | .scr ns => .scr ns
  | .tup xs => .tup (freezeL xs)
  | .lst _ xs => .lst false (freezeL xs)
  | .dct _ kvs => .dct false (freezeP kvs)
  | .obj _ c fs => .obj false c (freezeF fs)
def freezeL : List D → List D
  | [] => []
  | x :: t => freeze x :: freezeL t
def freezeP : List (D × D) → List (D × D)
  | [] => []
  | (k, v) :: t => (freeze k, freeze v) :: freezeP t
def freezeF : List (String × D) → List (String × D)
  | [] => []
  | (f, v) :: t => (f, freeze v) :: freezeF t
end

/-! ### the state -/
/-- nothing; a frozen value; an owned thing; one that is only read; an argument that may be changed -/
inductive Slot where
  | un | fz (d : D) | ow (d : D) | bw (d : D) | mw (d : D)
  deriving Inhabited
abbrev Env := List Slot
/-- a step into an owned thing -/
inductive Stp where
  | ix (n : Nat) | key (k : D) | fld (f : String)
/-- an operand: a frozen value, a new owned thing that nothing else knows, a place of an owned variable -/
inductive Opd where
  | fz (d : D) | ow (d : D) | pt (i : Nat) (p : List Stp)
structure Exc where
  cls : Str
  fs : List (Str × D)
/-- what an evaluation gives -/
inductive Rr (α : Type) where
  | ok (a : α) (ρ : Env) | exc (x : Exc) (ρ : Env) | stuck
def Rr.bind {α β : Type} (r : Rr α) (f : α → Env → Rr β) : Rr β := match r with
  | .ok a ρ => f a ρ
  | .exc x ρ => .exc x ρ
  | .stuck => .stuck
/-- an error leaves with the first n names alone -/
def Rr.cutX {α : Type} (r : Rr α) (n : Nat) : Rr α := match r with
  | .exc x ρ => .exc x (ρ.take n)
  | r => r
/-- no error may leave it -/
def Rr.calm {α : Type} : Rr α → Rr α
  | .exc _ _ => .stuck
  | r => r
inductive Out where
  | nx (ρ : Env) | rt (d : D) (ρ : Env) | bk (ρ : Env) | ct (ρ : Env) | exc (x : Exc) (ρ : Env) | stuck
/-- what a call gives: its value and what the arguments that it may change have become -/
inductive FRes where
  | rt (d : D) (mus : List D) | exc (x : Exc) (mus : List D) | stuck
/-- how a parameter is handed over: for good, to be read, to be changed -/
inductive Mode where
  | al | bw | mu
  deriving DecidableEq

/-! ### the core syntax -/
inductive Cop where
  | eq | ne | lt | le | gt | ge | is | isnot | isin | notin
inductive Tg where
  | nm (i : Nat) | tp (ts : List Tg)
mutual
inductive Ex where
  | var (i : Nat) | mv (i : Nat) | lit (d : D)
  | bop (op : Operator) (a b : Ex) | neg (a : Ex)
  | cmp (op : Cop) (a b : Ex) | cmp2 (op op' : Cop) (a b c : Ex)
  | band (a b : Ex) | bor (a b : Ex) | bnot (a : Ex) | ife (c a b : Ex)
  | tup (es : List Ex) | lst (es : List Ex)
  | sub (a i : Ex) | slc (a : Ex) (lo hi : Option Ex)
  | call (f : Str) (es : List Ex)
  | bi (f : Str) (es : List Ex)
  | isi (a : Ex) (t : Str)
  | mth (m : Str) (o : Ex) (es : List Ex)
  | lc (own : List Nat) (t : Tg) (it : It) (c : Option Ex) (e : Ex)
  /-- two clauses, the second one without a name that would be locked; own1: its names -/
  | lc2 (own : List Nat) (t : Tg) (it : It) (c : Option Ex) (own1 : List Nat) (t1 : Tg) (it1 : It) (c1 : Option Ex) (e : Ex)
  /-- {k: v for t in it if c} -/
  | dc (own : List Nat) (t : Tg) (it : It) (c : Option Ex) (k v : Ex)
  /-- {}: one that is never changed; one's own -/
  | dct0 | dctN
  /-- a.f, for an object a; C(es), g its __init__; a.m(es), gs the methods by classes -/
  | fld (a : Ex) (f : String)
  | mk (c : String) (g : Str) (es : List Ex)
  /-- a.get(i) -/
  | dget (a i : Ex)
  | mcall (m : String) (gs : List (String × Str)) (a : Ex) (es : List Ex)
inductive It where
  | seq (e : Ex) | rng (a : Ex) | rng2 (a b : Ex)
  /-- enumerate(e), e a list -/
  | enm (e : Ex)
end
inductive St where
  | asg (t : Tg) (e : Ex)
  | sub (a i e : Ex)
  | ret (e : Ex) | retN
  | ifs (c : Ex) (a b : List St)
  /-- ks: the names that no turn needs from an earlier one, nor what follows -/
  | whl (ks : List Bool) (c : Ex) (b : List St)
  | fr (ks : List Bool) (t : Tg) (it : It) (b : List St)
  | ex (e : Ex)
  | rse (c : Str)
  | tryx (b : List St) (hs : List (Str × Nat × D))
  | brk | cont | pass
  /-- a.f = e -/
  | sfld (a : Ex) (f : String) (e : Ex)
  /-- name += e, ints or texts -/
  | aug (i : Nat) (e : Ex)
  /-- what is never come to -/
  | dead
/-- a def: its parameters' modes, the number of its names, its body -/
structure Def where
  modes : List Mode
  ns : Nat
  body : List St

/-! ### what changes nothing -/
mutual
/-- its evaluation changes no owned thing -/
def pureE : Ex → Bool
  | .var _ | .lit _ | .mv _ | .dct0 | .dctN => true
  | .call .. | .mk .. | .mcall .. => false
  | .fld a _ => pureE a
  | .lc _ _ it c e => pureI it && (pureO c && pureE e)
  | .lc2 _ _ it c _ _ it1 c1 e => pureI it && (pureO c && (pureI it1 && (pureO c1 && pureE e)))
  | .dc _ _ it c k v => pureI it && (pureO c && (pureE k && pureE v))
  | .bop _ a b | .cmp _ a b | .band a b | .bor a b | .sub a b | .dget a b => pureE a && pureE b
  | .neg a | .bnot a | .isi a _ => pureE a
  | .cmp2 _ _ a b c | .ife a b c => pureE a && (pureE b && pureE c)
  | .tup es | .lst es => pureEs es
  | .bi _ es => pureEs es
  | .slc a lo hi => pureE a && (pureO lo && pureO hi)
  | .mth m o es => !(m = "append" || (m = "pop" || m = "extend")) && (pureE o && pureEs es)
def pureEs : List Ex → Bool
  | [] => true
  | e :: es => pureE e && pureEs es
def pureO : Option Ex → Bool
  | none => true
  | some e => pureE e
def pureI : It → Bool
  | .seq e | .rng e | .enm e => pureE e
  | .rng2 a b => pureE a && pureE b
end
/-- an operand that is a place within an owned thing must not be moved by what is evaluated behind it -/
def okPt (o : Opd) (e : Ex) : Bool := match o with
  | .pt _ (_ :: _) => pureE e
  | _ => true
def okPtO (o : Opd) (e : Option Ex) : Bool := match o with
  | .pt _ (_ :: _) => pureO e
  | _ => true
def Opd.noPlB : Opd → Bool
  | .pt _ (_ :: _) => false
  | _ => true
def okPts (os : List Opd) (es : List Ex) : Bool := os.all Opd.noPlB || pureEs es

/-! ### owned things by places -/
def getAt : D → List Stp → Option D
  | d, [] => some d
  | .lst true xs, .ix n :: p => match xs[n]? with
    | some x => getAt x p
    | none => none
  | .obj true _ fs, .fld f :: p => match fs.lookup f with
    | some x => getAt x p
    | none => none
  | _, _ => none
def putF (f : String) (v : D) : List (String × D) → List (String × D)
  | [] => [(f, v)]
  | (g, x) :: r => if g = f then (g, v) :: r else (g, x) :: putF f v r
def setAt : D → List Stp → D → Option D
  | _, [], e => some e
  | .lst true xs, .ix n :: p, e => match xs[n]? with
    | some x => (setAt x p e).map fun x' => .lst true (xs.set n x')
    | none => none
  | .obj true c fs, .fld f :: p, e => match fs.lookup f with
    | some x => (setAt x p e).map fun x' => .obj true c (putF f x' fs)
    | none => none
  | _, _, _ => none
def Slot.con : Slot → Option D
  | .fz d | .ow d | .bw d | .mw d => some d
  | .un => none
/-- its name can't be stored to -/
def Slot.pin : Slot → Bool
  | .bw _ | .mw _ => true
  | _ => false
def getP (ρ : Env) (i : Nat) (p : List Stp) : Option D := ((ρ[i]?).bind Slot.con).bind fun d => getAt d p
def setP (ρ : Env) (i : Nat) (p : List Stp) (e : D) : Option Env := match ρ[i]? with
  | some (.ow d) => (setAt d p e).map fun d' => ρ.set i (.ow d')
  | some (.mw d) => (setAt d p e).map fun d' => ρ.set i (.mw d')
  | _ => none
/-- an operand's value now -/
def con (ρ : Env) : Opd → Option D
  | .fz d | .ow d => some d
  | .pt i p => getP ρ i p
/-- an operand handed on for good -/
def alias_ (ρ : Env) : Opd → Option (Opd × Env)
  | .fz d => some (.fz d, ρ)
  | .ow d => some (.ow d, ρ)
  | .pt i [] => (match ρ[i]? with
      | some (.ow d) => some (.fz (freeze d), ρ.set i (.fz (freeze d)))
      | _ => none)
  | .pt i (st :: p) => (match getP ρ i (st :: p) with
      | some d => (setP ρ i (st :: p) (freeze d)).map fun ρ' => (.fz (freeze d), ρ')
      | none => none)
def Opd.val : Opd → D
  | .fz d | .ow d => d
  | .pt _ _ => .non
def Opd.isFz : Opd → Bool
  | .fz _ => true
  | _ => false
def opd (d : D) : Opd := if isFr d then .fz d else .ow d
/-- b: it is known to be frozen -/
def slotOf (b : Bool) (d : D) : Slot := if b || isFr d then .fz d else .ow d
/-- operands handed on for good, from the left: their values, whether all are frozen -/
def aliases (ρ : Env) : List Opd → Option (List D × Bool × Env)
  | [] => some ([], true, ρ)
  | o :: os => match alias_ ρ o with
    | none => none
    | some (o', ρ') => match aliases ρ' os with
      | none => none
      | some (ds, b, ρ'') => some (o'.val :: ds, (match o' with | .fz _ => b | _ => false), ρ'')
def cons_ (ρ : Env) : List Opd → Option (List D)
  | [] => some []
  | o :: os => match con ρ o, cons_ ρ os with
    | some d, some ds => some (d :: ds)
    | _, _ => none

/-! ### operations on values -/
def line : Nat := 16777216
mutual
/-- == may be asked: data of at most n layers, no dicts, no objects -/
def lay : Nat → D → Bool
  | _, .non | _, .bl _ | _, .int _ => true
  | _, .str x => x.all fun c => decide (c < 1114112)
  | n + 1, .tup xs => layL n xs
  | n + 1, .lst _ xs => layL n xs
  | _, _ => false
def layL : Nat → List D → Bool
  | _, [] => true
  | n, x :: t => lay n x && layL n t
end
mutual
def eqD : D → D → Bool
  | .non, .non => true
  | .bl a, .bl b => a == b
  | .bl a, .int j => (if a then 1 else 0) == j
  | .int i, .bl b => i == (if b then 1 else 0)
  | .int i, .int j => i == j
  | .str x, .str y => x == y
  | .tup xs, .tup ys => eqL xs ys
  | .lst _ xs, .lst _ ys => eqL xs ys
  | _, _ => false
def eqL : List D → List D → Bool
  | [], [] => true
  | x :: xs, y :: ys => eqD x y && eqL xs ys
  | _, _ => false
end
def flat : D → Bool
  | .non | .bl _ | .int _ | .str _ => true
  | _ => false
def eqOk (a b : D) : Bool := (flat a && flat b) || (lay 60 a && lay 60 b)
/-! ### dicts: keys are ints and texts, or tuples of ints, texts, None, of such tuples -/
mutual
def tkey : Nat → D → Bool
  | _, .non | _, .bl _ | _, .int _ | _, .str _ => true
  | n + 1, .tup xs => tkeyL n xs
  | _, _ => false
def tkeyL : Nat → List D → Bool
  | _, [] => true
  | n, x :: t => tkey n x && tkeyL n t
end
/-- 0: an int or a text; 1: a tuple -/
def kcl : D → Option Bool
  | .int _ | .str _ => some false
  | .tup xs => if tkeyL 7 xs then some true else none
  | _ => none
/-- the keys are of the class c -/
def kall (c : Bool) (kvs : List (D × D)) : Bool := kvs.all fun p => kcl p.1 == some c
def lookD (k : D) : List (D × D) → Option D
  | [] => none
  | (j, v) :: r => if eqD j k then some v else lookD k r
def storeD (k v : D) : List (D × D) → List (D × D)
  | [] => [(k, v)]
  | (j, u) :: r => if eqD j k then (j, v) :: r else (j, u) :: storeD k v r
/-- what the dict holds at k, k of its keys' class -/
def dGet (kvs : List (D × D)) (k : D) : Option (Option D) := match kcl k with
  | some c => if kall c kvs then some (lookD k kvs) else none
  | none => none
/-- the dict behind d[k] = v -/
def dPut (kvs : List (D × D)) (k v : D) : Option (List (D × D)) := match kcl k with
  | some c => if kall c kvs && decide (kvs.length < line) then some (storeD k v kvs) else none
  | none => none
/-- a value's truth -/
def tru : D → Option Bool
  | .non => some false
  | .bl b => some b
  | .int i => some (i != 0)
  | .str x => if x.length ≤ line then some (!x.isEmpty) else none
  | .tup xs => some (!xs.isEmpty)
  | .lst _ xs => some (!xs.isEmpty)
  | .dct _ kvs => if kall false kvs then some (!kvs.isEmpty) else none
  | .obj .. | .scr _ => none
def small (i : Int) : Bool := decide (-(2 ^ 64) < i ∧ i < 2 ^ 64)
/-- a op b -/
def bop : Operator → D → D → Option D
  | .Add, .int i, .int j => some (.int (i + j))
  | .Sub, .int i, .int j => some (.int (i - j))
  | .Mult, .int i, .int j => if small i || small j then some (.int (i * j)) else none
  | .FloorDiv, .int i, .int j => if 0 < j ∧ j < 1073741824 then some (.int (i / j)) else none
  | .Mod, .int i, .int j => if 0 < j then some (.int (i % j)) else none
  | .Pow, .int i, .int j => if 0 ≤ j ∧ j ≤ 1000 ∧ small i then some (.int (i ^ j.toNat)) else none
  | .Add, .str x, .str y => if x.length + y.length ≤ line then some (.str (x ++ y)) else none
  | .Mult, .str x, .int k => if x.length * k.toNat ≤ line ∧ k < 1000000 ∧ -1000000 < k then some (.str (List.replicate k.toNat x).flatten) else none
  | .Mult, .tup xs, .int k => if xs ≠ [] ∧ 2 ≤ k ∧ k ≤ 1000 ∧ xs.length ≤ 1000 then some (.tup (List.replicate k.toNat xs).flatten) else none
  | .Add, .tup xs, .tup ys => if xs.length + ys.length ≤ line then some (.tup (xs ++ ys)) else none
  | .Add, .lst _ xs, .lst _ ys => if xs.length + ys.length ≤ line then some (.lst true (xs ++ ys)) else none
  | _, _, _ => none
/-- += -/
def addV : D → D → Option D
  | .int i, .int j => some (.int (i + j))
  | .str x, .str y => if x.length + y.length ≤ line then some (.str (x ++ y)) else none
  | _, _ => none
def ixN (n : Nat) (i : Int) : Option Nat := if 0 ≤ i then (if i < n then some i.toNat else none) else if -(n : Int) ≤ i then some (i + n).toNat else none
def sIx (n d : Nat) : Option Int → Nat
  | none => d
  | some v => if v < 0 then (v + (n : Int)).toNat else min v.toNat n
def cut {α : Type} (xs : List α) (lo hi : Option Int) : List α := (xs.drop (sIx xs.length 0 lo)).take (sIx xs.length xs.length hi - sIx xs.length 0 lo)
/-- the place of a[i] within a -/
def ixStp : D → D → Option Stp
  | .lst _ xs, .int i => (ixN xs.length i).map Stp.ix
  | _, _ => none
def ixVal : D → D → Option D
  | .lst _ xs, .int i => (ixN xs.length i).bind fun j => xs[j]?
  | .tup xs, .int i => (ixN xs.length i).bind fun j => xs[j]?
  | .str x, .int i => if x.length ≤ line then ((ixN x.length i).bind fun j => x[j]?).map fun c => .str [c] else none
  | .dct _ kvs, k => (dGet kvs k).bind id
  | _, _ => none
def slice : D → Option Int → Option Int → Option D
  | .str x, lo, hi => if x.length ≤ line then some (.str (cut x lo hi)) else none
  | .lst _ xs, lo, hi => some (.lst true (cut xs lo hi))
  | .tup xs, lo, hi => some (.tup (cut xs lo hi))
  | .scr ns, lo, hi => some (.lst true ((cut ns lo hi).map .int))
  | _, _, _ => none
def isPre : Sg → Sg → Bool
  | [], _ => true
  | _, [] => false
  | x :: s, y :: t => x == y && isPre s t
def inL (x : D) : List D → Bool
  | [] => false
  | y :: t => eqD y x || inL x t
/-- x in y -/
def isIn : D → D → Option Bool
  | x, .dct _ kvs => (dGet kvs x).map Option.isSome
  | .str [c], .str z => some (decide (c ∈ z))
  | x, .lst _ xs => if flat x ∧ xs.all flat then some (inL x xs) else none
  | x, .tup xs => if flat x ∧ xs.all flat then some (inL x xs) else none
  | _, _ => none
def cmpV : Cop → D → D → Option Bool
  | .eq, a, b => if eqOk a b then some (eqD a b) else none
  | .ne, a, b => if eqOk a b then some (!eqD a b) else none
  | .lt, .int i, .int j => some (decide (i < j))
  | .le, .int i, .int j => some (decide (i ≤ j))
  | .gt, .int i, .int j => some (decide (j < i))
  | .ge, .int i, .int j => some (decide (j ≤ i))
  | .is, a, .non => some (match a with | .non => true | _ => false)
  | .isnot, a, .non => some (match a with | .non => false | _ => true)
  | .is, .bl a, .bl b => some (a == b)
  | .isnot, .bl a, .bl b => some (!(a == b))
  | .isin, a, b => isIn a b
  | .notin, a, b => (isIn a b).map (!·)
  | _, _, _ => none
/-- isinstance(x, T), T a built-in class -/
def isInst (d : D) (t : Str) : Option Bool :=
  if (match d with | .scr _ | .obj .. | .dct _ (_ :: _) => true | _ => false) then none
  else if t = "int" then some (match d with | .int _ | .bl _ => true | _ => false)
  else if t = "bool" then some (match d with | .bl _ => true | _ => false)
  else if t = "str" then some (match d with | .str _ => true | _ => false)
  else if t = "tuple" then some (match d with | .tup _ => true | _ => false)
  else if t = "list" then some (match d with | .lst .. => true | _ => false)
  else if t = "dict" then some (match d with | .dct .. => true | _ => false)
  else none
def intsOf : List D → Option (List Int)
  | [] => some []
  | .int i :: t => (intsOf t).map (i :: ·)
  | _ :: _ => none
def strsOf : List D → Option (List Sg)
  | [] => some []
  | .str i :: t => (strsOf t).map (i :: ·)
  | _ :: _ => none
def blsOf : List D → Option (List Bool)
  | [] => some []
  | .bl i :: t => (blsOf t).map (i :: ·)
  | _ :: _ => none
def lenV : D → Option Int
  | .str x => if x.length ≤ line then some x.length else none
  | .tup xs => some xs.length
  | .lst _ xs => some xs.length
  | _ => none
def maxI : List Int → Int
  | [] => 0
  | [a] => a
  | a :: b :: r => if a ≤ maxI (b :: r) then maxI (b :: r) else a
def minI : List Int → Int
  | [] => 0
  | [a] => a
  | a :: b :: r => if minI (b :: r) ≤ a then minI (b :: r) else a
def insI (a : Int) : List Int → List Int
  | [] => [a]
  | b :: r => if a ≤ b then a :: b :: r else b :: insI a r
def sortI : List Int → List Int
  | [] => []
  | a :: r => insI a (sortI r)
def biV2 (f : Str) (ds : List D) : Option D :=
  if f = "max" then (match ds with
    | [.lst _ xs] => (intsOf xs).bind fun ns => if ns.isEmpty then none else some (.int (maxI ns))
    | [.int i, .int j] => some (.int (if j > i then j else i))
    | _ => none)
  else if f = "min" then (match ds with
    | [.lst _ xs] => (intsOf xs).bind fun ns => if ns.isEmpty then none else some (.int (minI ns))
    | [.int i, .int j] => some (.int (if j < i then j else i))
    | _ => none)
  else if f = "sorted" then (match ds with
    | [.lst _ xs] => (intsOf xs).map fun ns => .lst true ((sortI ns).map .int)
    | _ => none)
  else none
/-- a built-in function of values -/
def biV (f : Str) (ds : List D) : Option D :=
  if f = "len" then (match ds with
    | [d] => (lenV d).map .int
    | _ => none)
  else if f = "abs" then (match ds with
    | [.int i] => some (.int (if i < 0 then -i else i))
    | _ => none)
  else if f = "int" then (match ds with
    | [.int i] => some (.int i)
    | [.bl b] => some (.int (if b then 1 else 0))
    | _ => none)
  else if f = "sum" then (match ds with
    | [.lst _ xs] => (intsOf xs).map fun ns => .int ns.sum
    | _ => none)
  else if f = "all" then (match ds with
    | [.lst _ xs] => (blsOf xs).map fun bs => .bl (bs.all id)
    | _ => none)
  else if f = "any" then (match ds with
    | [.lst _ xs] => (blsOf xs).map fun bs => .bl (bs.any id)
    | _ => none)
  else if f = "tuple" then (match ds with
    | [.lst _ xs] => some (.tup xs)
    | [.tup xs] => some (.tup xs)
    | _ => none)
  else if f = "list" then (match ds with
    | [.lst _ xs] => some (.lst true xs)
    | [.tup xs] => some (.lst true xs)
    | _ => none)
  else biV2 f ds
def joinS (S : Sg) : List Sg → Sg
  | [] => []
  | [p] => p
  | p :: q :: r => p ++ (S ++ joinS S (q :: r))
/-- where a sign stands in a text without a sign twice -/
def findS (a : Sg) (c : Nat) : Option Int := if c ∈ a then (if a.Nodup then some ((a.idxOf c : Nat) : Int) else none) else some (-1)
/-- a method that changes nothing -/
def mthV (m : Str) (d : D) (ds : List D) : Option D :=
  if m = "join" then (match d, ds with
    | .str a, [.lst _ xs] => (strsOf xs).bind fun ys => if (ys.map List.length).sum + ys.length * a.length ≤ line then some (.str (joinS a ys)) else none
    | .str a, [.tup xs] => (strsOf xs).bind fun ys => if (ys.map List.length).sum + ys.length * a.length ≤ line then some (.str (joinS a ys)) else none
    | _, _ => none)
  else if m = "find" then (match d, ds with
    | .str a, [.str [c]] => (findS a c).map .int
    | _, _ => none)
  else none
/-- a method that changes its receiver: the result, the receiver behind it -/
def mutV (m : Str) (d : D) (ds : List D) : Option (D × D) :=
  if m = "append" then (match d, ds with
    | .lst true xs, [x] => if xs.length < line then some (.non, .lst true (xs ++ [x])) else none
    | _, _ => none)
  else if m = "pop" then (match d, ds with
    | .lst true xs, [] => (xs[xs.length - 1]?).map fun y => (y, .lst true xs.dropLast)
    | .lst true xs, [.int i] => if -(2 ^ 63) ≤ i ∧ i < 2 ^ 63 then (ixN xs.length i).bind fun k => (xs[k]?).map fun y => (y, .lst true (xs.eraseIdx k)) else none
    | _, _ => none)
  else if m = "extend" then (match d, ds with
    | .lst true xs, [.lst _ ys] => if xs.length + ys.length ≤ line then some (.non, .lst true (xs ++ ys)) else none
    | _, _ => none)
  else none
def isMut (m : Str) : Bool := m = "append" || (m = "pop" || m = "extend")
/-- the receiver's type is right -/
def tyOk (m : Str) (d : D) : Bool := if isMut m then (match d with | .lst true _ => true | _ => false) else (match d with | .str _ => true | _ => false)
def items : D → Option (List D)
  | .lst _ xs => some xs
  | .tup xs => some xs
  | .str x => some (x.map fun c => .str [c])
  | _ => none
def isStr : D → Bool
  | .str _ => true
  | _ => false
def rangeD (lo hi : Int) : List D := (List.range (hi - lo).toNat).map fun (k : Nat) => .int (lo + (k : Int))
def rOk (i : Int) : Bool := decide (-(2 ^ 62) ≤ i ∧ i < 2 ^ 62)

/-! ### targets -/
mutual
def asgT : Tg → Bool → D → Env → Option Env
  | .nm i, b, d, ρ => match ρ[i]? with
    | some s => if s.pin then none else some (ρ.set i (slotOf b d))
    | none => none
  | .tp ts, b, .tup xs, ρ => asgTs ts b xs ρ
  | .tp _, _, _, _ => none
def asgTs : List Tg → Bool → List D → Env → Option Env
  | [], _, [], ρ => some ρ
  | t :: ts, b, x :: xs, ρ => match asgT t b x ρ with
    | some ρ' => asgTs ts b xs ρ'
    | none => none
  | _, _, _, _ => none
end
/-- its parts are frozen -/
def sub1 : D → Bool
  | .tup xs | .lst _ xs => isFrL xs
  | .dct _ kvs => isFrP kvs
  | .obj _ _ fs => isFrF fs
  | _ => true
/-- operands whose parts may be shared -/
def shr (o : Opd) (d : D) : Bool := o.isFz || sub1 d
def shrs : List Opd → List D → Bool
  | o :: os, d :: ds => shr o d && shrs os ds
  | _, _ => true

/-! ### calls -/
/-- what is handed over for good is let go of, from the left -/
def alPass (ρ : Env) : List Mode → List Opd → Option (List Opd × Env)
  | [], [] => some ([], ρ)
  | .al :: ms, o :: os => match alias_ ρ o with
    | some (o', ρ') => (alPass ρ' ms os).map fun (os', ρ'') => (o' :: os', ρ'')
    | none => none
  | _ :: ms, o :: os => (alPass ρ ms os).map fun (os', ρ'') => (o :: os', ρ'')
  | _, _ => none
/-- the arguments' data -/
def argD (ρ : Env) : Mode → Opd → Option D
  | _, .pt i p => getP ρ i p
  | .mu, _ => none
  | _, .fz d => some d
  | _, .ow d => some (freeze d)
def argV (ρ : Env) : List Mode → List Opd → Option (List D)
  | [], [] => some []
  | m :: ms, o :: os => match argD ρ m o, argV ρ ms os with
    | some d, some ds => some (d :: ds)
    | _, _ => none
  | _, _ => none
/-- the places of the arguments that may be changed -/
def muPl : List Mode → List Opd → List (Nat × List Stp)
  | .mu :: ms, .pt i p :: os => (i, p) :: muPl ms os
  | _ :: ms, _ :: os => muPl ms os
  | _, _ => []
def bwRoots : List Mode → List Opd → List Nat
  | .bw :: ms, .pt i _ :: os => i :: bwRoots ms os
  | _ :: ms, _ :: os => bwRoots ms os
  | _, _ => []
structure Fn where
  /-- the names that no class of the program has, so that they may be fields -/
  flds : String → String → Bool
  modes : Str → Option (List Mode)
  run : Str → List D → FRes

/-- the call, behind its arguments -/
def callR (ρ : Env) (ms : List Mode) (os : List Opd) (m : List D → FRes) : Rr Opd := match argV ρ ms os with
  | none => .stuck
  | some ds => match muPl ms os with
    | [] => (match m ds with
      | .rt d [] => .ok (opd d) ρ
      | .exc x [] => .exc x ρ
      | _ => .stuck)
    | [(i, p)] => if (bwRoots ms os).contains i then .stuck else (match m ds with
      | .rt d [e] => (match setP ρ i p e with
        | some ρ' => .ok (opd d) ρ'
        | none => .stuck)
      | .exc x [e] => (match setP ρ i p e with
        | some ρ' => .exc x ρ'
        | none => .stuck)
      | _ => .stuck)
    | _ => .stuck
def isPt : Opd → Option Nat
  | .pt i _ => some i
  | _ => none
/-- while its list is walked a variable can only be read -/
def lock (ρ : Env) : Option Nat → Env
  | none => ρ
  | some i => match ρ[i]? with
    | some (.ow d) => ρ.set i (.bw d)
    | some (.mw d) => ρ.set i (.bw d)
    | _ => ρ
def unlock (ρ₀ : Env) (k : Option Nat) (ρ : Env) : Option Env := match k with
  | none => some ρ
  | some i => match ρ₀[i]? with
    | some (.ow d) => some (ρ.set i (.ow d))
    | some (.mw d) => some (ρ.set i (.mw d))
    | _ => some ρ
def wipeE (ρ : Env) : List Nat → Env
  | [] => ρ
  | v :: vs => (wipeE ρ vs).set v .un
/-- the slots vs as they were in ρ₀ (none of them owned) -/
def backE (ρ₀ ρ : Env) : List Nat → Option Env
  | [] => some ρ
  | v :: vs => match ρ₀[v]? with
    | some .un => (backE ρ₀ ρ vs).map fun ρ' => ρ'.set v .un
    | some (.fz d) => (backE ρ₀ ρ vs).map fun ρ' => ρ'.set v (.fz d)
    | _ => none
def ofOpt {α : Type} (ρ : Env) : Option α → Rr α
  | some a => .ok a ρ
  | none => .stuck

/-- a value's truth -/
def tst (r : Rr Opd) : Rr Bool := r.bind fun x ρ => ofOpt ρ ((con ρ x).bind tru)
/-- a list comprehension's turn -/
def lcT (t : Tg) (bz : Bool) (fc : Env → Rr Bool) (fe : Env → Rr Opd) (x : D) (ρ : Env) : Rr (Option D) := match asgT t bz x ρ with
  | none => .stuck
  | some ρ' => (fc ρ').bind fun b ρ2 => if b then (fe ρ2).bind fun o ρ3 => (match alias_ ρ3 o with
    | some (o', ρ4) => .ok (some o'.val) ρ4
    | none => .stuck) else .ok none ρ2
/-- a list comprehension's turns -/
def lcL (f : D → Env → Rr (Option D)) (own : List Nat) : List D → List D → Env → Rr (List D)
  | [], acc, ρ => .ok acc ρ
  | x :: xs, acc, ρ => (f x (wipeE ρ own)).bind fun o ρ' => match o with
    | some y => if acc.length < line then lcL f own xs (acc ++ [y]) ρ' else .stuck
    | none => lcL f own xs acc ρ'
/-- nothing has to be locked -/
def free1 (ρ : Env) : Option Nat → Bool
  | none => true
  | some i => match ρ[i]? with
    | some (.ow _) | some (.mw _) => false
    | _ => true
/-- a turn of the first clause -/
def lc2T (t : Tg) (bz : Bool) (fc : Env → Rr Bool) (fi : Env → Rr (List D × Bool × Option Nat)) (f1 : Bool → D → Env → Rr (Option D)) (own1 : List Nat) (x : D) (acc : List D) (ρ : Env) : Rr (List D) := match asgT t bz x ρ with
  | none => .stuck
  | some ρ' => (fc ρ').bind fun b ρ2 => if b then (fi ρ2).bind fun y ρ3 => (if free1 ρ3 y.2.2 then lcL (f1 y.2.1) own1 y.1 acc ρ3 else .stuck) else .ok acc ρ2
def lc2L (f : D → List D → Env → Rr (List D)) (own : List Nat) : List D → List D → Env → Rr (List D)
  | [], acc, ρ => .ok acc ρ
  | x :: xs, acc, ρ => (f x acc (wipeE ρ own)).bind fun acc' ρ' => lc2L f own xs acc' ρ'
/-- a dict comprehension's turn -/
def dcT (t : Tg) (bz : Bool) (fc : Env → Rr Bool) (fk fv : Env → Rr Opd) (x : D) (ρ : Env) : Rr (Option (D × D)) := match asgT t bz x ρ with
  | none => .stuck
  | some ρ' => (fc ρ').bind fun b ρ2 => if b then (fk ρ2).bind fun o ρ3 => (match o with
    | .fz k => (fv ρ3).bind fun u ρ4 => (match alias_ ρ4 u with
      | some (u', ρ5) => .ok (some (k, freeze u'.val)) ρ5
      | none => .stuck)
    | _ => .stuck) else .ok none ρ2
def dcL (f : D → Env → Rr (Option (D × D))) (own : List Nat) : List D → List (D × D) → Env → Rr (List (D × D))
  | [], acc, ρ => .ok acc ρ
  | x :: xs, acc, ρ => (f x (wipeE ρ own)).bind fun o ρ' => match o with
    | some kv => (match dPut acc kv.1 kv.2 with
      | some acc' => dcL f own xs acc' ρ'
      | none => .stuck)
    | none => dcL f own xs acc ρ'
/-- what enumerate gives -/
def enumF : Nat → List D → List D
  | _, [] => []
  | n, x :: t => .tup [.int (n : Int), x] :: enumF (n + 1) t

mutual
def evE (F : Fn) : Ex → Env → Rr Opd
  | .var i, ρ => match ρ[i]? with
    | some (.fz d) => .ok (.fz d) ρ
    | some (.ow _) => .ok (.pt i []) ρ
    | some (.bw _) => .ok (.pt i []) ρ
    | some (.mw _) => .ok (.pt i []) ρ
    | _ => .stuck
  | .mv i, ρ => match ρ[i]? with
    | some (.fz d) => .ok (.fz d) ρ
    | some (.ow d) => .ok (.ow d) (ρ.set i .un)
    | _ => .stuck
  | .lit d, ρ => .ok (.fz d) ρ
  | .dct0, ρ => .ok (.fz (.dct false [])) ρ
  | .dctN, ρ => .ok (.ow (.dct true [])) ρ
  | .bop op a b, ρ => (evE F a ρ).bind fun x ρ1 => (evE F b ρ1).bind fun y ρ2 =>
    match con ρ2 x, con ρ2 y with
    | some d, some e => if okPt x b && (shr x d && shr y e) then ofOpt ρ2 ((bop op d e).map opd) else .stuck
    | _, _ => .stuck
  | .neg a, ρ => (evE F a ρ).bind fun x ρ1 => match x with
    | .fz (.int i) => .ok (.fz (.int (-i))) ρ1
    | _ => .stuck
  | .cmp op a b, ρ => (evE F a ρ).bind fun x ρ1 => (evE F b ρ1).bind fun y ρ2 =>
    match con ρ2 x, con ρ2 y with
    | some d, some e => if okPt x b then ofOpt ρ2 ((cmpV op d e).map fun c => .fz (.bl c)) else .stuck
    | _, _ => .stuck
  | .cmp2 op op' a b c, ρ => (evE F a ρ).bind fun x ρ1 => (evE F b ρ1).bind fun y ρ2 =>
    match con ρ2 x, con ρ2 y with
    | some d, some e => if okPt x b && okPt y c then (match cmpV op d e with
      | some true => (evE F c ρ2).bind fun z ρ3 => (match con ρ3 y, con ρ3 z with
        | some e', some g => ofOpt ρ3 ((cmpV op' e' g).map fun k => .fz (.bl k))
        | _, _ => .stuck)
      | some false => .ok (.fz (.bl false)) ρ2
      | none => .stuck) else .stuck
    | _, _ => .stuck
  | .band a b, ρ => (evE F a ρ).bind fun x ρ1 => match (con ρ1 x).bind tru with
    | some true => evE F b ρ1
    | some false => .ok x ρ1
    | none => .stuck
  | .bor a b, ρ => (evE F a ρ).bind fun x ρ1 => match (con ρ1 x).bind tru with
    | some true => .ok x ρ1
    | some false => evE F b ρ1
    | none => .stuck
  | .bnot a, ρ => (evE F a ρ).bind fun x ρ1 => match (con ρ1 x).bind tru with
    | some c => .ok (.fz (.bl (!c))) ρ1
    | none => .stuck
  | .ife c a b, ρ => (tst (evE F c ρ)).bind fun t ρ1 => if t then evE F a ρ1 else evE F b ρ1
  | .tup es, ρ => (evEs F es ρ).bind fun os ρ1 => match if okPts os es then aliases ρ1 os else none with
    | some (ds, b, ρ2) => if ds.length ≤ line then .ok (if b then .fz (.tup ds) else .ow (.tup ds)) ρ2 else .stuck
    | none => .stuck
  | .lst es, ρ => (evEs F es ρ).bind fun os ρ1 => match if okPts os es then aliases ρ1 os else none with
    | some (ds, _, ρ2) => if ds.length ≤ line then .ok (.ow (.lst true ds)) ρ2 else .stuck
    | none => .stuck
  | .sub a i, ρ => (evE F a ρ).bind fun x ρ1 => (evE F i ρ1).bind fun y ρ2 =>
    match con ρ2 x, con ρ2 y with
    | some d, some k => if okPt x i then (match ixVal d k with
      | some e => (match x with
        | .fz _ => .ok (.fz e) ρ2
        | .ow _ => if isFr e then .ok (.fz e) ρ2 else .stuck
        | .pt j p => if isFr e then .ok (.fz e) ρ2 else (match ixStp d k with
          | some st => .ok (.pt j (p ++ [st])) ρ2
          | none => .stuck))
      | none => .stuck) else .stuck
    | _, _ => .stuck
  | .slc a lo hi, ρ => (evE F a ρ).bind fun x ρ1 => (evO F lo ρ1).bind fun l ρ2 => (evO F hi ρ2).bind fun h ρ3 =>
    match con ρ3 x with
    | some d => if okPtO x lo && (okPtO x hi && shr x d) then ofOpt ρ3 ((slice d l h).map opd) else .stuck
    | none => .stuck
  | .call f es, ρ => (evEs F es ρ).bind fun os ρ1 => match F.modes f with
    | none => .stuck
    | some ms => match if okPts os es then alPass ρ1 ms os else none with
      | none => .stuck
      | some (os', ρ2) => callR ρ2 ms os' (F.run f)
  | .fld a f, ρ => (evE F a ρ).bind fun x ρ1 => match con ρ1 x with
    | some (.obj _ c fs) => if F.flds c f then (match fs.lookup f with
      | some e => (match x with
        | .fz _ => .ok (.fz e) ρ1
        | .ow _ => if isFr e then .ok (.fz e) ρ1 else .stuck
        | .pt j p => if isFr e then .ok (.fz e) ρ1 else .ok (.pt j (p ++ [.fld f])) ρ1)
      | none => .stuck) else .stuck
    | _ => .stuck
  | .dget a i, ρ => (evE F a ρ).bind fun x ρ1 => match con ρ1 x with
    | some (.dct _ _) => (evE F i ρ1).bind fun y ρ2 => (match con ρ2 x, con ρ2 y with
      | some (.dct _ kvs), some k => if okPt x i then (match dGet kvs k with
        | some r => .ok (.fz (r.getD .non)) ρ2
        | none => .stuck) else .stuck
      | _, _ => .stuck)
    | _ => .stuck
  | .mk c g es, ρ => (evEs F es ρ).bind fun os ρ1 => match F.modes g with
    | some (.mu :: ms) => (match if okPts os es then alPass ρ1 ms os else none with
      | none => .stuck
      | some (os', ρ2) => ((callR (ρ2 ++ [.ow (.obj true c [])]) (.mu :: ms) (.pt ρ2.length [] :: os') (F.run g)).bind fun o ρ3 => match o, ρ3[ρ2.length]? with
        | .fz .non, some (.ow e) => .ok (opd e) (ρ3.take ρ2.length)
        | _, _ => .stuck).cutX ρ2.length)
    | _ => .stuck
  | .mcall m gs a es, ρ => (evE F a ρ).bind fun x ρ1 => match con ρ1 x with
    | some (.obj _ c fs) => (match gs.lookup c, fs.lookup m with
      | some g, none => (match F.modes g with
        | none => .stuck
        | some ms => (evEs F es ρ1).bind fun os ρ2 => match if okPts (x :: os) (a :: es) then alPass ρ2 ms (x :: os) else none with
          | none => .stuck
          | some (os', ρ3) => callR ρ3 ms os' (F.run g))
      | _, _ => .stuck)
    | _ => .stuck
  | .bi f es, ρ => (evEs F es ρ).bind fun os ρ1 => match cons_ ρ1 os with
    | some ds => if okPts os es then (match biV f ds with
      | some r => if flat r || shrs os ds then .ok (opd r) ρ1 else .stuck
      | none => .stuck) else .stuck
    | none => .stuck
  | .isi a t, ρ => (evE F a ρ).bind fun x ρ1 => match con ρ1 x with
    | some d => ofOpt ρ1 ((isInst d t).map fun b => .fz (.bl b))
    | none => .stuck
  | .mth m o es, ρ => (evE F o ρ).bind fun x ρ1 => if ((con ρ1 x).map (tyOk m)).getD false then (evEs F es ρ1).bind fun os ρ2 =>
    if okPt x (.tup es) && okPts os es then (if isMut m then (match x with
      | .pt i p => (match aliases ρ2 os with
        | some (ds, _, ρ3) => (match getP ρ3 i p with
          | some d => (match mutV m d ds with
            | some (r, d') => (match setP ρ3 i p d' with
              | some ρ4 => .ok (opd r) ρ4
              | none => .stuck)
            | none => .stuck)
          | none => .stuck)
        | none => .stuck)
      | _ => .stuck)
    else (match con ρ2 x, cons_ ρ2 os with
      | some d, some ds => (match mthV m d ds with
        | some r => if flat r || (shr x d && shrs os ds) then .ok (opd r) ρ2 else .stuck
        | none => .stuck)
      | _, _ => .stuck)) else .stuck
    else .stuck
  | .lc own t it c e, ρ => (evI F it ρ).bind fun (xs, bz, k) ρ1 =>
    (lcL (lcT t bz (fun ρ => evC F c ρ) fun ρ => evE F e ρ) own xs [] (lock ρ1 k)).calm.bind fun ys ρ2 =>
    match (backE ρ1 ρ2 own).bind (unlock ρ1 k) with
    | some ρ3 => .ok (.ow (.lst true ys)) ρ3
    | none => .stuck
  | .lc2 own t it c own1 t1 it1 c1 e, ρ => if own1.all (own.contains ·) then (evI F it ρ).bind fun (xs, bz, k) ρ1 =>
    (lc2L (lc2T t bz (fun ρ => evC F c ρ) (fun ρ => evI F it1 ρ) (fun bz1 => lcT t1 bz1 (fun ρ => evC F c1 ρ) fun ρ => evE F e ρ) own1) own xs [] (lock ρ1 k)).calm.bind fun ys ρ2 =>
    (match (backE ρ1 ρ2 own).bind (unlock ρ1 k) with
    | some ρ3 => .ok (.ow (.lst true ys)) ρ3
    | none => .stuck) else .stuck
  | .dc own t it c ek ev, ρ => (evI F it ρ).bind fun (xs, bz, k) ρ1 =>
    (dcL (dcT t bz (fun ρ => evC F c ρ) (fun ρ => evE F ek ρ) fun ρ => evE F ev ρ) own xs [] (lock ρ1 k)).calm.bind fun ys ρ2 =>
    match (backE ρ1 ρ2 own).bind (unlock ρ1 k) with
    | some ρ3 => .ok (.ow (.dct true ys)) ρ3
    | none => .stuck
def evEs (F : Fn) : List Ex → Env → Rr (List Opd)
  | [], ρ => .ok [] ρ
  | e :: es, ρ => (evE F e ρ).bind fun o ρ1 => (evEs F es ρ1).bind fun os ρ2 => .ok (o :: os) ρ2
def evC (F : Fn) : Option Ex → Env → Rr Bool
  | none, ρ => .ok true ρ
  | some c, ρ => tst (evE F c ρ)
def evO (F : Fn) : Option Ex → Env → Rr (Option Int)
  | none, ρ => .ok none ρ
  | some e, ρ => (evE F e ρ).bind fun o ρ1 => match o with
    | .fz (.int i) => .ok (some i) ρ1
    | _ => .stuck
/-- what is walked, and the variable that is locked meanwhile -/
def evI (F : Fn) : It → Env → Rr (List D × Bool × Option Nat)
  | .seq e, ρ => (evE F e ρ).bind fun o ρ1 => match con ρ1 o with
    | some d => (match items d with
      | some xs => if shr o d then .ok (xs, o.isFz || isStr d, isPt o) ρ1 else .stuck
      | none => .stuck)
    | none => .stuck
  | .rng a, ρ => (evE F a ρ).bind fun o ρ1 => match o with
    | .fz (.int n) => if rOk n then .ok (rangeD 0 n, true, none) ρ1 else .stuck
    | _ => .stuck
  | .rng2 a b, ρ => (evE F a ρ).bind fun o ρ1 => (evE F b ρ1).bind fun u ρ2 => match o, u with
    | .fz (.int m), .fz (.int n) => if rOk m && rOk n then .ok (rangeD m n, true, none) ρ2 else .stuck
    | _, _ => .stuck
  | .enm e, ρ => (evE F e ρ).bind fun o ρ1 => match con ρ1 o with
    | some (.lst b xs) => if shr o (.lst b xs) then .ok (enumF 0 xs, o.isFz, isPt o) ρ1 else .stuck
    | _ => .stuck
end

/-! ### statements -/
/-- a name that is let go of -/
def Slot.kl : Slot → Slot
  | .bw d => .bw d
  | .mw d => .mw d
  | _ => .un
def killE : List Bool → Env → Env
  | b :: ks, s :: ρ => (match b with
    | true => s.kl
    | false => s) :: killE ks ρ
  | _, ρ => ρ
/-- a turn's end -/
def Out.mp (o : Out) (ks : List Bool) : Out := match o with
  | .nx ρ => .nx (killE ks ρ)
  | .ct ρ => .ct (killE ks ρ)
  | .bk ρ => .bk (killE ks ρ)
  | o => o
def Out.then (o : Out) (f : Env → Out) : Out := match o with
  | .nx ρ => f ρ
  | o => o
def Rr.out {α : Type} (r : Rr α) (f : α → Env → Out) : Out := match r with
  | .ok a ρ => f a ρ
  | .exc x ρ => .exc x ρ
  | .stuck => .stuck
/-- a for's turns -/
def forL (f : D → Env → Out) : List D → Env → Out
  | [], ρ => .nx ρ
  | x :: xs, ρ => match f x ρ with
    | .nx ρ' => forL f xs ρ'
    | .ct ρ' => forL f xs ρ'
    | .bk ρ' => .nx ρ'
    | o => o
/-- a while's turns, n at most -/
def whlL (c : Env → Rr Bool) (f : Env → Out) : Nat → Env → Out
  | 0, _ => .stuck
  | n + 1, ρ => (c ρ).out fun b ρ1 => if b then (match f ρ1 with
      | .nx ρ' => whlL c f n ρ'
      | .ct ρ' => whlL c f n ρ'
      | .bk ρ' => .nx ρ'
      | o => o) else .nx ρ1
def unlockO (ρ₀ : Env) (k : Option Nat) : Out → Out
  | .nx ρ => (match unlock ρ₀ k ρ with | some ρ' => .nx ρ' | none => .stuck)
  | .rt d ρ => (match unlock ρ₀ k ρ with | some ρ' => .rt d ρ' | none => .stuck)
  | .bk ρ => (match unlock ρ₀ k ρ with | some ρ' => .bk ρ' | none => .stuck)
  | .ct ρ => (match unlock ρ₀ k ρ with | some ρ' => .ct ρ' | none => .stuck)
  | .exc x ρ => (match unlock ρ₀ k ρ with | some ρ' => .exc x ρ' | none => .stuck)
  | .stuck => .stuck
/-- the first clause whose class fits -/
def pick (sub : Str → Str → Option Bool) (c : Str) : List (Str × Nat × D) → Option (Option (Nat × D))
  | [] => some none
  | (k, i, d) :: hs => match sub c k with
    | some true => some (some (i, d))
    | some false => pick sub c hs
    | none => none

mutual
/-- sub: which error class derives from which; N: turns of a while at most -/
def evS (F : Fn) (sub : Str → Str → Option Bool) (N : Nat) : St → Env → Out
  | .asg t e, ρ => (evE F e ρ).out fun o ρ1 => match alias_ ρ1 o with
    | some (o', ρ2) => (match asgT t o'.isFz o'.val ρ2 with | some ρ3 => .nx ρ3 | none => .stuck)
    | none => .stuck
  | .sub a i e, ρ => (evE F e ρ).out fun o ρ1 => match alias_ ρ1 o with
    | some (o', ρ2) => (evE F a ρ2).out fun x ρ3 => (evE F i ρ3).out fun y ρ4 => (match x, con ρ4 x, con ρ4 y with
      | .pt j p, some (.dct true kvs), some k => if okPt x i && y.isFz then (match dPut kvs k (freeze o'.val) with
        | some kvs' => (match setP ρ4 j p (.dct true kvs') with
          | some ρ5 => .nx ρ5
          | none => .stuck)
        | none => .stuck) else .stuck
      | .pt j p, some d, some k => if okPt x i then (match ixStp d k with
        | some st => (match setP ρ4 j (p ++ [st]) o'.val with
          | some ρ5 => .nx ρ5
          | none => .stuck)
        | none => .stuck) else .stuck
      | _, _, _ => .stuck)
    | none => .stuck
  | .sfld a f e, ρ => (evE F e ρ).out fun o ρ1 => match alias_ ρ1 o with
    | some (o', ρ2) => (evE F a ρ2).out fun x ρ3 => (match x, con ρ3 x with
      | .pt j p, some (.obj true c fs) => if F.flds c f && decide (fs.length < 1000) then (match setP ρ3 j p (.obj true c (putF f o'.val fs)) with
        | some ρ4 => .nx ρ4
        | none => .stuck) else .stuck
      | _, _ => .stuck)
    | none => .stuck
  | .aug i e, ρ => (match ρ[i]? with
    | some (.fz d) => (evE F e ρ).out fun o ρ1 => (match o with
      | .fz w => (match addV d w with
        | some z => (match asgT (.nm i) true z ρ1 with
          | some ρ2 => .nx ρ2
          | none => .stuck)
        | none => .stuck)
      | _ => .stuck)
    | _ => .stuck)
  | .dead, _ => .stuck
  | .ret e, ρ => (evE F e ρ).out fun o ρ1 => match alias_ ρ1 o with
    | some (o', ρ2) => .rt o'.val ρ2
    | none => .stuck
  | .retN, ρ => .rt .non ρ
  | .ifs c a b, ρ => (tst (evE F c ρ)).out fun t ρ1 => if t then evSs F sub N a ρ1 else evSs F sub N b ρ1
  | .whl ks c b, ρ => whlL (fun ρ => tst (evE F c ρ)) (fun ρ => (evSs F sub N b ρ).mp ks) N (killE ks ρ)
  | .fr ks t it b, ρ => (evI F it ρ).out fun (xs, bz, k) ρ1 => unlockO ρ1 k (forL (fun x ρ => match asgT t bz x ρ with
      | some ρ' => (evSs F sub N b ρ').mp ks
      | none => .stuck) xs (killE ks (lock ρ1 k)))
  | .ex e, ρ => (evE F e ρ).out fun _ ρ1 => .nx ρ1
  | .rse c, ρ => .exc ⟨c, []⟩ ρ
  | .tryx b hs, ρ => match evSs F sub N b ρ with
    | .exc x ρ1 => (match pick sub x.cls hs with
      | some (some (i, d)) => (match asgT (.nm i) true d ρ1 with | some ρ2 => .nx ρ2 | none => .stuck)
      | some none => .exc x ρ1
      | none => .stuck)
    | o => o
  | .brk, ρ => .bk ρ
  | .cont, ρ => .ct ρ
  | .pass, ρ => .nx ρ
def evSs (F : Fn) (sub : Str → Str → Option Bool) (N : Nat) : List St → Env → Out
  | [], ρ => .nx ρ
  | s :: ss, ρ => (evS F sub N s ρ).then fun ρ1 => evSs F sub N ss ρ1
end

/-! ### defs, programs -/
def initE (ms : List Mode) (ns : Nat) (ds : List D) : Option Env :=
  if ds.length = ms.length ∧ ms.length ≤ ns then some ((ms.zip ds).map (fun p => match p.1 with
    | .al => .fz p.2
    | .bw => .bw p.2
    | .mu => .mw p.2) ++ List.replicate (ns - ms.length) .un) else none
/-- what the arguments that may be changed have become -/
def musOf : List Mode → Env → Option (List D)
  | [], _ => some []
  | .mu :: ms, s :: ρ => (match s with
    | .mw d => (musOf ms ρ).map (d :: ·)
    | _ => none)
  | _ :: ms, _ :: ρ => musOf ms ρ
  | _ :: _, [] => none
def finish (ms : List Mode) : Out → FRes
  | .nx ρ => (match musOf ms ρ with | some mus => .rt .non mus | none => .stuck)
  | .rt d ρ => (match musOf ms ρ with | some mus => .rt d mus | none => .stuck)
  | .exc x ρ => (match musOf ms ρ with | some mus => .exc x mus | none => .stuck)
  | _ => .stuck
def callD (F : Fn) (sub : Str → Str → Option Bool) (N : Nat) (d : Def) (ds : List D) : FRes := match initE d.modes d.ns ds with
  | some ρ => finish d.modes (evSs F sub N d.body ρ)
  | none => .stuck
abbrev Tab := Str → Option Def
/-- the whole program, calls k deep at most -/
def run (tab : Tab) (fl : String → String → Bool) (sub : Str → Str → Option Bool) (N : Nat) : Nat → Str → List D → FRes
  | 0, _, _ => .stuck
  | k + 1, f, ds => match tab f with
    | some d => callD ⟨fl, fun g => (tab g).map Def.modes, run tab fl sub N k⟩ sub N d ds
    | none => .stuck
end Rw

set_option Elab.async false
set_option linter.all false
set_option maxRecDepth 100000
/-! RwB: how data stand in the heap; the state's invariant and its steps. -/
namespace Rw
open PySem L2

/-! ### objects' fields -/
theorem map_inj {α β : Type} {f : α → β} (hf : ∀ a b, f a = f b → a = b) : ∀ {xs ys : List α}, xs.map f = ys.map f → xs = ys
  | [], [], _ => rfl
  | [], _ :: _, h => by cases h
  | _ :: _, [], h => by cases h
  | x :: xs, y :: ys, h => by
    rw [List.map_cons, List.map_cons] at h
    obtain ⟨h1, h2⟩ := List.cons.inj h
    rw [hf _ _ h1, map_inj hf h2]
theorem toNat_inj (a b : Char) (h : a.toNat = b.toNat) : a = b := by
  have h1 : a.val.toNat = b.val.toNat := h
  exact Char.ext (UInt32.toNat_inj.mp h1)
theorem ofS_inj {a b : String} (h : Str.ofString a = Str.ofString b) : a = b := by
  rw [Str.ofString_eq_toList, Str.ofString_eq_toList] at h
  have h1 := congrArg (fun s : Str => s.cps.toList) h
  have h2 : a.toList.map Char.toNat = b.toList.map Char.toNat := by simpa using h1
  exact String.toList_injective (map_inj toNat_inj h2)
def fN (fs : List (String × D)) : List Str := fs.map fun f => Str.ofString f.1
def fD (fs : List (String × D)) : List D := fs.map (·.2)
theorem frF_eq : ∀ fs : List (String × D), isFrF fs = isFrL (fD fs)
  | [] => rfl
  | (_, v) :: t => by rw [isFrF, frF_eq t]; rfl
theorem frzF_D : ∀ fs : List (String × D), fD (freezeF fs) = freezeL (fD fs)
  | [] => rfl
  | (_, v) :: t => by
    have := frzF_D t
    show freeze v :: fD (freezeF t) = freeze v :: freezeL (fD t)
    rw [this]
theorem frzF_N : ∀ fs : List (String × D), fN (freezeF fs) = fN fs
  | [] => rfl
  | (f, v) :: t => by
    have := frzF_N t
    show Str.ofString f :: fN (freezeF t) = Str.ofString f :: fN t
    rw [this]
/-- a field's place -/
theorem fld_at {f : String} {x : D} : ∀ {fs : List (String × D)} {vs : List (Str × V)}, vs.map (·.1) = fN fs → fs.lookup f = some x →
    ∃ n, (fD fs)[n]? = some x ∧ (∀ y, (vs.map (·.2))[n]? = some y → vs.lookup (Str.ofString f) = some y ∧ ∀ y', (L2.putF (Str.ofString f) y' vs).map (·.2) = (vs.map (·.2)).set n y' ∧ (L2.putF (Str.ofString f) y' vs).map (·.1) = vs.map (·.1)) ∧
      ∀ x', fD (putF f x' fs) = (fD fs).set n x' ∧ fN (putF f x' fs) = fN fs
  | [], vs, hn, h => by cases h
  | (g, z) :: fs, [], hn, h => by cases hn
  | (g, z) :: fs, (g', z') :: vs, hn, h => by
    have hn' : g' = Str.ofString g ∧ vs.map (·.1) = fN fs := by
      have := List.cons.inj (show g' :: vs.map (·.1) = Str.ofString g :: fN fs from hn)
      exact this
    rw [List.lookup_cons] at h
    by_cases e : f = g
    · subst e
      have : x = z := by simpa using h.symm
      subst this
      refine ⟨0, rfl, fun y hy => ?_, fun x' => ?_⟩
      · have : z' = y := by simpa using hy
        subst this
        refine ⟨by rw [hn'.1]; simp [List.lookup_cons], fun y' => ?_⟩
        unfold L2.putF
        rw [if_pos hn'.1]
        exact ⟨rfl, rfl⟩
      · unfold putF
        rw [if_pos rfl]
        exact ⟨rfl, rfl⟩
    · have hne : (f == g) = false := by simp [e]
      rw [hne] at h
      obtain ⟨n, h1, h2, h3⟩ := fld_at hn'.2 h
      have hne' : Str.ofString f ≠ g' := fun z => e (ofS_inj (z.trans hn'.1))
      refine ⟨n + 1, by simpa [fD] using h1, fun y hy => ?_, fun x' => ?_⟩
      · obtain ⟨k1, k2⟩ := h2 y (by simpa using hy)
        refine ⟨by rw [List.lookup_cons, beq_eq_false_iff_ne.mpr hne']; exact k1, fun y' => ?_⟩
        obtain ⟨k3, k4⟩ := k2 y'
        unfold L2.putF
        rw [if_neg (Ne.symm hne')]
        exact ⟨by simp [k3], by simp [k4]⟩
      · obtain ⟨k3, k4⟩ := h3 x'
        unfold putF
        rw [if_neg (Ne.symm e)]
        exact ⟨by simp [fD] at k3 ⊢; exact k3, by simp [fN] at k4 ⊢; exact k4⟩
/-- a new field -/
theorem fld_new {f : String} : ∀ {fs : List (String × D)} {vs : List (Str × V)}, vs.map (·.1) = fN fs → fs.lookup f = none →
    (∀ y', (L2.putF (Str.ofString f) y' vs).map (·.2) = vs.map (·.2) ++ [y'] ∧ (L2.putF (Str.ofString f) y' vs).map (·.1) = vs.map (·.1) ++ [Str.ofString f]) ∧ vs.lookup (Str.ofString f) = none ∧
      ∀ x', fD (putF f x' fs) = fD fs ++ [x'] ∧ fN (putF f x' fs) = fN fs ++ [Str.ofString f]
  | [], [], hn, h => ⟨fun _ => ⟨rfl, rfl⟩, rfl, fun _ => ⟨rfl, rfl⟩⟩
  | [], _ :: _, hn, h => by cases hn
  | _ :: _, [], hn, h => by cases hn
  | (g, z) :: fs, (g', z') :: vs, hn, h => by
    have hn' : g' = Str.ofString g ∧ vs.map (·.1) = fN fs := by
      have := List.cons.inj (show g' :: vs.map (·.1) = Str.ofString g :: fN fs from hn)
      exact this
    rw [List.lookup_cons] at h
    by_cases e : f = g
    · subst e
      simp at h
    · have hne : (f == g) = false := by simp [e]
      rw [hne] at h
      obtain ⟨h1, h2, h3⟩ := fld_new hn'.2 h
      have hne' : Str.ofString f ≠ g' := fun z => e (ofS_inj (z.trans hn'.1))
      refine ⟨fun y' => ?_, by rw [List.lookup_cons, beq_eq_false_iff_ne.mpr hne']; exact h2, fun x' => ?_⟩
      · obtain ⟨k3, k4⟩ := h1 y'
        unfold L2.putF
        rw [if_neg (Ne.symm hne')]
        exact ⟨by simp [k3], by simp [k4]⟩
      · obtain ⟨k3, k4⟩ := h3 x'
        unfold putF
        rw [if_neg (Ne.symm e)]
        exact ⟨by simp [fD] at k3 ⊢; exact k3, by simp [fN] at k4 ⊢; exact k4⟩
theorem fN_len (fs : List (String × D)) : (fN fs).length = fs.length := by simp [fN]
/-- the heap's known part, the world -/
structure KW where
  K : PySem.W.Frag
  w : World
instance : Coe KW PySem.W.Frag := ⟨KW.K⟩
@[reducible] def _root_.L2.Cx.kw (X : Cx) : KW := ⟨X.K, X.w⟩
/-! ### dicts -/
mutual
/-- a key, as the kit tells keys -/
def nk : D → NestedKey
  | .bl b => .num (if b then 1 else 0)
  | .int i => .num i
  | .str x => .text ⟨x.toArray⟩
  | .tup xs => .tup (nkL xs)
  | _ => .none
def nkL : List D → List NestedKey
  | [] => []
  | x :: t => nk x :: nkL t
end
def fk : D → Key
  | .int i => Sum.inl i
  | .str x => Sum.inr ⟨x.toArray⟩
  | _ => Sum.inl 0
def kD (kvs : List (D × D)) : List D := kvs.map (·.1)
def vD (kvs : List (D × D)) : List D := kvs.map (·.2)
/-- a dict with tuples as keys -/
def dnO (w : World) (p : Addr) (xs : List (NestedKey × Addr × V)) : HO := .ext fun h => ∃ ys : List (NestedKey × Addr × Value), Paired (fun a b => a.1 = b.1 ∧ a.2.1 = b.2.1 ∧ RelV a.2.2 b.2.2) xs ys ∧ ys.length ≤ sizeLine ∧ (p == sysModules) = false ∧ (ys.map (·.1)).Nodup ∧
  ∃ o es ep, h.get? p = some o ∧ o.ExactDict ∧ o.data = .dict es ep ∧ es.toList = ys.map fun x => ⟨x.1.hash w, .ref x.2.1, x.2.2⟩
/-- a dict with the keys ks, their values as, and the values vs -/
def DctAt (K : KW) (H : Hp) (p : Addr) (ks : List D) (as vs : List V) : Prop :=
  (H p = some (.dK ((ks.map fk).zip vs)) ∧ as = ks.map (kV ∘ fk) ∧ ks.length = vs.length ∧ ∀ k ∈ ks, kcl k = some false) ∨
  ∃ aa : List Addr, H p = some (dnO K.w p ((ks.map nk).zip (aa.zip vs))) ∧ as = aa.map V.ref ∧ ks.length = vs.length ∧ aa.length = vs.length ∧ ks ≠ [] ∧ ∀ k ∈ ks, kcl k = some true
theorem DctAt.keep {K : KW} {H H' : Hp} {p : Addr} {ks : List D} {as vs : List V} (h : DctAt K H p ks as vs) (k : ∀ o, H p = some o → H' p = some o) : DctAt K H' p ks as vs := by
  rcases h with ⟨h1, h2⟩ | ⟨aa, h1, h2⟩
  · exact .inl ⟨k _ h1, h2⟩
  · exact .inr ⟨aa, k _ h1, h2⟩
theorem DctAt.ne {K : KW} {H : Hp} {p : Addr} {ks : List D} {as vs : List V} (h : DctAt K H p ks as vs) : ∃ o, H p = some o := by
  rcases h with ⟨h1, h2⟩ | ⟨aa, h1, h2⟩
  · exact ⟨_, h1⟩
  · exact ⟨_, h1⟩
mutual
theorem freeze_key : ∀ (n : Nat) (d : D), tkey n d = true → freeze d = d
  | _, .non, _ => rfl
  | _, .bl _, _ => rfl
  | _, .int _, _ => rfl
  | _, .str _, _ => rfl
  | n + 1, .tup xs, h => by rw [freeze, freeze_keyL n xs (by simpa [tkey] using h)]
  | 0, .tup _, h => by simp [tkey] at h
  | n, .lst _ _, h => by cases n <;> simp [tkey] at h
  | n, .dct _ _, h => by cases n <;> simp [tkey] at h
  | n, .obj _ _ _, h => by cases n <;> simp [tkey] at h
  | n, .scr _, h => by cases n <;> simp [tkey] at h
theorem freeze_keyL : ∀ (n : Nat) (ds : List D), tkeyL n ds = true → freezeL ds = ds
  | _, [], _ => rfl
  | n, x :: t, h => by
    rw [tkeyL, Bool.and_eq_true] at h
    rw [freezeL, freeze_key n x h.1, freeze_keyL n t h.2]
end
theorem kcl_freeze {k : D} {c : Bool} (h : kcl k = some c) : freeze k = k := by
  cases k with
  | int i => rfl
  | str x => rfl
  | tup xs =>
    have h : (if tkeyL 7 xs = true then some true else none) = some c := h
    split at h
    · rename_i hk; rw [freeze, freeze_keyL 7 xs hk]
    · cases h
  | _ => cases h
theorem frzP_k : ∀ kvs : List (D × D), kD (freezeP kvs) = freezeL (kD kvs)
  | [] => rfl
  | (k, v) :: t => by
    show freeze k :: kD (freezeP t) = freeze k :: freezeL (kD t)
    rw [frzP_k t]
theorem frzP_v : ∀ kvs : List (D × D), vD (freezeP kvs) = freezeL (vD kvs)
  | [] => rfl
  | (k, v) :: t => by
    show freeze v :: vD (freezeP t) = freeze v :: freezeL (vD t)
    rw [frzP_v t]
theorem frzL_keys {c : Bool} : ∀ {ks : List D}, (∀ k ∈ ks, kcl k = some c) → freezeL ks = ks
  | [], _ => rfl
  | k :: ks, h => by
    rw [freezeL, kcl_freeze (h k List.mem_cons_self), frzL_keys fun k hk => h k (List.mem_cons_of_mem _ hk)]
theorem DctAt.frz {K : KW} {H : Hp} {p : Addr} {ks : List D} {as vs : List V} (h : DctAt K H p ks as vs) : freezeL ks = ks := by
  rcases h with ⟨_, _, _, h⟩ | ⟨_, _, _, _, _, _, h⟩
  · exact frzL_keys h
  · exact frzL_keys h
theorem frP_v : ∀ kvs : List (D × D), isFrP kvs = true → isFrL (vD kvs) = true
  | [], _ => rfl
  | (k, v) :: t, h => by
    rw [isFrP, Bool.and_eq_true, Bool.and_eq_true] at h
    show (isFr v && isFrL (vD t)) = true
    rw [h.2.1, frP_v t h.2.2] <;> rfl
/-! ### data in the heap -/
def KTup (K : KW) (a : Addr) (xs : List V) : Prop :=
  ∃ (o : Obj) (its : Array Value) (n : Nat), K.K.lookup a = some o ∧ o.cls = .type "tuple" ∧ o.data = .seq its n ∧ its.size ≤ sizeLine ∧ Vals xs its.toList
def KLst (K : KW) (a : Addr) (xs : List V) : Prop :=
  ∃ (o : Obj) (its : Array Value) (n : Nat), K.K.lookup a = some o ∧ o.cls = .type "list" ∧ o.dict = none ∧ o.data = .seq its n ∧ its.size ≤ sizeLine ∧ Vals xs its.toList
/-- a tuple that may be shared -/
def TAt (K : KW) (H : Hp) (B : Addr → Prop) (p : Addr) (xs : List V) : Prop := (Rd H p (.tup xs) ∧ ¬ B p) ∨ KTup K p xs
/-- a list that may be shared -/
def LAt (H : Hp) (B : Addr → Prop) (p : Addr) (xs : List V) : Prop := H p = some (.lst xs) ∧ ¬ B p
/-- an empty dict that may be shared -/
def EAt (H : Hp) (B : Addr → Prop) (p : Addr) : Prop := H p = some (.dK []) ∧ ¬ B p
/-- an object that may be shared -/
def OAt (K : KW) (H : Hp) (B : Addr → Prop) (p : Addr) (c : String) (dx : Addr) (vs : List (Str × V)) : Prop := H p = some (.ins (He.ga K (Str.ofString c)) dx vs) ∧ ¬ B p
/-- the script -/
def SAt (K : KW) (H : Hp) (B : Addr → Prop) (p : Addr) (xs : List V) : Prop := (Rd H p (.lst xs) ∧ ¬ B p) ∨ KLst K p xs
theorem SAt.sq {K H B p xs} (h : SAt K H B p xs) : SqL K H p xs := h.elim (fun q => .inl q.1) .inr
theorem TAt.sq {K H B p xs} (h : TAt K H B p xs) : SqT K H p xs := h.elim (fun q => .inl q.1) .inr
theorem LAt.sq {K H B p xs} (h : LAt H B p xs) : SqL K H p xs := .of h.1
mutual
/-- the value v is the data d; fp: the owned things' addresses; B: the addresses that shared things keep off -/
inductive Rp (K : KW) (H : Hp) (B : Addr → Prop) : V → D → List Addr → Prop
  | non : Rp K H B .non .non []
  | bl (b : Bool) : Rp K H B (.bl b) (.bl b) []
  | int (i : Int) : Rp K H B (.int i) (.int i) []
  | str (x : Sg) : Rp K H B (.str ⟨x.toArray⟩) (.str x) []
  | tup {p : Addr} {vs : List V} {ds : List D} {fp : List Addr} : TAt K H B p vs → RpL K H B vs ds fp → Rp K H B (.ref p) (.tup ds) fp
  | scr {p : Addr} {ns : List Int} : SAt K H B p (ns.map V.int) → Rp K H B (.ref p) (.scr ns) []
  | lf {p : Addr} {vs : List V} {ds : List D} : LAt H B p vs → RpL K H B vs ds [] → Rp K H B (.ref p) (.lst false ds) []
  | dE {p : Addr} : EAt H B p → Rp K H B (.ref p) (.dct false []) []
  | dz {p : Addr} {kvs : List (D × D)} {as vs : List V} : DctAt K H p (kD kvs) as vs → ¬ B p → RpL K H B as (kD kvs) [] → RpL K H B vs (vD kvs) [] → Rp K H B (.ref p) (.dct false kvs) []
  | dw {p : Addr} {kvs : List (D × D)} {as vs : List V} : DctAt K H p (kD kvs) as vs → RpL K H B as (kD kvs) [] → RpL K H B vs (vD kvs) [] → Rp K H B (.ref p) (.dct true kvs) [p]
  | lo {p : Addr} {vs : List V} {ds : List D} {fp : List Addr} : H p = some (.lst vs) → RpL K H B vs ds fp → Rp K H B (.ref p) (.lst true ds) (p :: fp)
  | of {p dx : Addr} {c : String} {vs : List (Str × V)} {fs : List (String × D)} : OAt K H B p c dx vs → vs.map (·.1) = fN fs → RpL K H B (vs.map (·.2)) (fD fs) [] → Rp K H B (.ref p) (.obj false c fs) []
  | oo {p dx : Addr} {c : String} {vs : List (Str × V)} {fs : List (String × D)} {fp : List Addr} : H p = some (.ins (He.ga K (Str.ofString c)) dx vs) → vs.map (·.1) = fN fs → RpL K H B (vs.map (·.2)) (fD fs) fp → Rp K H B (.ref p) (.obj true c fs) (p :: fp)
inductive RpL (K : KW) (H : Hp) (B : Addr → Prop) : List V → List D → List Addr → Prop
  | nil : RpL K H B [] [] []
  | cons {v : V} {d : D} {f : List Addr} {vs : List V} {ds : List D} {fs : List Addr} : Rp K H B v d f → RpL K H B vs ds fs → RpL K H B (v :: vs) (d :: ds) (f ++ fs)
end
section
variable {K : KW} {H H' : Hp} {B B' : Addr → Prop}
theorem Rd_kept {a : Addr} {u : HO} (r : Rd H a u) (k : ∀ o, H a = some o → H' a = some o) : Rd H' a u := r.elim (fun h => .inl (k _ h)) fun ⟨o, h⟩ => .inr ⟨o, k _ h⟩
theorem Rd_ne {a : Addr} {u : HO} (r : Rd H a u) : H a ≠ none := by
  rcases r with h | ⟨o, h⟩ <;> rw [h] <;> exact fun z => by cases z
theorem TAt.mono {p xs} (h : TAt K H B p xs) (hk : ∀ a o, H a = some o → ¬ B a → H' a = some o) (hB : ∀ a, B' a → B a ∨ H a = none) : TAt K H' B' p xs := by
  rcases h with ⟨r, n⟩ | h
  · exact .inl ⟨Rd_kept r fun o e => hk _ o e n, fun b => (hB _ b).elim n (Rd_ne r)⟩
  · exact .inr h
theorem SAt.mono {p xs} (h : SAt K H B p xs) (hk : ∀ a o, H a = some o → ¬ B a → H' a = some o) (hB : ∀ a, B' a → B a ∨ H a = none) : SAt K H' B' p xs := by
  rcases h with ⟨r, n⟩ | h
  · exact .inl ⟨Rd_kept r fun o e => hk _ o e n, fun b => (hB _ b).elim n (Rd_ne r)⟩
  · exact .inr h
theorem EAt.mono {p} (h : EAt H B p) (hk : ∀ a o, H a = some o → ¬ B a → H' a = some o) (hB : ∀ a, B' a → B a ∨ H a = none) : EAt H' B' p :=
  ⟨hk _ _ h.1 h.2, fun b => (hB _ b).elim h.2 fun z => by rw [h.1] at z; cases z⟩
theorem OAt.mono {p c dx xs} (h : OAt K H B p c dx xs) (hk : ∀ a o, H a = some o → ¬ B a → H' a = some o) (hB : ∀ a, B' a → B a ∨ H a = none) : OAt K H' B' p c dx xs :=
  ⟨hk _ _ h.1 h.2, fun b => (hB _ b).elim h.2 fun z => by rw [h.1] at z; cases z⟩
theorem LAt.mono {p xs} (h : LAt H B p xs) (hk : ∀ a o, H a = some o → ¬ B a → H' a = some o) (hB : ∀ a, B' a → B a ∨ H a = none) : LAt H' B' p xs :=
  ⟨hk _ _ h.1 h.2, fun b => (hB _ b).elim h.2 fun z => by rw [h.1] at z; cases z⟩
mutual
theorem Rp.mono {v d q} (hk : ∀ a o, H a = some o → (¬ B a ∨ a ∈ q) → H' a = some o) (hB : ∀ a, B' a → B a ∨ H a = none) : Rp K H B v d q → Rp K H' B' v d q
  | .non => .non
  | .bl b => .bl b
  | .int i => .int i
  | .str x => .str x
  | .scr t => .scr (t.mono (fun a o e n => hk a o e (.inl n)) hB)
  | .dE t => .dE (t.mono (fun a o e n => hk a o e (.inl n)) hB)
  | .dz t n l m => .dz (t.keep fun o e => hk _ o e (.inl n)) (fun b => (hB _ b).elim n fun z => by obtain ⟨o, e⟩ := t.ne; rw [e] at z; cases z) (RpL.mono (fun a o e n => hk a o e (n.elim .inl fun z => nomatch z)) hB l) (RpL.mono (fun a o e n => hk a o e (n.elim .inl fun z => nomatch z)) hB m)
  | .dw t l m => .dw (t.keep fun o e => hk _ o e (.inr List.mem_cons_self)) (RpL.mono (fun a o e n => hk a o e (n.elim .inl fun z => nomatch z)) hB l) (RpL.mono (fun a o e n => hk a o e (n.elim .inl fun z => nomatch z)) hB m)
  | .tup t l => .tup (t.mono (fun a o e n => hk a o e (.inl n)) hB) (RpL.mono hk hB l)
  | .lf t l => .lf (t.mono (fun a o e n => hk a o e (.inl n)) hB) (RpL.mono (fun a o e n => hk a o e (n.elim .inl fun z => nomatch z)) hB l)
  | .lo t l => .lo (hk _ _ t (.inr List.mem_cons_self)) (RpL.mono (fun a o e n => hk a o e (n.elim .inl fun z => .inr (List.mem_cons_of_mem _ z))) hB l)
  | .of t e l => .of (t.mono (fun a o e n => hk a o e (.inl n)) hB) e (RpL.mono (fun a o e n => hk a o e (n.elim .inl fun z => nomatch z)) hB l)
  | .oo t e l => .oo (hk _ _ t (.inr List.mem_cons_self)) e (RpL.mono (fun a o e n => hk a o e (n.elim .inl fun z => .inr (List.mem_cons_of_mem _ z))) hB l)
theorem RpL.mono {vs ds q} (hk : ∀ a o, H a = some o → (¬ B a ∨ a ∈ q) → H' a = some o) (hB : ∀ a, B' a → B a ∨ H a = none) : RpL K H B vs ds q → RpL K H' B' vs ds q
  | .nil => .nil
  | .cons h t => .cons (Rp.mono (fun a o e n => hk a o e (n.elim .inl fun z => .inr (List.mem_append_left _ z))) hB h) (RpL.mono (fun a o e n => hk a o e (n.elim .inl fun z => .inr (List.mem_append_right _ z))) hB t)
end
mutual
theorem Rp.fr {v d q} : Rp K H B v d q → isFr d = true → q = []
  | .non, _ => rfl
  | .bl b, _ => rfl
  | .int i, _ => rfl
  | .str x, _ => rfl
  | .scr _, _ => rfl
  | .dE _, _ => rfl
  | .dz .., _ => rfl
  | .dw .., h => by simp [isFr] at h
  | .tup t l, h => RpL.fr l (by simpa [isFr] using h)
  | .lf t l, _ => rfl
  | .lo t l, h => by simp [isFr] at h
  | .of t e l, _ => rfl
  | .oo t e l, h => by simp [isFr] at h
theorem RpL.fr {vs ds q} : RpL K H B vs ds q → isFrL ds = true → q = []
  | .nil, _ => rfl
  | .cons h t, e => by
    rw [isFrL, Bool.and_eq_true] at e
    rw [Rp.fr h e.1, RpL.fr t e.2]
    rfl
end
mutual
/-- a thing that is let go of may be shared -/
theorem Rp.freeze {v d q} (hB : ∀ a, B' a → B a ∧ a ∉ q) : Rp K H B v d q → Rp K H B' v (freeze d) []
  | .non => .non
  | .bl b => .bl b
  | .int i => .int i
  | .str x => .str x
  | .scr t => .scr (t.mono (fun _ _ e _ => e) fun a b => .inl (hB a b).1)
  | .dE t => .dE (t.mono (fun _ _ e _ => e) fun a b => .inl (hB a b).1)
  | .dz t n l m => .dz (by rw [frzP_k, t.frz]; exact t) (fun b => n (hB _ b).1) (by rw [frzP_k]; exact RpL.freeze (fun a b => ⟨(hB a b).1, List.not_mem_nil⟩) l) (by rw [frzP_v]; exact RpL.freeze (fun a b => ⟨(hB a b).1, List.not_mem_nil⟩) m)
  | .dw t l m => .dz (by rw [frzP_k, t.frz]; exact t) (fun b => (hB _ b).2 List.mem_cons_self) (by rw [frzP_k]; exact RpL.freeze (fun a b => ⟨(hB a b).1, List.not_mem_nil⟩) l) (by rw [frzP_v]; exact RpL.freeze (fun a b => ⟨(hB a b).1, List.not_mem_nil⟩) m)
  | .tup t l => .tup (t.mono (fun _ _ e _ => e) fun a b => .inl (hB a b).1) (RpL.freeze hB l)
  | .lf t l => .lf (t.mono (fun _ _ e _ => e) fun a b => .inl (hB a b).1) (RpL.freeze (fun a b => ⟨(hB a b).1, List.not_mem_nil⟩) l)
  | .lo t l => .lf ⟨t, fun b => (hB _ b).2 List.mem_cons_self⟩ (RpL.freeze (fun a b => ⟨(hB a b).1, fun z => (hB a b).2 (List.mem_cons_of_mem _ z)⟩) l)
  | .of t e l => .of (t.mono (fun _ _ e _ => e) fun a b => .inl (hB a b).1) (by rw [frzF_N]; exact e) (by rw [frzF_D]; exact RpL.freeze (fun a b => ⟨(hB a b).1, List.not_mem_nil⟩) l)
  | .oo t e l => .of ⟨t, fun b => (hB _ b).2 List.mem_cons_self⟩ (by rw [frzF_N]; exact e) (by rw [frzF_D]; exact RpL.freeze (fun a b => ⟨(hB a b).1, fun z => (hB a b).2 (List.mem_cons_of_mem _ z)⟩) l)
theorem RpL.freeze {vs ds q} (hB : ∀ a, B' a → B a ∧ a ∉ q) : RpL K H B vs ds q → RpL K H B' vs (freezeL ds) []
  | .nil => .nil
  | .cons h t => .cons (Rp.freeze (fun a b => ⟨(hB a b).1, fun z => (hB a b).2 (List.mem_append_left _ z)⟩) h) (RpL.freeze (fun a b => ⟨(hB a b).1, fun z => (hB a b).2 (List.mem_append_right _ z)⟩) t)
end
mutual
/-- owned things are tracked -/
theorem Rp.there {v d q} : Rp K H B v d q → ∀ a ∈ q, ∃ o, H a = some o
  | .non, _, h => nomatch h
  | .bl b, _, h => nomatch h
  | .int i, _, h => nomatch h
  | .str x, _, h => nomatch h
  | .scr _, _, h => nomatch h
  | .dE _, _, h => nomatch h
  | .dz .., _, h => nomatch h
  | .dw t l m, a, h => by
    rw [List.mem_singleton.mp h]
    exact t.ne
  | .tup t l, a, h => RpL.there l a h
  | .lf t l, _, h => nomatch h
  | .lo t l, a, h => by
    rcases List.mem_cons.mp h with rfl | h
    · exact ⟨_, t⟩
    · exact RpL.there l a h
  | .of t e l, _, h => nomatch h
  | .oo t e l, a, h => by
    rcases List.mem_cons.mp h with rfl | h
    · exact ⟨_, t⟩
    · exact RpL.there l a h
theorem RpL.there {vs ds q} : RpL K H B vs ds q → ∀ a ∈ q, ∃ o, H a = some o
  | .nil, _, h => nomatch h
  | .cons h t, a, z => (List.mem_append.mp z).elim (Rp.there h a) (RpL.there t a)
end
theorem RpL.len {vs ds q} : RpL K H B vs ds q → vs.length = ds.length
  | .nil => rfl
  | .cons _ t => by rw [List.length_cons, List.length_cons, RpL.len t]
theorem RpL.get {vs ds q} : RpL K H B vs ds q → ∀ {n : Nat} {d : D}, ds[n]? = some d → ∃ v f pre post, vs[n]? = some v ∧ Rp K H B v d f ∧ q = pre ++ (f ++ post)
  | .nil, n, d, h => by simp at h
  | .cons (f := f) (fs := fs) h t, 0, d, e => by
    simp at e
    subst e
    exact ⟨_, f, [], fs, rfl, h, rfl⟩
  | .cons (f := f) (fs := fs) h t, n + 1, d, e => by
    obtain ⟨v, g, pre, post, h1, h2, h3⟩ := RpL.get t (n := n) (d := d) (by simpa using e)
    exact ⟨v, g, f ++ pre, post, by simpa using h1, h2, by rw [h3, List.append_assoc]⟩
theorem RpL.get0 {vs ds} (h : RpL K H B vs ds []) {n : Nat} {d : D} (e : ds[n]? = some d) : ∃ v, vs[n]? = some v ∧ Rp K H B v d [] := by
  obtain ⟨v, f, pre, post, h1, h2, h3⟩ := h.get e
  have : f = [] := by
    have := congrArg List.length h3
    simp at this
    exact List.eq_nil_of_length_eq_zero (by omega)
  subst this
  exact ⟨v, h1, h2⟩
/-- the n-th part is changed -/
theorem RpL.set {vs ds q} : RpL K H B vs ds q → ∀ {n : Nat} {d : D} {v : V}, ds[n]? = some d → vs[n]? = some v → ∃ f pre post, Rp K H B v d f ∧ q = pre ++ (f ++ post) ∧
    ∀ {H' : Hp} {B' : Addr → Prop} {v' : V} {d' : D} {f' : List Addr}, (∀ a o, H a = some o → (¬ B a ∨ a ∈ pre ∨ a ∈ post) → H' a = some o) → (∀ a, B' a → B a ∨ H a = none) → Rp K H' B' v' d' f' →
      RpL K H' B' (vs.set n v') (ds.set n d') (pre ++ (f' ++ post))
  | .nil, n, d, v, h, _ => by simp at h
  | .cons (f := f) (fs := fs) h t, 0, d, v, e, e' => by
    simp at e e'
    subst e e'
    refine ⟨f, [], fs, h, rfl, fun hk hB r => ?_⟩
    exact RpL.cons (fs := fs) r (t.mono (fun a o e n => hk a o e (n.elim .inl fun z => .inr (.inr z))) hB)
  | .cons (f := f) (fs := fs) h t, n + 1, d, v, e, e' => by
    obtain ⟨g, pre, post, h1, h2, h3⟩ := RpL.set t (n := n) (d := d) (v := v) (by simpa using e) (by simpa using e')
    refine ⟨g, f ++ pre, post, h1, by rw [h2, List.append_assoc], fun hk hB r => ?_⟩
    have r1 := h3 (fun a o e n => hk a o e (n.elim .inl fun z => z.elim (fun y => .inr (.inl (List.mem_append_right _ y))) fun y => .inr (.inr y))) hB r
    have r0 := Rp.mono (fun a o e n => hk a o e (n.elim .inl fun z => .inr (.inl (List.mem_append_left _ z)))) hB h
    have := RpL.cons r0 r1
    simpa [List.append_assoc] using this
theorem RpL.app {vs ds q ws es r} : RpL K H B vs ds q → RpL K H B ws es r → RpL K H B (vs ++ ws) (ds ++ es) (q ++ r)
  | .nil, h => h
  | .cons h t, g => by
    have := RpL.cons h (RpL.app t g)
    simpa [List.append_assoc] using this
theorem RpL.one {v d q} (h : Rp K H B v d q) : RpL K H B [v] [d] q := by
  have := RpL.cons h (.nil (K := K) (H := H) (B := B))
  simpa using this
/-! ### places -/
/-- the value at a place within owned things -/
def VAt (H : Hp) : V → List Stp → V → Prop
  | v, [], u => u = v
  | v, .ix n :: t, u => ∃ p vs x, v = .ref p ∧ H p = some (.lst vs) ∧ vs[n]? = some x ∧ VAt H x t u
  | v, .fld f :: t, u => ∃ p C dx vs x, v = .ref p ∧ H p = some (.ins C dx vs) ∧ vs.lookup (Str.ofString f) = some x ∧ VAt H x t u
  | _, _ :: _, _ => False
theorem VAt.app : ∀ {p q : List Stp} {v u w : V}, VAt H v p u → VAt H u q w → VAt H v (p ++ q) w
  | [], _, v, u, w, h, g => by
    have e : u = v := h
    subst e
    exact g
  | .ix n :: t, _, v, u, w, ⟨p, vs, x, h1, h2, h3, h4⟩, g => ⟨p, vs, x, h1, h2, h3, h4.app g⟩
  | .key _ :: _, _, _, _, _, h, _ => h.elim
  | .fld f :: t, _, v, u, w, ⟨p, C, dx, vs, x, h1, h2, h3, h4⟩, g => ⟨p, C, dx, vs, x, h1, h2, h3, h4.app g⟩
/-- a place: what stands there, and what comes of another thing there -/
theorem Rp.at {v d q} (r : Rp K H B v d q) : ∀ {p : List Stp} {e : D}, getAt d p = some e → ∃ u f pre post, VAt H v p u ∧ Rp K H B u e f ∧ q = pre ++ (f ++ post) ∧
    ∀ {H' : Hp} {B' : Addr → Prop} {e' : D} {f' : List Addr}, (∀ a o, H a = some o → (¬ B a ∨ a ∈ pre ∨ a ∈ post) → H' a = some o) → (∀ a, B' a → B a ∨ H a = none) → Rp K H' B' u e' f' →
      ∃ d', setAt d p e' = some d' ∧ Rp K H' B' v d' (pre ++ (f' ++ post))
  | [], e, h => by
    have e0 : d = e := by simpa [getAt] using h
    subst e0
    exact ⟨v, q, [], [], rfl, r, by simp, fun hk hB r' => ⟨_, rfl, by simpa using r'⟩⟩
  | .ix n :: p, e, h => by
    cases r with
    | lo t l =>
      rename_i a vs ds fp
      rw [getAt] at h
      cases hx : ds[n]? with
      | none => rw [hx] at h; cases h
      | some x =>
        rw [hx] at h
        have h' : getAt x p = some e := h
        obtain ⟨y, g, g1, g2, hy, ry, eq⟩ := l.get hx
        obtain ⟨g', pre', post', ry', eq', hset⟩ := l.set hx hy
        obtain ⟨u, f, pre, post, h1, h2, h3, h4⟩ := Rp.at ry' h'
        refine ⟨u, f, a :: (pre' ++ pre), post ++ post', ⟨a, vs, y, rfl, t, hy, h1⟩, h2, by rw [eq', h3]; simp [List.append_assoc], fun {H' B' e' f'} hk hB re => ?_⟩
        obtain ⟨d', hd, rd⟩ := h4 (e' := e') (f' := f') (fun b o eo n => hk b o eo (n.elim .inl fun z => z.elim (fun z => .inr (.inl (by simp [z]))) fun z => .inr (.inr (by simp [z])))) hB re
        refine ⟨.lst true (ds.set n d'), by rw [setAt, hx]; simp [hd], ?_⟩
        have l' := hset (fun b o eo n => hk b o eo (n.elim .inl fun z => z.elim (fun z => .inr (.inl (by simp [z]))) fun z => .inr (.inr (by simp [z])))) hB rd
        have ev : vs.set n y = vs := by
          apply List.ext_getElem?
          intro i
          rw [List.getElem?_set]
          split
          · rename_i e1
            subst e1
            rw [hy]
            have := (List.getElem?_eq_some_iff.mp hy).1
            simp [this]
          · rfl
        rw [ev] at l'
        have := Rp.lo (hk _ _ t (.inr (.inl List.mem_cons_self))) l'
        simpa [List.append_assoc] using this
    | _ => simp [getAt] at h
  | .key k :: p, e, h => by cases r <;> simp [getAt] at h
  | .fld f :: p, e, h => by
    cases r with
    | oo t en l =>
      rename_i a dx c vs fs fp
      rw [getAt] at h
      cases hx : fs.lookup f with
      | none => rw [hx] at h; cases h
      | some x =>
        rw [hx] at h
        have h' : getAt x p = some e := h
        obtain ⟨n, hn, hv, hp⟩ := fld_at en hx
        obtain ⟨y, g, g1, g2, hy, ry, eq⟩ := l.get hn
        obtain ⟨hl, hput⟩ := hv y hy
        obtain ⟨g', pre', post', ry', eq', hset⟩ := l.set hn hy
        obtain ⟨u, f', pre, post, h1, h2, h3, h4⟩ := Rp.at ry' h'
        refine ⟨u, f', a :: (pre' ++ pre), post ++ post', ⟨a, _, dx, vs, y, rfl, t, hl, h1⟩, h2, by rw [eq', h3]; simp [List.append_assoc], fun {H' B' e' f'} hk hB re => ?_⟩
        obtain ⟨d', hd, rd⟩ := h4 (e' := e') (f' := f') (fun b o eo n => hk b o eo (n.elim .inl fun z => z.elim (fun z => .inr (.inl (by simp [z]))) fun z => .inr (.inr (by simp [z])))) hB re
        refine ⟨.obj true c (putF f d' fs), by rw [setAt, hx]; simp [hd], ?_⟩
        have l' := hset (fun b o eo n => hk b o eo (n.elim .inl fun z => z.elim (fun z => .inr (.inl (by simp [z]))) fun z => .inr (.inr (by simp [z])))) hB rd
        have ev : (vs.map (·.2)).set n y = vs.map (·.2) := by
          apply List.ext_getElem?
          intro i
          rw [List.getElem?_set]
          split
          · rename_i e1
            subst e1
            rw [hy]
            have := (List.getElem?_eq_some_iff.mp hy).1
            simpa using this
          · rfl
        rw [ev] at l'
        obtain ⟨q1, q2⟩ := hp d'
        rw [← q1] at l'
        have := Rp.oo (hk _ _ t (.inr (.inl List.mem_cons_self))) (by rw [q2]; exact en) l'
        simpa [List.append_assoc] using this
    | _ => simp [getAt] at h
end

/-! ### the state -/
def look (σ : L2.St) (i : Nat) : Option V := (σ[i]?).getD none
def slot (ρ : Env) (i : Nat) : Slot := (ρ[i]?).getD .un
/-- where shared things do not reach: the callers' things and those held, the owned things -/
def Bs (A : Addr → Prop) (fp : Nat → List Addr) (a : Addr) : Prop := A a ∨ ∃ i, a ∈ fp i
def SlotOk (K : KW) (H : Hp) (A₀ B : Addr → Prop) (x : Option V) : Slot → List Addr → Prop
  | .un, f => f = []
  | .fz d, f => f = [] ∧ ∃ v, x = some v ∧ Rp K H B v d []
  | .ow d, f => ∃ v, x = some v ∧ Rp K H B v d f
  | .mw d, f => ∃ v, x = some v ∧ Rp K H B v d f
  | .bw d, f => f = [] ∧ ∃ v q, x = some v ∧ Rp K H B v d q ∧ ∀ a ∈ q, A₀ a
/-- the names σ hold what ρ says; fp: what each owns -/
structure SI (K : KW) (A₀ A : Addr → Prop) (σ : L2.St) (H : Hp) (ρ : Env) (fp : Nat → List Addr) : Prop where
  len : σ.length = ρ.length
  sub : ∀ a, A₀ a → A a
  nd : ∀ i, (fp i).Nodup
  dj : ∀ i j a, a ∈ fp i → a ∈ fp j → i = j
  na : ∀ i a, a ∈ fp i → ¬ A a
  tr : ∀ a, A a → ∃ o, H a = some o
  sl : ∀ i, SlotOk K H A₀ (Bs A fp) (look σ i) (slot ρ i) (fp i)
section
variable {K : KW} {A₀ A A' A'' : Addr → Prop} {σ σ' : L2.St} {H H' H'' : Hp} {ρ ρ' : Env} {fp fp' fp'' : Nat → List Addr}
theorem SlotOk.there {B : Addr → Prop} {x : Option V} {s : Slot} {f : List Addr} (h : SlotOk K H A₀ B x s f) : ∀ a ∈ f, ∃ o, H a = some o := by
  cases s with
  | un => intro a ha; rw [show f = [] from h] at ha; cases ha
  | fz d => intro a ha; rw [h.1] at ha; cases ha
  | bw d => intro a ha; rw [h.1] at ha; cases ha
  | ow d => obtain ⟨v, _, r⟩ := h; exact r.there
  | mw d => obtain ⟨v, _, r⟩ := h; exact r.there
theorem SlotOk.mono {B B' : Addr → Prop} {x : Option V} {s : Slot} {f : List Addr} (h : SlotOk K H A₀ B x s f) (hk : ∀ a o, H a = some o → (¬ B a ∨ a ∈ f ∨ A₀ a) → H' a = some o) (hB : ∀ a, B' a → B a ∨ H a = none) : SlotOk K H' A₀ B' x s f := by
  cases s with
  | un => exact h
  | fz d => obtain ⟨h1, v, h2, r⟩ := h; exact ⟨h1, v, h2, r.mono (fun a o e n => hk a o e (n.elim .inl fun z => nomatch z)) hB⟩
  | ow d => obtain ⟨v, h2, r⟩ := h; exact ⟨v, h2, r.mono (fun a o e n => hk a o e (n.elim .inl fun z => .inr (.inl z))) hB⟩
  | mw d => obtain ⟨v, h2, r⟩ := h; exact ⟨v, h2, r.mono (fun a o e n => hk a o e (n.elim .inl fun z => .inr (.inl z))) hB⟩
  | bw d => obtain ⟨h1, v, q, h2, r, h3⟩ := h; exact ⟨h1, v, q, h2, r.mono (fun a o e n => hk a o e (n.elim .inl fun z => .inr (.inr (h3 a z)))) hB, h3⟩
def fup (fp : Nat → List Addr) (i : Nat) (f : List Addr) : Nat → List Addr := fun j => if j = i then f else fp j
theorem fup_same {i : Nat} {f : List Addr} : fup fp i f i = f := if_pos rfl
theorem fup_ne {i j : Nat} {f : List Addr} (h : j ≠ i) : fup fp i f j = fp j := if_neg h
/-- ONE STEP: at most the slot i and what it owns are changed -/
theorem SI.chg (S : SI K A₀ A σ H ρ fp) (i : Nat) {A₁ : Addr → Prop} {σ₁ : L2.St} {H₁ : Hp} {ρ₁ : Env} {f : List Addr} (hl : σ₁.length = ρ₁.length)
    (hσ : ∀ j, j ≠ i → look σ₁ j = look σ j) (hρ : ∀ j, j ≠ i → slot ρ₁ j = slot ρ j) (h0 : ∀ a, A₀ a → A₁ a) (hA : ∀ a, A₁ a → A a ∨ a ∈ fp i ∨ H a = none) (hT : ∀ a, A₁ a → ∃ o, H₁ a = some o)
    (hn : f.Nodup) (hf : ∀ a ∈ f, a ∈ fp i ∨ A a ∨ H a = none) (hfA : ∀ a ∈ f, ¬ A₁ a) (hk : ∀ a o, H a = some o → a ∉ fp i → H₁ a = some o)
    (hs : SlotOk K H₁ A₀ (Bs A₁ (fup fp i f)) (look σ₁ i) (slot ρ₁ i) f) : SI K A₀ A₁ σ₁ H₁ ρ₁ (fup fp i f) := by
  have ow : ∀ j a, a ∈ fp j → ∃ o, H a = some o := fun j a ha => (S.sl j).there a ha
  refine ⟨hl, h0, fun j => ?_, fun j k a h1 h2 => ?_, fun j a h1 => ?_, hT, fun j => ?_⟩
  · by_cases e : j = i
    · subst e; rw [fup_same]; exact hn
    · rw [fup_ne e]; exact S.nd j
  · have key : ∀ j, j ≠ i → a ∈ fp j → a ∈ f → False := fun j e h1 h2 => by
      rcases hf a h2 with z | z | z
      · exact e (S.dj j i a h1 z)
      · exact S.na j a h1 z
      · obtain ⟨o, eo⟩ := ow j a h1
        rw [eo] at z; cases z
    by_cases e : j = i
    · by_cases e' : k = i
      · rw [e, e']
      · rw [e, fup_same] at h1
        rw [fup_ne e'] at h2
        exact (key k e' h2 h1).elim
    · by_cases e' : k = i
      · rw [e', fup_same] at h2
        rw [fup_ne e] at h1
        exact (key j e h1 h2).elim
      · rw [fup_ne e] at h1
        rw [fup_ne e'] at h2
        exact S.dj j k a h1 h2
  · by_cases e : j = i
    · rw [e, fup_same] at h1; exact hfA a h1
    · rw [fup_ne e] at h1
      intro hA1
      rcases hA a hA1 with z | z | z
      · exact S.na j a h1 z
      · exact e (S.dj j i a h1 z)
      · obtain ⟨o, eo⟩ := ow j a h1
        rw [eo] at z; cases z
  · by_cases e : j = i
    · rw [e, fup_same]; exact hs
    · rw [hσ j e, hρ j e, fup_ne e]
      refine (S.sl j).mono (fun a o ea n => hk a o ea fun hi => ?_) fun a b => ?_
      · rcases n with n | n | n
        · exact n (.inr ⟨i, hi⟩)
        · exact e (S.dj j i a n hi)
        · exact S.na i a hi (S.sub a n)
      · rcases b with b | ⟨k, b⟩
        · rcases hA a b with z | z | z
          · exact .inl (.inl z)
          · exact .inl (.inr ⟨i, z⟩)
          · exact .inr z
        · by_cases ek : k = i
          · rw [ek, fup_same] at b
            rcases hf a b with z | z | z
            · exact .inl (.inr ⟨i, z⟩)
            · exact .inl (.inl z)
            · exact .inr z
          · rw [fup_ne ek] at b
            exact .inl (.inr ⟨k, b⟩)
theorem slot_out (h : ρ.length ≤ i) : slot ρ i = .un := by simp [slot, List.getElem?_eq_none_iff.mpr h]
theorem SI.out (S : SI K A₀ A σ H ρ fp) {i : Nat} (h : ρ.length ≤ i) : fp i = [] := by
  have := S.sl i
  rw [slot_out h] at this
  exact this
theorem fup_self {i : Nat} (h : fp i = []) : fup fp i [] = fp := by
  funext j
  unfold fup
  split
  · rename_i e; rw [e, h]
  · rfl
/-- no slot is changed -/
theorem SI.grow (S : SI K A₀ A σ H ρ fp) {A₁ : Addr → Prop} {H₁ : Hp} (h0 : ∀ a, A₀ a → A₁ a) (hA : ∀ a, A₁ a → A a ∨ H a = none) (hT : ∀ a, A₁ a → ∃ o, H₁ a = some o) (hk : ∀ a o, H a = some o → H₁ a = some o) : SI K A₀ A₁ σ H₁ ρ fp := by
  have e := S.out (Nat.le_refl ρ.length)
  have := S.chg ρ.length (A₁ := A₁) (σ₁ := σ) (H₁ := H₁) (ρ₁ := ρ) (f := []) S.len (fun _ _ => rfl) (fun _ _ => rfl) h0 (fun a b => (hA a b).elim .inl fun z => .inr (.inr z)) hT List.nodup_nil (fun _ z => nomatch z) (fun _ z => nomatch z)
    (fun a o q _ => hk a o q) (by rw [slot_out (Nat.le_refl _)]; exact rfl)
  rw [fup_self e] at this
  exact this
theorem SI.drop (S : SI K A₀ A σ H ρ fp) {A₁ : Addr → Prop} (h0 : ∀ a, A₀ a → A₁ a) (h1 : ∀ a, A₁ a → A a) : SI K A₀ A₁ σ H ρ fp := S.grow h0 (fun a h => .inl (h1 a h)) (fun a h => S.tr a (h1 a h)) fun _ _ q => q
/-- between two states -/
structure Tr (A : Addr → Prop) (fp : Nat → List Addr) (H : Hp) (A' : Addr → Prop) (fp' : Nat → List Addr) (H' : Hp) : Prop where
  a : ∀ a, A a → A' a
  k : ∀ a o, H a = some o → (∀ i, a ∉ fp i) → H' a = some o
  b : ∀ a, Bs A' fp' a → Bs A fp a ∨ H a = none
theorem Tr.refl : Tr A fp H A fp H := ⟨fun _ h => h, fun _ _ e _ => e, fun _ h => .inl h⟩
theorem Tr.trans (t : Tr A fp H A' fp' H') (S : SI K A₀ A σ H ρ fp) (S' : SI K A₀ A' σ' H' ρ' fp') (u : Tr A' fp' H' A'' fp'' H'') : Tr A fp H A'' fp'' H'' where
  a := fun a h => u.a a (t.a a h)
  k := fun a o e n => by
    refine u.k a o (t.k a o e n) fun i hi => ?_
    rcases t.b a (.inr ⟨i, hi⟩) with (z | ⟨j, z⟩) | z
    · exact S'.na i a hi (t.a a z)
    · exact n j z
    · rw [e] at z; cases z
  b := fun a h => by
    rcases u.b a h with z | z
    · exact t.b a z
    · by_cases o : ∃ i, a ∈ fp i
      · exact .inl (.inr o)
      · right
        cases e : H a with
        | none => rfl
        | some x =>
          have := t.k a x e fun i hi => o ⟨i, hi⟩
          rw [this] at z; cases z
/-- a held or shared thing persists -/
theorem Rp.keep {v d q} (r : Rp K H (Bs A fp) v d q) (S : SI K A₀ A σ H ρ fp) (hq : ∀ a ∈ q, A a) (t : Tr A fp H A' fp' H') : Rp K H' (Bs A' fp') v d q :=
  r.mono (fun a o e n => t.k a o e fun i hi => by
    rcases n with n | n
    · exact n (.inr ⟨i, hi⟩)
    · exact S.na i a hi (hq a n)) t.b
end
end Rw

set_option Elab.async false
set_option linter.all false
set_option maxRecDepth 100000
/-! RwC: operands: what they are in the heap, how they are handed on. -/
namespace Rw
open PySem L2
section
variable {K : KW} {A₀ A A' A'' : Addr → Prop} {σ σ' : L2.St} {H H' H'' : Hp} {ρ ρ' : Env} {fp fp' fp'' : Nat → List Addr} {B : Addr → Prop}
theorem VAt.inj : ∀ {p : List Stp} {v u w : V}, VAt H v p u → VAt H v p w → u = w
  | [], v, u, w, h, g => by
    have e1 : u = v := h
    have e2 : w = v := g
    rw [e1, e2]
  | .ix n :: t, v, u, w, ⟨p, vs, x, h1, h2, h3, h4⟩, ⟨p', vs', x', g1, g2, g3, g4⟩ => by
    rw [h1] at g1
    cases g1
    rw [h2] at g2
    cases g2
    rw [h3] at g3
    cases g3
    exact VAt.inj h4 g4
  | .key _ :: _, _, _, _, h, _ => h.elim
  | .fld f :: t, v, u, w, ⟨p, C, dx, vs, x, h1, h2, h3, h4⟩, ⟨p', C', dx', vs', x', g1, g2, g3, g4⟩ => by
    rw [h1] at g1
    cases g1
    rw [h2] at g2
    cases g2
    rw [h3] at g3
    cases g3
    exact VAt.inj h4 g4
theorem VAt.kept : ∀ {p : List Stp} {v u : V}, VAt H v p u → (∀ a o, H a = some o → H' a = some o) → VAt H' v p u
  | [], _, _, h, _ => h
  | .ix n :: t, v, u, ⟨p, vs, x, h1, h2, h3, h4⟩, k => ⟨p, vs, x, h1, k _ _ h2, h3, h4.kept k⟩
  | .key _ :: _, _, _, h, _ => h.elim
  | .fld f :: t, v, u, ⟨p, C, dx, vs, x, h1, h2, h3, h4⟩, k => ⟨p, C, dx, vs, x, h1, k _ _ h2, h3, h4.kept k⟩
/-- an operand is the value v; q: what it brings along -/
def OpdR (K : KW) (H : Hp) (B : Addr → Prop) (σ : L2.St) (v : V) : Opd → List Addr → Prop
  | .fz d, q => q = [] ∧ Rp K H B v d []
  | .ow d, q => Rp K H B v d q
  | .pt i p, q => q = [] ∧ ∃ r, look σ i = some r ∧ VAt H r p v
def OpdOk (K : KW) (H : Hp) (A A' B : Addr → Prop) (σ : L2.St) (v : V) (o : Opd) : Prop := ∃ q, OpdR K H B σ v o q ∧ q.Nodup ∧ ∀ a ∈ q, A' a ∧ ¬ A a
theorem OpdOk.fz {d v} (r : Rp K H B v d []) : OpdOk K H A A' B σ v (.fz d) := ⟨[], ⟨rfl, r⟩, .nil, fun _ h => nomatch h⟩
theorem SI.bs (S : SI K A₀ A σ H ρ fp) {a : Addr} (b : Bs A fp a) : ∃ o, H a = some o := b.elim (S.tr a) fun ⟨i, h⟩ => (S.sl i).there a h
theorem SI.free (S : SI K A₀ A σ H ρ fp) {a : Addr} (e : H a = none) : ¬ Bs A fp a := fun b => by
  obtain ⟨o, h⟩ := S.bs b
  rw [e] at h; cases h
/-- what a name holds -/
theorem SI.con (S : SI K A₀ A σ H ρ fp) {i : Nat} {d : D} (h : (slot ρ i).con = some d) : ∃ v q, look σ i = some v ∧ Rp K H (Bs A fp) v d q ∧ ∀ a ∈ q, Bs A fp a := by
  have := S.sl i
  cases e : slot ρ i with
  | un => rw [e] at h; cases h
  | fz d' =>
    rw [e] at this h
    cases h
    obtain ⟨_, v, h2, r⟩ := this
    exact ⟨v, [], h2, r, fun _ z => nomatch z⟩
  | ow d' =>
    rw [e] at this h
    cases h
    obtain ⟨v, h2, r⟩ := this
    exact ⟨v, _, h2, r, fun a z => .inr ⟨i, z⟩⟩
  | mw d' =>
    rw [e] at this h
    cases h
    obtain ⟨v, h2, r⟩ := this
    exact ⟨v, _, h2, r, fun a z => .inr ⟨i, z⟩⟩
  | bw d' =>
    rw [e] at this h
    cases h
    obtain ⟨_, v, q, h2, r, h3⟩ := this
    exact ⟨v, q, h2, r, fun a z => .inl (S.sub a (h3 a z))⟩
theorem slot_get {ρ : Env} {i : Nat} {s : Slot} (h : ρ[i]? = some s) : slot ρ i = s := by simp [slot, h]
theorem get_slot {ρ : Env} {i : Nat} (h : slot ρ i ≠ .un) : ρ[i]? = some (slot ρ i) := by
  unfold slot at h ⊢
  cases e : ρ[i]? with
  | none => rw [e] at h; exact (h rfl).elim
  | some s => rfl
theorem getP_slot {i : Nat} {p : List Stp} {d : D} (h : getP ρ i p = some d) : ∃ d₀, (slot ρ i).con = some d₀ ∧ getAt d₀ p = some d := by
  unfold getP at h
  cases e : ρ[i]? with
  | none => rw [e] at h; cases h
  | some s =>
    rw [e] at h
    cases e2 : s.con with
    | none => rw [show (some s).bind Slot.con = s.con from rfl, e2] at h; cases h
    | some d₀ =>
      rw [show (some s).bind Slot.con = s.con from rfl, e2] at h
      exact ⟨d₀, by rw [slot_get e, e2], h⟩
/-- an operand's data -/
theorem con_ok (S : SI K A₀ A' σ H ρ fp) {v : V} {o : Opd} {d : D} (ok : OpdOk K H A A' (Bs A' fp) σ v o) (h : con ρ o = some d) : ∃ q, Rp K H (Bs A' fp) v d q ∧ ∀ a ∈ q, Bs A' fp a := by
  obtain ⟨q, r, _, hq⟩ := ok
  cases o with
  | fz e =>
    cases h
    exact ⟨[], r.2, fun _ z => nomatch z⟩
  | ow e =>
    cases h
    exact ⟨q, r, fun a z => .inl (hq a z).1⟩
  | pt i p =>
    obtain ⟨_, w, hw, va⟩ := r
    obtain ⟨d₀, h1, h2⟩ := getP_slot (show getP ρ i p = some d from h)
    obtain ⟨v₀, q₀, g1, g2, g3⟩ := S.con h1
    rw [hw] at g1
    cases g1
    obtain ⟨u, f, pre, post, k1, k2, k3, _⟩ := g2.at h2
    rw [va.inj k1]
    exact ⟨f, k2, fun a z => g3 a (by rw [k3]; simp [z])⟩
/-- .. which is frozen -/
theorem con_fr (S : SI K A₀ A' σ H ρ fp) {v : V} {o : Opd} {d : D} (ok : OpdOk K H A A' (Bs A' fp) σ v o) (h : con ρ o = some d) (f : o.isFz = true ∨ isFr d = true) : Rp K H (Bs A' fp) v d [] := by
  rcases f with f | f
  · cases o with
    | fz e => cases h; obtain ⟨q, r, _⟩ := ok; exact r.2
    | ow e => cases f
    | pt i p => cases f
  · obtain ⟨q, r, _⟩ := con_ok S ok h
    rw [r.fr f] at r
    exact r
/-- it is no place within an owned thing -/
def Opd.noPl : Opd → Prop
  | .pt _ (_ :: _) => False
  | _ => True
/-- the same later -/
theorem OpdR.later {v : V} {o : Opd} {q : List Addr} (r : OpdR K H (Bs A' fp) σ v o q) (hq : ∀ a ∈ q, A' a) (S : SI K A₀ A' σ H ρ fp) (t : Tr A' fp H A'' fp' H') (hp : o.noPl ∨ ∀ a o, H a = some o → H' a = some o) : OpdR K H' (Bs A'' fp') σ v o q := by
  cases o with
  | fz d => exact ⟨r.1, r.2.keep S (fun _ z => nomatch z) t⟩
  | ow d => exact Rp.keep r S hq t
  | pt i p =>
    obtain ⟨h1, w, h2, h3⟩ := r
    refine ⟨h1, w, h2, ?_⟩
    cases p with
    | nil => exact h3
    | cons s p =>
      rcases hp with hp | hp
      · exact hp.elim
      · exact h3.kept hp
theorem OpdOk.later {v : V} {o : Opd} (ok : OpdOk K H A A' (Bs A' fp) σ v o) (S : SI K A₀ A' σ H ρ fp) (t : Tr A' fp H A'' fp' H') (hp : o.noPl ∨ ∀ a o, H a = some o → H' a = some o) : OpdOk K H' A A'' (Bs A'' fp') σ v o := by
  obtain ⟨q, r, nd, hq⟩ := ok
  exact ⟨q, r.later (fun a z => (hq a z).1) S t hp, nd, fun a z => ⟨t.a a (hq a z).1, (hq a z).2⟩⟩
/-! ### letting go -/
theorem fup_fup {i : Nat} {f g : List Addr} : fup (fup fp i f) i g = fup fp i g := by
  funext j
  unfold fup
  split <;> rfl
theorem bs_fup {i : Nat} {f : List Addr} {a : Addr} (h : Bs A (fup fp i f) a) : Bs A fp a ∨ a ∈ f := by
  rcases h with h | ⟨j, h⟩
  · exact .inl (.inl h)
  · by_cases e : j = i
    · rw [e, fup_same] at h; exact .inr h
    · rw [fup_ne e] at h; exact .inl (.inr ⟨j, h⟩)
theorem slot_set {ρ : Env} {i j : Nat} {s : Slot} (h : j ≠ i) : slot (ρ.set i s) j = slot ρ j := by
  unfold slot
  rw [List.getElem?_set_ne (Ne.symm h)]
theorem slot_set_same {ρ : Env} {i : Nat} {s : Slot} (h : i < ρ.length) : slot (ρ.set i s) i = s := by
  unfold slot
  rw [List.getElem?_set_self h]
  rfl
theorem lt_of_get {ρ : Env} {i : Nat} {s : Slot} (h : ρ[i]? = some s) : i < ρ.length := (List.getElem?_eq_some_iff.mp h).1
/-- a place of an owned variable gets other data: the heap may change there alone -/
theorem SI.putAt (S : SI K A₀ A' σ H ρ fp) {i : Nat} {p : List Stp} {d e : D} {v : V} {w : V} (hg : getP ρ i p = some d) (hw : look σ i = some w) (hv : VAt H w p v) {ρ' : Env} (hs : setP ρ i p e = some ρ') :
    ∃ f pre post, fp i = pre ++ (f ++ post) ∧ Rp K H (Bs A' fp) v d f ∧ ∀ {A₁ : Addr → Prop} {H₁ : Hp} {f' : List Addr}, (∀ a, A₀ a → A₁ a) → (∀ a, A₁ a → A' a ∨ a ∈ f ∨ H a = none) → (∀ a, A₁ a → ∃ o, H₁ a = some o) →
      f'.Nodup → (∀ a ∈ f', a ∈ f ∨ A' a ∨ H a = none) → (∀ a ∈ f', ¬ A₁ a) → (∀ a o, H a = some o → a ∉ f → H₁ a = some o) → Rp K H₁ (Bs A₁ (fup fp i (pre ++ (f' ++ post)))) v e f' →
      SI K A₀ A₁ σ H₁ ρ' (fup fp i (pre ++ (f' ++ post))) := by
  obtain ⟨d₀, h1, h2⟩ := getP_slot hg
  have key : ∀ {r : V}, look σ i = some r → Rp K H (Bs A' fp) r d₀ (fp i) → (∀ d', setAt d₀ p e = some d' → ∃ s, (s = Slot.ow d' ∨ s = Slot.mw d') ∧ ρ' = ρ.set i s) → i < ρ.length →
      ∃ f pre post, fp i = pre ++ (f ++ post) ∧ Rp K H (Bs A' fp) v d f ∧ ∀ {A₁ : Addr → Prop} {H₁ : Hp} {f' : List Addr}, (∀ a, A₀ a → A₁ a) → (∀ a, A₁ a → A' a ∨ a ∈ f ∨ H a = none) → (∀ a, A₁ a → ∃ o, H₁ a = some o) →
      f'.Nodup → (∀ a ∈ f', a ∈ f ∨ A' a ∨ H a = none) → (∀ a ∈ f', ¬ A₁ a) → (∀ a o, H a = some o → a ∉ f → H₁ a = some o) → Rp K H₁ (Bs A₁ (fup fp i (pre ++ (f' ++ post)))) v e f' →
      SI K A₀ A₁ σ H₁ ρ' (fup fp i (pre ++ (f' ++ post))) := by
    intro r hr rr hset hi
    obtain ⟨u, f, pre, post, k1, k2, k3, k4⟩ := rr.at h2
    rw [hr] at hw
    cases hw
    obtain rfl := hv.inj k1
    refine ⟨f, pre, post, k3, k2, fun {A₁ H₁ f'} g0 g1 g2 g3 g4 g5 g6 g7 => ?_⟩
    have nd := S.nd i
    rw [k3] at nd
    have there : ∀ a, a ∈ fp i → ∃ o, H a = some o := fun a h => (S.sl i).there a h
    have ndp : ∀ a, a ∈ pre ∨ a ∈ post → a ∉ f := fun a h hf => by
      rw [List.nodup_append] at nd
      obtain ⟨n1, n2, n3⟩ := nd
      rw [List.nodup_append] at n2
      obtain ⟨m1, m2, m3⟩ := n2
      rcases h with h | h
      · exact n3 a h a (List.mem_append_left _ hf) rfl
      · exact m3 a hf a h rfl
    have inI : ∀ a, a ∈ pre ∨ a ∈ post → a ∈ fp i := fun a h => by rw [k3]; rcases h with h | h <;> simp [h]
    have hB : ∀ a, Bs A₁ (fup fp i (pre ++ (f' ++ post))) a → Bs A' fp a ∨ H a = none := fun a b => by
      rcases b with b | ⟨j, b⟩
      · rcases g1 a b with z | z | z
        · exact .inl (.inl z)
        · exact .inl (.inr ⟨i, by rw [k3]; simp [z]⟩)
        · exact .inr z
      · by_cases ej : j = i
        · rw [ej, fup_same] at b
          have b' : a ∈ pre ∨ a ∈ f' ∨ a ∈ post := by simpa using b
          rcases b' with z | z | z
          · exact .inl (.inr ⟨i, inI a (.inl z)⟩)
          · rcases g4 a z with y | y | y
            · exact .inl (.inr ⟨i, by rw [k3]; simp [y]⟩)
            · exact .inl (.inl y)
            · exact .inr y
          · exact .inl (.inr ⟨i, inI a (.inr z)⟩)
        · rw [fup_ne ej] at b
          exact .inl (.inr ⟨j, b⟩)
    obtain ⟨d', hd, rd⟩ := k4 (H' := H₁) (B' := Bs A₁ (fup fp i (pre ++ (f' ++ post)))) (e' := e) (f' := f') (fun a o ea n => g6 a o ea fun hf => by
      rcases n with n | n
      · exact n (.inr ⟨i, by rw [k3]; simp [hf]⟩)
      · exact ndp a n hf) hB g7
    obtain ⟨s, hs', rfl⟩ := hset d' hd
    refine S.chg i (by rw [List.length_set]; exact S.len) (fun _ _ => rfl) (fun j hj => slot_set hj) g0 (fun a h => (g1 a h).elim .inl fun z => z.elim (fun z => .inr (.inl (by rw [k3]; simp [z]))) fun z => .inr (.inr z)) g2 ?_ (fun a h => ?_) (fun a h => ?_) (fun a o ea n => g6 a o ea fun hf => n (by rw [k3]; simp [hf])) ?_
    · -- no address twice
      rw [List.nodup_append] at nd ⊢
      obtain ⟨n1, n2, n3⟩ := nd
      rw [List.nodup_append] at n2
      obtain ⟨m1, m2, m3⟩ := n2
      have out : ∀ a, a ∈ pre ∨ a ∈ post → a ∉ f' := fun a h hf' => by
        rcases g4 a hf' with z | z | z
        · exact ndp a h z
        · exact S.na i a (inI a h) z
        · obtain ⟨o, eo⟩ := there a (inI a h)
          rw [eo] at z; cases z
      refine ⟨n1, ?_, fun a ha b hb e => ?_⟩
      · rw [List.nodup_append]
        exact ⟨g3, m2, fun a ha b hb e => out b (.inr hb) (by rw [← e]; exact ha)⟩
      · subst e
        rcases List.mem_append.mp hb with hb | hb
        · exact out a (.inl ha) hb
        · exact n3 a ha a (List.mem_append_right _ hb) rfl
    · have h' : a ∈ pre ∨ a ∈ f' ∨ a ∈ post := by simpa using h
      rcases h' with z | z | z
      · exact .inl (inI a (.inl z))
      · rcases g4 a z with y | y | y
        · exact .inl (by rw [k3]; simp [y])
        · exact .inr (.inl y)
        · exact .inr (.inr y)
      · exact .inl (inI a (.inr z))
    · have h' : a ∈ pre ∨ a ∈ f' ∨ a ∈ post := by simpa using h
      have old : a ∈ pre ∨ a ∈ post → ¬ A₁ a := fun z hA => by
        rcases g1 a hA with y | y | y
        · exact S.na i a (inI a z) y
        · exact ndp a z y
        · obtain ⟨o, eo⟩ := there a (inI a z)
          rw [eo] at y; cases y
      rcases h' with z | z | z
      · exact old (.inl z)
      · exact g5 a z
      · exact old (.inr z)
    · rw [slot_set_same hi, hr]
      rcases hs' with rfl | rfl
      · exact ⟨_, rfl, rd⟩
      · exact ⟨_, rfl, rd⟩
  unfold setP at hs
  cases es : ρ[i]? with
  | none => rw [es] at hs; cases hs
  | some s =>
    have hi := lt_of_get es
    have esl := slot_get es
    have so := S.sl i
    rw [esl] at so h1
    rw [es] at hs
    cases s with
    | ow d1 =>
      cases h1
      obtain ⟨r, hr, rr⟩ := so
      refine key hr rr (fun d' hd => ⟨.ow d', .inl rfl, ?_⟩) hi
      have : some (ρ.set i (.ow d')) = some ρ' := by rw [← hs]; simp [hd]
      exact (Option.some.inj this).symm
    | mw d1 =>
      cases h1
      obtain ⟨r, hr, rr⟩ := so
      refine key hr rr (fun d' hd => ⟨.mw d', .inr rfl, ?_⟩) hi
      have : some (ρ.set i (.mw d')) = some ρ' := by rw [← hs]; simp [hd]
      exact (Option.some.inj this).symm
    | un => cases hs
    | fz d1 => cases hs
    | bw d1 => cases hs
theorem OpdR.shrink {fp fp'} {v : V} {o : Opd} {q : List Addr} (r : OpdR K H (Bs A' fp) σ v o q) (h : ∀ a, Bs A' fp' a → Bs A' fp a) : OpdR K H (Bs A' fp') σ v o q := by
  have m : ∀ {v d q}, Rp K H (Bs A' fp) v d q → Rp K H (Bs A' fp') v d q := fun r => r.mono (fun _ _ e _ => e) fun a b => .inl (h a b)
  cases o with
  | fz d => exact ⟨r.1, m r.2⟩
  | ow d => exact m r
  | pt i p => exact r
/-- an operand is handed on for good -/
theorem alias_ok (S : SI K A₀ A' σ H ρ fp) {v : V} {o o' : Opd} {q : List Addr} (r : OpdR K H (Bs A' fp) σ v o q) (h : alias_ ρ o = some (o', ρ')) :
    ∃ fp', SI K A₀ A' σ H ρ' fp' ∧ (∀ a, Bs A' fp' a → Bs A' fp a) ∧ OpdR K H (Bs A' fp') σ v o' q ∧ (∀ i p, o' ≠ .pt i p) := by
  cases o with
  | fz d =>
    have e : some (Opd.fz d, ρ) = some (o', ρ') := h
    cases e
    exact ⟨fp, S, fun _ b => b, r, fun _ _ z => nomatch z⟩
  | ow d =>
    have e : some (Opd.ow d, ρ) = some (o', ρ') := h
    cases e
    exact ⟨fp, S, fun _ b => b, r, fun _ _ z => nomatch z⟩
  | pt i p =>
    obtain ⟨rfl, w, hw, hv⟩ := r
    cases p with
    | nil =>
      have ew : v = w := hv
      subst ew
      rw [alias_] at h
      cases es : ρ[i]? with
      | none => rw [es] at h; cases h
      | some s =>
        rw [es] at h
        have hi := lt_of_get es
        have so := S.sl i
        rw [slot_get es] at so
        cases s with
        | ow d =>
          have e : some (Opd.fz (freeze d), ρ.set i (.fz (freeze d))) = some (o', ρ') := h
          cases e
          obtain ⟨u, hu, ru⟩ := so
          rw [hw] at hu
          cases hu
          have sub : ∀ a, Bs A' (fup fp i []) a → Bs A' fp a ∧ a ∉ fp i := fun a b => by
            rcases b with b | ⟨j, b⟩
            · exact ⟨.inl b, fun z => S.na i a z b⟩
            · by_cases e : j = i
              · rw [e, fup_same] at b; cases b
              · rw [fup_ne e] at b
                exact ⟨.inr ⟨j, b⟩, fun z => e (S.dj j i a b z)⟩
          have rf := ru.freeze sub
          refine ⟨fup fp i [], ?_, fun a b => (sub a b).1, ⟨rfl, rf⟩, fun _ _ z => nomatch z⟩
          exact S.chg i (by rw [List.length_set]; exact S.len) (fun _ _ => rfl) (fun j hj => slot_set hj) S.sub (fun a b => .inl b) S.tr .nil (fun _ z => nomatch z) (fun _ z => nomatch z) (fun _ _ e _ => e)
            (by rw [slot_set_same hi, hw]; exact ⟨rfl, _, rfl, rf⟩)
        | un => cases h
        | fz d => cases h
        | bw d => cases h
        | mw d => cases h
    | cons s p =>
      rw [alias_] at h
      cases eg : getP ρ i (s :: p) with
      | none => rw [eg] at h; cases h
      | some d =>
        rw [eg] at h
        dsimp only at h
        cases es : setP ρ i (s :: p) (freeze d) with
        | none => rw [es] at h; cases h
        | some ρ2 =>
          rw [es] at h
          have e : some (Opd.fz (freeze d), ρ2) = some (o', ρ') := h
          cases e
          obtain ⟨f, pre, post, k1, k2, k3⟩ := S.putAt eg hw hv es
          have nd := S.nd i
          rw [k1, List.nodup_append] at nd
          obtain ⟨n1, n2, n3⟩ := nd
          rw [List.nodup_append] at n2
          obtain ⟨m1, m2, m3⟩ := n2
          have sub : ∀ a, Bs A' (fup fp i (pre ++ ([] ++ post))) a → Bs A' fp a ∧ a ∉ f := fun a b => by
            rcases b with b | ⟨j, b⟩
            · exact ⟨.inl b, fun z => S.na i a (by rw [k1]; simp [z]) b⟩
            · by_cases e : j = i
              · rw [e, fup_same] at b
                have b' : a ∈ pre ∨ a ∈ post := by simpa using b
                rcases b' with b' | b'
                · exact ⟨.inr ⟨i, by rw [k1]; simp [b']⟩, fun z => n3 a b' a (List.mem_append_left _ z) rfl⟩
                · exact ⟨.inr ⟨i, by rw [k1]; simp [b']⟩, fun z => m3 a z a b' rfl⟩
              · rw [fup_ne e] at b
                exact ⟨.inr ⟨j, b⟩, fun z => e (S.dj j i a b (by rw [k1]; simp [z]))⟩
          have rf := k2.freeze sub
          refine ⟨_, k3 (A₁ := A') (H₁ := H) (f' := []) S.sub (fun a b => .inl b) S.tr .nil (fun _ z => nomatch z) (fun _ z => nomatch z) (fun _ _ e _ => e) rf, fun a b => (sub a b).1, ⟨rfl, rf⟩, fun _ _ z => nomatch z⟩
/-- several operands -/
inductive OpdsR (K : KW) (H : Hp) (B : Addr → Prop) (σ : L2.St) : List V → List Opd → List Addr → Prop
  | nil : OpdsR K H B σ [] [] []
  | cons {v : V} {o : Opd} {q : List Addr} {vs : List V} {os : List Opd} {Q : List Addr} : OpdR K H B σ v o q → OpdsR K H B σ vs os Q → OpdsR K H B σ (v :: vs) (o :: os) (q ++ Q)
theorem OpdsR.shrink {fp fp'} : ∀ {vs : List V} {os : List Opd} {Q : List Addr}, OpdsR K H (Bs A' fp) σ vs os Q → (∀ a, Bs A' fp' a → Bs A' fp a) → OpdsR K H (Bs A' fp') σ vs os Q
  | _, _, _, .nil, _ => .nil
  | _, _, _, .cons r t, h => .cons (r.shrink h) (t.shrink h)
theorem OpdR.val {v : V} {o : Opd} {q : List Addr} (r : OpdR K H B σ v o q) (h : ∀ i p, o ≠ .pt i p) : Rp K H B v o.val q := by
  cases o with
  | fz d => obtain ⟨rfl, r⟩ := r; exact r
  | ow d => exact r
  | pt i p => exact (h i p rfl).elim
theorem aliases_ok : ∀ {os : List Opd} {vs : List V} {Q : List Addr} {ρ : Env} {fp : Nat → List Addr} {ds : List D} {b : Bool} {ρ' : Env}, SI K A₀ A' σ H ρ fp → OpdsR K H (Bs A' fp) σ vs os Q → aliases ρ os = some (ds, b, ρ') →
    ∃ fp', SI K A₀ A' σ H ρ' fp' ∧ (∀ a, Bs A' fp' a → Bs A' fp a) ∧ RpL K H (Bs A' fp') vs ds Q ∧ (b = true → Q = [])
  | [], _, _, ρ, fp, ds, b, ρ', S, .nil, h => by
    have e : some ([], true, ρ) = some (ds, b, ρ') := h
    cases e
    exact ⟨fp, S, fun _ b => b, .nil, fun _ => rfl⟩
  | o :: os, _, _, ρ, fp, ds, b, ρ', S, .cons (v := v) (q := q) (vs := vs) (Q := Q) r t, h => by
    rw [aliases] at h
    cases e1 : alias_ ρ o with
    | none => rw [e1] at h; cases h
    | some x =>
      obtain ⟨o', ρ1⟩ := x
      rw [e1] at h
      obtain ⟨fp1, S1, s1, r1, n1⟩ := alias_ok S r e1
      dsimp only at h
      cases e2 : aliases ρ1 os with
      | none => rw [e2] at h; cases h
      | some y =>
        obtain ⟨ds1, b1, ρ2⟩ := y
        rw [e2] at h
        obtain ⟨fp2, S2, s2, r2, n2⟩ := aliases_ok S1 (t.shrink s1) e2
        dsimp only at h
        simp only [Option.some.injEq, Prod.mk.injEq] at h
        obtain ⟨rfl, hb0, rfl⟩ := h
        refine ⟨fp2, S2, fun a b => s1 a (s2 a b), .cons ((r1.shrink s2).val n1) r2, fun hb => ?_⟩
        rw [← hb0] at hb
        cases o' with
        | fz d => rw [r1.1, n2 hb] <;> rfl
        | ow d => cases hb
        | pt i p => cases hb
end
end Rw

set_option Elab.async false
set_option linter.all false
set_option maxRecDepth 100000
/-! RwCa: dicts by values. -/
namespace Rw
open PySem PySem.Spec PyProof.Rows L2
theorem RpL.cons' {K : KW} {H : Hp} {B : Addr → Prop} {vs : List V} {d : D} {ds : List D} {q : List Addr} (l : RpL K H B vs (d :: ds) q) : ∃ v vs' q1 q2, vs = v :: vs' ∧ Rp K H B v d q1 ∧ RpL K H B vs' ds q2 ∧ q = q1 ++ q2 := by
  cases l with
  | cons r l => exact ⟨_, _, _, _, rfl, r, l, rfl⟩
/-! ### keys -/
mutual
theorem nk_depth : ∀ (n : Nat) (d : D), tkey n d = true → (nk d).depth ≤ n
  | _, .non, _ => by simp [nk, NestedKey.depth]
  | _, .bl _, _ => by simp [nk, NestedKey.depth]
  | _, .int _, _ => by simp [nk, NestedKey.depth]
  | _, .str _, _ => by simp [nk, NestedKey.depth]
  | n + 1, .tup xs, h => by
    have := nk_depthL n xs (by simpa [tkey] using h)
    rw [nk, NestedKey.depth]
    omega
  | 0, .tup _, h => by simp [tkey] at h
  | n, .lst _ _, h => by cases n <;> simp [tkey] at h
  | n, .dct _ _, h => by cases n <;> simp [tkey] at h
  | n, .obj _ _ _, h => by cases n <;> simp [tkey] at h
  | n, .scr _, h => by cases n <;> simp [tkey] at h
theorem nk_depthL : ∀ (n : Nat) (ds : List D), tkeyL n ds = true → NestedKey.depthAll (nkL ds) ≤ n
  | _, [], _ => by simp [nkL, NestedKey.depthAll]
  | n, x :: t, h => by
    rw [tkeyL, Bool.and_eq_true] at h
    have h1 := nk_depth n x h.1
    have h2 := nk_depthL n t h.2
    rw [nkL, NestedKey.depthAll]
    omega
end
mutual
theorem eqD_nk : ∀ (n m : Nat) (a b : D), tkey n a = true → tkey m b = true → eqD a b = NestedKey.beq (nk a) (nk b)
  | n, m, a, b, ha, hb => by
    cases a with
    | non => cases b <;> first | rfl | (cases m <;> simp [tkey] at hb)
    | bl x =>
      cases b with
      | non => rfl
      | bl y => cases x <;> cases y <;> rfl
      | int j => simp only [eqD, nk, NestedKey.beq]; exact Bool.beq_eq_decide_eq _ _
      | str y => rfl
      | tup ys => rfl
      | _ => cases m <;> simp [tkey] at hb
    | int i =>
      cases b with
      | non => rfl
      | bl y => simp only [eqD, nk, NestedKey.beq]; exact Bool.beq_eq_decide_eq _ _
      | int j => simp only [eqD, nk, NestedKey.beq]; exact Bool.beq_eq_decide_eq _ _
      | str y => rfl
      | tup ys => rfl
      | _ => cases m <;> simp [tkey] at hb
    | str x =>
      cases b with
      | str y =>
        simp only [eqD, nk, NestedKey.beq]
        rw [Bool.beq_eq_decide_eq]
        congr 1
        exact propext ⟨fun h => by rw [h], fun h => by
          have := congrArg (fun s : Str => s.cps.toList) h
          simpa using this⟩
      | non => rfl
      | bl y => rfl
      | int j => rfl
      | tup ys => rfl
      | _ => cases m <;> simp [tkey] at hb
    | tup xs =>
      cases b with
      | tup ys =>
        simp only [eqD, nk, NestedKey.beq]
        cases n with
        | zero => simp [tkey] at ha
        | succ n =>
          cases m with
          | zero => simp [tkey] at hb
          | succ m => exact eqL_nk n m xs ys (by simpa [tkey] using ha) (by simpa [tkey] using hb)
      | non => rfl
      | bl y => rfl
      | int j => rfl
      | str y => rfl
      | _ => cases m <;> simp [tkey] at hb
    | _ => cases n <;> simp [tkey] at ha
theorem eqL_nk : ∀ (n m : Nat) (xs ys : List D), tkeyL n xs = true → tkeyL m ys = true → eqL xs ys = NestedKey.beqAll (nkL xs) (nkL ys)
  | n, m, [], [], _, _ => rfl
  | n, m, [], _ :: _, _, _ => rfl
  | n, m, _ :: _, [], _, _ => rfl
  | n, m, x :: xs, y :: ys, ha, hb => by
    rw [tkeyL, Bool.and_eq_true] at ha hb
    rw [eqL, nkL, nkL, NestedKey.beqAll, eqD_nk n m x y ha.1 hb.1, eqL_nk n m xs ys ha.2 hb.2]
end
theorem kcl_t {k : D} (h : kcl k = some true) : ∃ xs, k = .tup xs ∧ tkeyL 7 xs = true ∧ tkey 8 k = true := by
  cases k with
  | tup xs =>
    have h : (if tkeyL 7 xs = true then some true else none) = some true := h
    split at h
    · rename_i hk; exact ⟨xs, rfl, hk, by simpa [tkey] using hk⟩
    · cases h
  | int i => cases h
  | str x => cases h
  | _ => cases h
theorem kcl_f {k : D} (h : kcl k = some false) : (∃ i, k = .int i) ∨ ∃ x, k = .str x := by
  cases k with
  | tup xs =>
    have h : (if tkeyL 7 xs = true then some true else none) = some false := h
    split at h <;> cases h
  | int i => exact .inl ⟨i, rfl⟩
  | str x => exact .inr ⟨x, rfl⟩
  | _ => cases h
/-- keys of one class are the same as the kit says -/
theorem eqD_t {j k : D} (hj : kcl j = some true) (hk : kcl k = some true) : eqD j k = decide (nk j = nk k) := by
  obtain ⟨_, _, _, h1⟩ := kcl_t hj
  obtain ⟨_, _, _, h2⟩ := kcl_t hk
  rw [eqD_nk 8 8 j k h1 h2, NestedKey.decide_eq]
theorem eqD_f {j k : D} (hj : kcl j = some false) (hk : kcl k = some false) : eqD j k = decide (fk j = fk k) := by
  rcases kcl_f hj with ⟨i, rfl⟩ | ⟨x, rfl⟩ <;> rcases kcl_f hk with ⟨i', rfl⟩ | ⟨x', rfl⟩
  · simp only [eqD, fk]
    rw [Bool.beq_eq_decide_eq]
    congr 1
    exact propext ⟨fun h => by rw [h], fun h => by cases h; rfl⟩
  · simp [eqD, fk]
  · simp [eqD, fk]
  · simp only [eqD, fk]
    rw [Bool.beq_eq_decide_eq]
    congr 1
    exact propext ⟨fun h => by rw [h], fun h => by
      have := Sum.inr.inj h
      have := congrArg (fun s : Str => s.cps.toList) this
      simpa using this⟩
section
variable {X : Cx} {pins : List (Addr × Obj)} {σ : L2.St} {H : Hp} {s : Shared} {B : Addr → Prop}
mutual
/-- a key stands in the heap -/
theorem key_is (I : L2.Inv X pins σ H s) : ∀ (n : Nat) (d : D) {v : V} {q : List Addr} {u : Value}, tkey n d = true → Rp X.kw H B v d q → RelV v u → NestedIs s.heap (nk d) u
  | _, .non, v, q, u, _, r, ru => by cases r; cases (show u = Value.none from ru); exact .none
  | _, .bl b, v, q, u, _, r, ru => by cases r; cases (show u = Value.bool b from ru); exact .bool rfl
  | _, .int i, v, q, u, _, r, ru => by cases r; obtain ⟨t, rfl⟩ := (show ∃ t, u = Value.int i t from ru); exact .int i t
  | _, .str x, v, q, u, _, r, ru => by cases r; obtain ⟨t, rfl⟩ := (show ∃ t, u = Value.str ⟨x.toArray⟩ t from ru); exact .text _ t
  | n + 1, .tup xs, v, q, u, h, r, ru => by
    cases r with
    | tup t l =>
      cases (show u = Value.ref _ from ru)
      obtain ⟨its, rv, ⟨o, ho, hc, m, hd⟩, hz⟩ := I.tuple t.sq
      exact .tup ho hc hd (key_all I n xs (by simpa [tkey] using h) l (by simpa using rv))
  | 0, .tup _, _, _, _, h, _, _ => by simp [tkey] at h
  | n, .lst _ _, _, _, _, h, _, _ => by cases n <;> simp [tkey] at h
  | n, .dct _ _, _, _, _, h, _, _ => by cases n <;> simp [tkey] at h
  | n, .obj _ _ _, _, _, _, h, _, _ => by cases n <;> simp [tkey] at h
  | n, .scr _, _, _, _, h, _, _ => by cases n <;> simp [tkey] at h
theorem key_all (I : L2.Inv X pins σ H s) : ∀ (n : Nat) (ds : List D) {vs : List V} {q : List Addr} {us : List Value}, tkeyL n ds = true → RpL X.kw H B vs ds q → Vals vs us → NestedAll s.heap (nkL ds) us
  | _, [], vs, q, us, _, l, ru => by cases l; cases ru; exact .nil
  | n, x :: t, vs, q, us, h, l, ru => by
    rw [tkeyL, Bool.and_eq_true] at h
    cases l with
    | cons r l =>
      cases ru with
      | cons r1 r2 => exact .cons (key_is I n x h.1 r r1) (key_all I n t h.2 l r2)
end
theorem key_of8 (I : L2.Inv X pins σ H s) {k : D} {a : Addr} {q : List Addr} (hk : kcl k = some true) (r : Rp X.kw H B (.ref a) k q) : (nestedKind X.prog X.w).is s.heap (nk k) a := by
  obtain ⟨xs, _, _, h⟩ := kcl_t hk
  exact ⟨key_is I 8 k h r rfl, nk_depth 8 k h⟩
abbrev Ent3 := fun (a : NestedKey × Addr × V) (b : NestedKey × Addr × Value) => a.1 = b.1 ∧ a.2.1 = b.2.1 ∧ RelV a.2.2 b.2.2
/-- the entries' keys stand in the heap -/
theorem his_of (I : L2.Inv X pins σ H s) : ∀ {ks : List D} {aa : List Addr} {vs : List V} {q : List Addr} {ys : List (NestedKey × Addr × Value)}, (∀ k ∈ ks, kcl k = some true) → RpL X.kw H B (aa.map V.ref) ks q →
    Paired Ent3 ((ks.map nk).zip (aa.zip vs)) ys → ∀ y ∈ ys, (nestedKind X.prog X.w).is s.heap y.1 y.2.1
  | [], aa, vs, q, ys, _, l, pr, y, hy => by
    cases aa with
    | nil => cases pr; cases hy
    | cons _ _ => cases l
  | k :: ks, aa, vs, q, ys, hk, l, pr, y, hy => by
    cases aa with
    | nil => cases l
    | cons a aa =>
      cases l with
      | cons r l =>
        cases vs with
        | nil => cases pr; cases hy
        | cons v vs =>
          cases pr with
          | cons p pr =>
            rcases List.mem_cons.mp hy with e | hy
            · rw [e, ← p.1, ← p.2.1]
              exact key_of8 I (hk k List.mem_cons_self) r
            · exact his_of I (fun k' h' => hk k' (List.mem_cons_of_mem _ h')) l pr y hy
/-- what the entries hold at a key -/
theorem look_t {k : D} (hk : kcl k = some true) : ∀ {kvs : List (D × D)} {aa : List Addr} {vs : List V} {ys : List (NestedKey × Addr × Value)}, (∀ j ∈ kD kvs, kcl j = some true) → aa.length = vs.length →
    RpL X.kw H B vs (vD kvs) [] → Paired Ent3 (((kD kvs).map nk).zip (aa.zip vs)) ys → match lookD k kvs with
      | none => atKey ys (nk k) = none
      | some d => ∃ v a u, Rp X.kw H B v d [] ∧ RelV v u ∧ atKey ys (nk k) = some (a, u)
  | [], aa, vs, ys, _, _, l, pr => by cases pr; rfl
  | (j, d) :: kvs, aa, vs, ys, hj, hl, l, pr => by
    obtain ⟨v, vs', q1, q2, e1, r, l', e2⟩ := RpL.cons' (ds := vD kvs) l
    obtain ⟨rfl, rfl⟩ := List.append_eq_nil_iff.mp e2.symm
    subst e1
    cases aa with
    | nil => simp at hl
    | cons a aa =>
      cases pr with
      | cons p pr =>
        rename_i y ys
        have hj0 := hj j List.mem_cons_self
        rw [lookD, eqD_t hj0 hk]
        have hy : y.1 = nk j := p.1.symm
        unfold atKey
        rw [List.find?_cons, hy]
        by_cases e : nk j = nk k
        · rw [decide_eq_true e]
          exact ⟨v, y.2.1, y.2.2, r, p.2.2, rfl⟩
        · rw [decide_eq_false e]
          exact look_t hk (fun j' h' => hj j' (List.mem_cons_of_mem _ h')) (by simpa using hl) l' pr
theorem look_f {k : D} (hk : kcl k = some false) : ∀ {kvs : List (D × D)} {vs : List V}, (∀ j ∈ kD kvs, kcl j = some false) → RpL X.kw H B vs (vD kvs) [] → match lookD k kvs with
      | none => valV (((kD kvs).map fk).zip vs) (fk k) = none
      | some d => ∃ v, Rp X.kw H B v d [] ∧ valV (((kD kvs).map fk).zip vs) (fk k) = some v
  | [], vs, _, l => rfl
  | (j, d) :: kvs, vs, hj, l => by
    obtain ⟨v, vs', q1, q2, e1, r, l', e2⟩ := RpL.cons' (ds := vD kvs) l
    obtain ⟨rfl, rfl⟩ := List.append_eq_nil_iff.mp e2.symm
    subst e1
    have hj0 := hj j List.mem_cons_self
    rw [lookD, eqD_f hj0 hk]
    show match (if decide (fk j = fk k) = true then some d else lookD k kvs) with
      | none => valV ((fk j, v) :: ((kD kvs).map fk).zip vs') (fk k) = none
      | some d => ∃ v', Rp X.kw H B v' d [] ∧ valV ((fk j, v) :: ((kD kvs).map fk).zip vs') (fk k) = some v'
    by_cases e : fk j = fk k
    · rw [decide_eq_true e, valV_pos e]
      exact ⟨v, r, rfl⟩
    · rw [decide_eq_false e, valV_neg e]
      exact look_f hk (fun j' h' => hj j' (List.mem_cons_of_mem _ h')) l'
/-- a dict's data: where it stands -/
theorem Rp.dct {K : KW} {B : Addr → Prop} {x : V} {o : Bool} {kvs : List (D × D)} {q : List Addr} (r : Rp K H B x (.dct o kvs) q) : ∃ p as vs, x = .ref p ∧ DctAt K H p (kD kvs) as vs ∧ RpL K H B as (kD kvs) [] ∧ RpL K H B vs (vD kvs) [] ∧ (q = [] ∨ q = [p]) := by
  cases r with
  | dE t => exact ⟨_, [], [], rfl, .inl ⟨t.1, rfl, rfl, fun _ z => nomatch z⟩, .nil, .nil, .inl rfl⟩
  | dz t n l m => exact ⟨_, _, _, rfl, t, l, m, .inl rfl⟩
  | dw t l m => exact ⟨_, _, _, rfl, t, l, m, .inr rfl⟩
theorem kall_mem {c : Bool} {kvs : List (D × D)} (h : kall c kvs = true) : ∀ k ∈ kD kvs, kcl k = some c := fun k hk => by
  obtain ⟨p, hp, rfl⟩ := List.mem_map.mp hk
  exact eq_of_beq (List.all_eq_true.mp h p hp)
theorem dct_t {kvs : List (D × D)} {as vs : List V} {p : Addr} (I : L2.Inv X pins σ H s) (t : DctAt X.kw H p (kD kvs) as vs) (l : RpL X.kw H B as (kD kvs) []) (m : RpL X.kw H B vs (vD kvs) []) (hc : kall true kvs = true) :
    ∃ ys, s.heap.DictOfH (nestedKind X.prog X.w) p ys ∧ ys.length ≤ sizeLine ∧ (p == sysModules) = false ∧ (∀ k, kcl k = some true → match lookD k kvs with
      | none => atKey ys (nk k) = none
      | some d => ∃ v a u, Rp X.kw H B v d [] ∧ RelV v u ∧ atKey ys (nk k) = some (a, u)) ∧
      ∃ aa : List Addr, as = aa.map V.ref ∧ aa.length = vs.length ∧ Paired Ent3 (((kD kvs).map nk).zip (aa.zip vs)) ys := by
  rcases t with ⟨h1, h2, h3, h4⟩ | ⟨aa, h1, h2, h3, h5, h6, h4⟩
  · cases kvs with
    | nil =>
      obtain ⟨z, hd, ws, rel, o, es, ep, ho, ex, dat, ko, pr, nd⟩ := dk_of I.hok (show H p = some (.dK []) from h1)
      cases rel
      have es0 : es.toList = [] := by
        generalize es.toList = l0 at pr
        cases pr; rfl
      cases m
      exact ⟨[], ⟨o, es, ep, ho, ex, dat, es0, (fun _ z => nomatch z), .nil⟩, Nat.zero_le _, hd, fun k _ => rfl, [], h2, rfl, .nil⟩
    | cons q kvs =>
      have e1 := h4 q.1 List.mem_cons_self
      have e2 := kall_mem hc q.1 List.mem_cons_self
      rw [e1] at e2
      cases e2
  · obtain ⟨⟨ys, pr, hz, hd, nd, o, es, ep, ho, ex, dat, e⟩, _, _⟩ := (show ObjOk X.prog X.w H s.heap p (dnO X.w p _) from I.hok p _ h1)
    subst h2
    exact ⟨ys, ⟨o, es, ep, ho, ex, dat, e, his_of I h4 l pr, nd⟩, hz, hd, fun k hk => look_t hk h4 h5 m pr, aa, rfl, h5, pr⟩
theorem dct_f {K : KW} {kvs : List (D × D)} {as vs : List V} {p : Addr} (t : DctAt K H p (kD kvs) as vs) (hc : kall false kvs = true) : H p = some (.dK (((kD kvs).map fk).zip vs)) ∧ (kD kvs).length = vs.length := by
  rcases t with ⟨h1, h2, h3, h4⟩ | ⟨aa, h1, h2, h3, h5, h6, h4⟩
  · exact ⟨h1, h3⟩
  · cases kvs with
    | nil => exact (h6 rfl).elim
    | cons q kvs =>
      have e1 := h4 q.1 List.mem_cons_self
      have e2 := kall_mem hc q.1 List.mem_cons_self
      rw [e1] at e2
      cases e2
theorem dGet_some {kvs : List (D × D)} {k : D} {r : Option D} (h : dGet kvs k = some r) : ∃ c, kcl k = some c ∧ kall c kvs = true ∧ r = lookD k kvs := by
  unfold dGet at h
  split at h
  · rename_i c hc
    split at h
    · rename_i ha; cases h; exact ⟨c, hc, ha, rfl⟩
    · cases h
  · cases h
theorem key_ref {k : D} {y : V} {q : List Addr} (hk : kcl k = some true) (r : Rp X.kw H B y k q) : ∃ b, y = .ref b := by
  obtain ⟨xs, rfl, _⟩ := kcl_t hk
  cases r with
  | tup t l => exact ⟨_, rfl⟩
theorem key_kV {k : D} {y : V} {q : List Addr} (hk : kcl k = some false) (r : Rp X.kw H B y k q) : y = kV (fk k) := by
  rcases kcl_f hk with ⟨i, rfl⟩ | ⟨x, rfl⟩
  · cases r; rfl
  · cases r; rfl
/-- x in d -/
theorem dct_in (hu : X.A.units + 64 < cLine) {kvs : List (D × D)} {k : D} {r : Option D} {o : Bool} {x y : V} {v u : Value} {q1 q2 : List Addr} {Q : Value → Shared → Prop} (I : L2.Inv X pins σ H s) (hg : dGet kvs k = some r) (r1 : Rp X.kw H B x k q1) (r2 : Rp X.kw H B y (.dct o kvs) q2) (rx : RelV x v) (ry : RelV y u)
    (h : ∀ s', L2.Inv X pins σ H s' → Q (.bool r.isSome) s') : wpAny (model X.prog X.w) X.A (compareOp .In v u) Q X.xe s := by
  obtain ⟨c, hk, hc, rfl⟩ := dGet_some hg
  obtain ⟨p, as, vs, rfl, t, l, m, _⟩ := r2.dct
  cases (show u = Value.ref p from ry)
  cases c with
  | true =>
    obtain ⟨b, rfl⟩ := key_ref hk r1
    cases (show v = Value.ref b from rx)
    obtain ⟨ys, dd, hz, hd, hl, _⟩ := dct_t I t l m hc
    refine wpAny_in_heap (show X.A.in1.units + 8 < cLine by show X.A.units + 1 + 8 < cLine; omega) (key_of8 I hk r1) hd dd ?_
    have := hl k hk
    cases e : lookD k kvs with
    | none => rw [e] at this h; rw [this]; exact h _ (I.tok _)
    | some d => rw [e] at this h; obtain ⟨_, _, _, _, _, e2⟩ := this; rw [e2]; exact h _ (I.tok _)
  | false =>
    obtain ⟨h1, h2⟩ := dct_f t hc
    have ey := key_kV hk r1
    subst ey
    refine d_in (by omega) I (DGet.k h1) rx fun s' I' => ?_
    have := look_f (X := X) (B := B) hk (kall_mem hc) m
    cases e : lookD k kvs with
    | none => rw [e] at this h; rw [this]; exact h _ I'
    | some d => rw [e] at this h; obtain ⟨_, _, e2⟩ := this; rw [e2]; exact h _ I'
theorem dct_notin (hu : X.A.units + 64 < cLine) {kvs : List (D × D)} {k : D} {r : Option D} {o : Bool} {x y : V} {v u : Value} {q1 q2 : List Addr} {Q : Value → Shared → Prop} (I : L2.Inv X pins σ H s) (hg : dGet kvs k = some r) (r1 : Rp X.kw H B x k q1) (r2 : Rp X.kw H B y (.dct o kvs) q2) (rx : RelV x v) (ry : RelV y u)
    (h : ∀ s', L2.Inv X pins σ H s' → Q (.bool (!r.isSome)) s') : wpAny (model X.prog X.w) X.A (compareOp .NotIn v u) Q X.xe s := by
  obtain ⟨c, hk, hc, rfl⟩ := dGet_some hg
  obtain ⟨p, as, vs, rfl, t, l, m, _⟩ := r2.dct
  cases (show u = Value.ref p from ry)
  cases c with
  | true =>
    obtain ⟨b, rfl⟩ := key_ref hk r1
    cases (show v = Value.ref b from rx)
    obtain ⟨ys, dd, hz, hd, hl, _⟩ := dct_t I t l m hc
    refine wpAny_notIn_heap (show X.A.in1.units + 8 < cLine by show X.A.units + 1 + 8 < cLine; omega) (key_of8 I hk r1) hd dd ?_
    have := hl k hk
    cases e : lookD k kvs with
    | none => rw [e] at this h; rw [this]; exact h _ (I.tok _)
    | some d => rw [e] at this h; obtain ⟨_, _, _, _, _, e2⟩ := this; rw [e2]; exact h _ (I.tok _)
  | false =>
    obtain ⟨h1, h2⟩ := dct_f t hc
    have ey := key_kV hk r1
    subst ey
    refine d_notIn (by omega) I (DGet.k h1) rx fun s' I' => ?_
    have := look_f (X := X) (B := B) hk (kall_mem hc) m
    cases e : lookD k kvs with
    | none => rw [e] at this h; rw [this]; exact h _ I'
    | some d => rw [e] at this h; obtain ⟨_, _, e2⟩ := this; rw [e2]; exact h _ I'
/-- d[k], there -/
theorem dct_get (hu : X.A.units + 64 < cLine) {kvs : List (D × D)} {k r : D} {o : Bool} {x y : V} {v u : Value} {q1 q2 : List Addr} {Q : VK} (I : L2.Inv X pins σ H s) (hg : dGet kvs k = some (some r)) (r1 : Rp X.kw H B x (.dct o kvs) q1) (r2 : Rp X.kw H B y k q2) (rx : RelV x v) (ry : RelV y u)
    (h : ∀ z, Rp X.kw H B z r [] → Q z H) : wpAny (model X.prog X.w) X.A (getItem v u) (EP X pins σ Q) X.xe s := by
  obtain ⟨c, hk, hc, hr⟩ := dGet_some hg
  obtain ⟨p, as, vs, rfl, t, l, m, _⟩ := r1.dct
  cases (show v = Value.ref p from rx)
  cases c with
  | true =>
    obtain ⟨b, rfl⟩ := key_ref hk r2
    cases (show u = Value.ref b from ry)
    obtain ⟨ys, dd, hz, hd, hl, _⟩ := dct_t I t l m hc
    have := hl k hk
    rw [← hr] at this
    obtain ⟨z, a, w, rz, rw', e2⟩ := this
    exact wpAny_getItem_heap (show X.A.in1.units + 8 < cLine by show X.A.units + 1 + 8 < cLine; omega) (key_of8 I hk r2) dd e2 ⟨z, H, I.tok _, rw', h z rz⟩
  | false =>
    obtain ⟨h1, h2⟩ := dct_f t hc
    have ey := key_kV hk r2
    subst ey
    have := look_f (X := X) (B := B) hk (kall_mem hc) m
    rw [← hr] at this
    obtain ⟨z, rz, e2⟩ := this
    refine d_getItem (by omega) I (v := z) (by have := DGet.k (k := fk k) h1; rw [e2] at this; exact this) ry fun w' s' I' rw' => ⟨z, H, I', rw', h z rz⟩
theorem dct_typeIs {kvs : List (D × D)} {o : Bool} {x : V} {v : Value} {q : List Addr} (I : L2.Inv X pins σ H s) (r : Rp X.kw H B x (.dct o kvs) q) (rx : RelV x v) : s.TypeIs v "dict" := by
  obtain ⟨p, as, vs, rfl, t, l, m, _⟩ := r.dct
  cases (show v = Value.ref p from rx)
  rcases t with ⟨h1, h2, h3, h4⟩ | ⟨aa, h1, h2, h3, h5, h6, h4⟩
  · obtain ⟨z, hd, ws, rel, o, es, ep, ho, ex, dat, _⟩ := dk_of I.hok h1
    exact ⟨o, ho, ex.1⟩
  · obtain ⟨⟨ys, pr, hz, hd, nd, o, es, ep, ho, ex, dat, e⟩, _, _⟩ := (show ObjOk X.prog X.w H s.heap p (dnO X.w p _) from I.hok p _ h1)
    exact ⟨o, ho, ex.1⟩
theorem dct_obj {kvs : List (D × D)} {o : Bool} {x : V} {v : Value} {q : List Addr} {a : Addr} (I : L2.Inv X pins σ H s) (r : Rp X.kw H B x (.dct o kvs) q) (rx : RelV x v) (ea : v = .ref a) : ∃ ob, s.heap.get? a = some ob ∧ ob.dict = none := by
  obtain ⟨p, as, vs, rfl, t, l, m, _⟩ := r.dct
  have ep : v = Value.ref p := rx
  rw [ep] at ea
  obtain rfl : p = a := by cases ea; rfl
  rcases t with ⟨h1, h2, h3, h4⟩ | ⟨aa, h1, h2, h3, h5, h6, h4⟩
  · obtain ⟨z, hd, ws, rel, o, es, ep, ho, ex, dat, _⟩ := dk_of I.hok h1
    exact ⟨o, ho, ex.2.1⟩
  · obtain ⟨⟨ys, pr, hz, hd, nd, o, es, ep, ho, ex, dat, e⟩, _, _⟩ := (show ObjOk X.prog X.w H s.heap p (dnO X.w p _) from I.hok p _ h1)
    exact ⟨o, ho, ex.2.1⟩
/-- d.get(k) -/
theorem dct_get1 (hu : X.A.units + 64 < cLine) {kvs : List (D × D)} {k : D} {r : Option D} {o : Bool} {x y : V} {v u : Value} {q1 q2 : List Addr} {Q : VK} (I : L2.Inv X pins σ H s) (hg : dGet kvs k = some r) (r1 : Rp X.kw H B x (.dct o kvs) q1) (r2 : Rp X.kw H B y k q2) (rx : RelV x v) (ry : RelV y u)
    (h : ∀ z, Rp X.kw H B z (r.getD .non) [] → Q z H) : wpAny (model X.prog X.w) X.A (call (.builtin "dict.get") [v, u]) (EP X pins σ Q) X.xe s := by
  obtain ⟨c, hk, hc, rfl⟩ := dGet_some hg
  obtain ⟨p, as, vs, rfl, t, l, m, _⟩ := r1.dct
  cases (show v = Value.ref p from rx)
  cases c with
  | true =>
    obtain ⟨b, rfl⟩ := key_ref hk r2
    cases (show u = Value.ref b from ry)
    obtain ⟨ys, dd, hz, hd, hl, _⟩ := dct_t I t l m hc
    have := hl k hk
    refine call_meetsIn PySem.F.slot_dict_get dd.typeIs PySem.F.entry_dict_get (PySem.F.args_dict_get_2 _ _) (meetsH_dict_get (nestedKind X.prog X.w) p b hd) ⟨show X.A.in1.units + 8 < cLine by show X.A.units + 1 + 8 < cLine; omega, nk k, ys, key_of8 I hk r2, dd, ?_⟩
    cases e : lookD k kvs with
    | none =>
      rw [e] at this h
      rw [this]
      exact ⟨.non, H, I.tok _, rfl, h _ .non⟩
    | some d =>
      rw [e] at this h
      obtain ⟨z, a, w, rz, rw', e2⟩ := this
      rw [e2]
      exact ⟨z, H, I.tok _, rw', h z rz⟩
  | false =>
    obtain ⟨h1, h2⟩ := dct_f t hc
    have ey := key_kV hk r2
    subst ey
    have := look_f (X := X) (B := B) hk (kall_mem hc) m
    refine d_get1 (by omega) I (DGet.k h1) ry fun w' s' I' rw' => ?_
    cases e : lookD k kvs with
    | none =>
      rw [e] at this h
      rw [this] at rw'
      exact ⟨.non, H, I', rw', h _ .non⟩
    | some d =>
      rw [e] at this h
      obtain ⟨z, rz, e2⟩ := this
      rw [e2] at rw'
      exact ⟨z, H, I', rw', h z rz⟩
end
end Rw

set_option Elab.async false
set_option linter.all false
set_option maxRecDepth 100000
/-! RwCb: d[k] = v. -/
namespace Rw
open PySem PySem.Spec PyProof.Rows L2
/-- the first that p takes is changed, or one is added -/
def upF {α : Type} (p : α → Bool) (g : α → α) (n : α) : List α → List α
  | [] => [n]
  | x :: r => if p x then g x :: r else x :: upF p g n r
theorem map_none {α : Type} {p : α → Bool} {g : α → α} : ∀ {l : List α}, (∀ x ∈ l, p x = false) → l.map (fun x => if p x = true then g x else x) = l
  | [], _ => rfl
  | x :: r, h => by
    rw [List.map_cons, h x List.mem_cons_self, map_none fun y hy => h y (List.mem_cons_of_mem _ hy)]
    rfl
theorem put_first {α : Type} {p : α → Bool} {g : α → α} {n : α} : ∀ {l : List α}, l.Pairwise (fun x y => p x = true → p y = false) →
    (if l.any p = true then l.map (fun x => if p x = true then g x else x) else l ++ [n]) = upF p g n l
  | [], _ => rfl
  | x :: r, h => by
    rw [List.pairwise_cons] at h
    have ih := put_first (g := g) (n := n) h.2
    rw [List.any_cons, List.map_cons, upF]
    by_cases e : p x = true
    · rw [e, Bool.true_or, if_pos rfl, if_pos rfl, if_pos rfl, map_none fun y hy => h.1 y hy e]
    · have e' : p x = false := by simpa using e
      rw [e', Bool.false_or]
      rw [if_neg (by decide : ¬ (false = true)), if_neg (by decide : ¬ (false = true)), ← ih]
      split <;> rfl
def stA (k : D) (a : V) : List (D × D) → List V → List V
  | (j, _) :: r, x :: xs => if eqD j k then x :: xs else x :: stA k a r xs
  | _, _ => [a]
def stV (k : D) (v : V) : List (D × D) → List V → List V
  | (j, _) :: r, x :: xs => if eqD j k then v :: xs else x :: stV k v r xs
  | _, _ => [v]
theorem stA_len {k : D} {a v d} : ∀ {kvs : List (D × D)} {as vs : List V}, (kD kvs).length = as.length → (kD kvs).length = vs.length → (stA k a kvs as).length = (kD (storeD k d kvs)).length ∧ (stV k v kvs vs).length = (kD (storeD k d kvs)).length
  | [], [], [], _, _ => ⟨rfl, rfl⟩
  | [], _ :: _, _, h, _ => by cases h
  | [], [], _ :: _, _, h => by cases h
  | _ :: _, [], _, h, _ => by cases h
  | _ :: _, _ :: _, [], _, h => by cases h
  | (j, u) :: r, x :: xs, y :: ys, h, h' => by
    have h1 : (kD r).length = xs.length := Nat.succ.inj h
    have h2 : (kD r).length = ys.length := Nat.succ.inj h'
    obtain ⟨i1, i2⟩ := stA_len (k := k) (a := a) (v := v) (d := d) h1 h2
    rw [stA, stV, storeD]
    split
    · exact ⟨congrArg Nat.succ h1.symm, congrArg Nat.succ h2.symm⟩
    · exact ⟨congrArg Nat.succ i1, congrArg Nat.succ i2⟩
theorem store_keys {c : Bool} {k d : D} (hk : kcl k = some c) : ∀ {kvs : List (D × D)}, (∀ j ∈ kD kvs, kcl j = some c) → (∀ j ∈ kD (storeD k d kvs), kcl j = some c) ∧ storeD k d kvs ≠ [] ∧ (kD (storeD k d kvs)).length ≤ kvs.length + 1
  | [], _ => ⟨fun j hj => by rw [List.mem_singleton.mp (show j ∈ [k] from hj)]; exact hk, by simp [storeD], Nat.le_refl _⟩
  | (j, u) :: r, h => by
    obtain ⟨i1, i2, i3⟩ := store_keys (d := d) hk (kvs := r) fun j' hj => h j' (List.mem_cons_of_mem _ hj)
    rw [storeD]
    split
    · exact ⟨h, by simp, by simp [kD]⟩
    · refine ⟨fun j' hj => ?_, by simp, by have : (kD ((j, u) :: storeD k d r)).length = (kD (storeD k d r)).length + 1 := rfl; rw [this]; simp; omega⟩
      rcases List.mem_cons.mp (show j' ∈ j :: kD (storeD k d r) from hj) with e | e
      · rw [e]; exact h j List.mem_cons_self
      · exact i1 j' e
/-- the parts behind it -/
theorem store_parts {K : KW} {H : Hp} {B : Addr → Prop} {k d : D} {a v : V} (ra : Rp K H B a k []) (rv : Rp K H B v d []) : ∀ {kvs : List (D × D)} {as vs : List V}, RpL K H B as (kD kvs) [] → RpL K H B vs (vD kvs) [] →
    RpL K H B (stA k a kvs as) (kD (storeD k d kvs)) [] ∧ RpL K H B (stV k v kvs vs) (vD (storeD k d kvs)) []
  | [], as, vs, l, m => by cases l; cases m; exact ⟨.one ra, .one rv⟩
  | (j, u) :: r, as, vs, l, m => by
    obtain ⟨x, xs, q1, q2, rfl, r1, l1, e1⟩ := RpL.cons' (ds := kD r) l
    obtain ⟨y, ys, q3, q4, rfl, r2, m1, e2⟩ := RpL.cons' (ds := vD r) m
    obtain ⟨rfl, rfl⟩ := List.append_eq_nil_iff.mp e1.symm
    obtain ⟨rfl, rfl⟩ := List.append_eq_nil_iff.mp e2.symm
    obtain ⟨i1, i2⟩ := store_parts ra rv l1 m1
    rw [stA, stV, storeD]
    split
    · exact ⟨.cons (fs := []) r1 l1, .cons (fs := []) rv m1⟩
    · exact ⟨.cons (fs := []) r1 i1, .cons (fs := []) r2 i2⟩
theorem put_f {k d : D} {v : V} (hk : kcl k = some false) : ∀ {kvs : List (D × D)} {vs : List V}, (∀ j ∈ kD kvs, kcl j = some false) → (kD kvs).length = vs.length →
    upF (fun kv : Key × V => decide (kv.1 = fk k)) (fun kv => (kv.1, v)) (fk k, v) (((kD kvs).map fk).zip vs) = ((kD (storeD k d kvs)).map fk).zip (stV k v kvs vs)
  | [], [], _, _ => rfl
  | [], _ :: _, _, h => by cases h
  | _ :: _, [], _, h => by cases h
  | (j, u) :: r, x :: xs, h, hl => by
    have ih := put_f (d := d) (v := v) hk (kvs := r) (vs := xs) (fun j' hj => h j' (List.mem_cons_of_mem _ hj)) (Nat.succ.inj hl)
    show upF _ _ _ ((fk j, x) :: ((kD r).map fk).zip xs) = _
    rw [upF, storeD, stV, eqD_f (h j List.mem_cons_self) hk]
    split
    · rfl
    · rw [ih]; rfl
theorem put_t {k d : D} {b : Addr} {v : V} (hk : kcl k = some true) : ∀ {kvs : List (D × D)} {aa : List Addr} {vs : List V}, (∀ j ∈ kD kvs, kcl j = some true) → (kD kvs).length = vs.length → aa.length = vs.length →
    ∃ aa' : List Addr, stA k (.ref b) kvs (aa.map V.ref) = aa'.map V.ref ∧ aa'.length = (stV k v kvs vs).length ∧
    upF (fun x : NestedKey × Addr × V => decide (x.1 = nk k)) (fun x => (x.1, x.2.1, v)) (nk k, b, v) (((kD kvs).map nk).zip (aa.zip vs)) = ((kD (storeD k d kvs)).map nk).zip (aa'.zip (stV k v kvs vs))
  | [], [], [], _, _, _ => ⟨[b], rfl, rfl, rfl⟩
  | [], _ :: _, [], _, _, h => by cases h
  | [], _, _ :: _, _, h, _ => by cases h
  | _ :: _, _, [], _, h, _ => by cases h
  | _ :: _, [], _ :: _, _, _, h => by cases h
  | (j, u) :: r, a :: aa, x :: xs, h, hl, hl' => by
    obtain ⟨aa', i1, i2, i3⟩ := put_t (d := d) (b := b) (v := v) hk (kvs := r) (aa := aa) (vs := xs) (fun j' hj => h j' (List.mem_cons_of_mem _ hj)) (Nat.succ.inj hl) (Nat.succ.inj hl')
    show ∃ aa' : List Addr, stA k (.ref b) ((j, u) :: r) (V.ref a :: aa.map V.ref) = aa'.map V.ref ∧ _ ∧ upF _ _ _ ((nk j, a, x) :: ((kD r).map nk).zip (aa.zip xs)) = _
    rw [stA, stV, storeD, upF, eqD_t (h j List.mem_cons_self) hk]
    split
    · exact ⟨a :: aa, rfl, by simp at hl' ⊢; exact hl', rfl⟩
    · exact ⟨a :: aa', by rw [i1] <;> rfl, by simp [i2], by rw [i3]; rfl⟩
theorem stA_flat {k d : D} : ∀ kvs : List (D × D), stA k (kV (fk k)) kvs ((kD kvs).map (kV ∘ fk)) = (kD (storeD k d kvs)).map (kV ∘ fk)
  | [] => rfl
  | (j, u) :: r => by
    have ih := stA_flat (k := k) (d := d) r
    show stA k _ ((j, u) :: r) (kV (fk j) :: (kD r).map (kV ∘ fk)) = _
    rw [stA, storeD]
    split
    · rfl
    · rw [ih]; rfl
theorem find_any {α : Type} {p : α → Bool} : ∀ l : List α, (l.find? p).isSome = l.any p
  | [] => rfl
  | x :: r => by
    rw [List.find?_cons, List.any_cons, ← find_any r]
    cases p x <;> rfl
section
variable {X : Cx} {pins : List (Addr × Obj)} {σ : L2.St} {H : Hp} {s : Shared} {B : Addr → Prop}
theorem Paired.upF {α β : Type} {F : α → β → Prop} {p : α → Bool} {p' : β → Bool} {g : α → α} {g' : β → β} {n : α} {n' : β} (hp : ∀ a b, F a b → p a = p' b) (hg : ∀ a b, F a b → F (g a) (g' b)) (hn : F n n') : ∀ {l : List α} {m : List β}, Paired F l m → Paired F (Rw.upF p g n l) (Rw.upF p' g' n' m)
  | _, _, .nil => .cons hn .nil
  | a :: l, b :: m, .cons r t => by
    show Paired F (if p a = true then g a :: l else a :: Rw.upF p g n l) (if p' b = true then g' b :: m else b :: Rw.upF p' g' n' m)
    rw [hp a b r]
    split
    · exact .cons (hg a b r) t
    · exact .cons r (Paired.upF hp hg hn t)
theorem upF_keys {κ α : Type} [DecidableEq κ] {f : α → κ} {k : κ} {g : α → α} {n : α} (hg : ∀ x, f (g x) = f x) (hn : f n = k) : ∀ {l : List α}, (l.map f).Nodup → ((upF (fun x => decide (f x = k)) g n l).map f).Nodup ∧ (∀ j ∈ (upF (fun x => decide (f x = k)) g n l).map f, j = k ∨ j ∈ l.map f) ∧ (upF (fun x => decide (f x = k)) g n l).length ≤ l.length + 1
  | [], _ => ⟨by simp [upF], fun j hj => .inl (by simpa [upF, hn] using hj), Nat.le_refl _⟩
  | x :: r, h => by
    rw [List.map_cons, List.nodup_cons] at h
    obtain ⟨i1, i2, i3⟩ := upF_keys hg hn h.2
    rw [upF]
    split
    · rename_i e
      refine ⟨?_, fun j hj => ?_, by simp⟩
      · rw [List.map_cons, hg, List.nodup_cons]; exact h
      · rw [List.map_cons, hg] at hj; exact .inr hj
    · rename_i e
      have e : f x ≠ k := by simpa using e
      refine ⟨?_, fun j hj => ?_, by simp; exact i3⟩
      · rw [List.map_cons, List.nodup_cons]
        exact ⟨fun z => (i2 _ z).elim e h.1, i1⟩
      · rcases List.mem_cons.mp hj with z | z
        · exact .inr (by rw [z]; exact List.mem_cons_self)
        · exact (i2 j z).imp id (List.mem_cons_of_mem _)
theorem pw_of {κ α : Type} [DecidableEq κ] {f : α → κ} {k : κ} : ∀ {l : List α}, (l.map f).Nodup → l.Pairwise (fun x y => decide (f x = k) = true → decide (f y = k) = false)
  | [], _ => .nil
  | x :: r, h => by
    rw [List.map_cons, List.nodup_cons] at h
    refine .cons (fun y hy e => ?_) (pw_of h.2)
    have e := of_decide_eq_true e
    refine decide_eq_false fun z => h.1 ?_
    rw [e, ← z]
    exact List.mem_map_of_mem hy
/-- d[k] = v, by values -/
def rSetDc (K : KW) : TSet := fun o i v H Q => ∃ (B : Addr → Prop) (p : Addr) (kvs kvs' : List (D × D)) (as vs : List V) (k d : D) (q : List Addr), o = .ref p ∧ DctAt K H p (kD kvs) as vs ∧ RpL K H B as (kD kvs) [] ∧ RpL K H B vs (vD kvs) [] ∧ Rp K H B i k q ∧ dPut kvs k d = some kvs' ∧
  ∀ ob, DctAt K (upd H p ob) p (kD kvs') (stA k i kvs as) (stV k v kvs vs) → Q (upd H p ob)
/-- by the keys' class: what a store needs, what it leaves -/
theorem dct_put {p : Addr} {i v : V} {iv u : Value} {Q : Hp → Prop} (I : Inv X pins σ H s) (ri : RelV i iv) (rv : RelV v u) (h : rSetDc X.kw (.ref p) i v H Q) :
    (∃ kvs k, i = kV k ∧ H p = some (.dK kvs) ∧ kvs.length < sizeLine ∧ ∀ s', Inv X pins σ (upd H p (.dK (putK kvs k v))) s' → ∃ H', Inv X pins σ H' s' ∧ Q H') ∨
    (∃ b k ys, iv = .ref b ∧ (nestedKind X.prog X.w).is s.heap k b ∧ s.heap.DictOfH (nestedKind X.prog X.w) p ys ∧ ys.length ≤ sizeLine ∧ ∀ h' t', h'.DictOfH (nestedKind X.prog X.w) p (storedH ys k b u) → Heap.SameBut p s.heap h' → ∃ H', Inv X pins σ H' { s with heap := h', toks := t' } ∧ Q H') := by
  obtain ⟨B, p, kvs, kvs', as, vs, k, d, q, eo, t, l, m, r, hp, hQ⟩ := h
  cases eo
  unfold dPut at hp
  split at hp
  · rename_i c hk
    split at hp
    · rename_i hc
      cases hp
      rw [Bool.and_eq_true] at hc
      obtain ⟨hc, hlt⟩ := hc
      have hlt := of_decide_eq_true hlt
      obtain ⟨sk1, sk2, sk3⟩ := store_keys (d := d) hk (kall_mem hc)
      have l1 : (kD kvs).length = as.length := l.len.symm
      have l2 : (kD kvs).length = vs.length := by rw [m.len]; simp [kD, vD]
      obtain ⟨sl1, sl2⟩ := stA_len (k := k) (a := i) (v := v) (d := d) l1 l2
      cases c with
      | false =>
        obtain ⟨h1, h2⟩ := dct_f t hc
        have ey := key_kV hk r
        subst ey
        refine .inl ⟨_, fk k, rfl, h1, by
          have e : (((kD kvs).map fk).zip vs).length = kvs.length := by rw [List.length_zip, List.length_map, ← l2]; simp [kD]
          rw [e, sizeLine_eq]; exact hlt, fun s' I' => ⟨_, I', hQ _ (.inl ⟨?_, ?_, by rw [sl2], sk1⟩)⟩⟩
        · rw [upd_same]
          congr 2
          obtain ⟨z, hd, ws, rel, o, es, ep, ho, ex, dat, ko, pr, nd⟩ := dk_of I.hok h1
          rw [← rel.keys] at nd
          rw [← put_f (d := d) (v := v) hk (kall_mem hc) l2, ← put_first (pw_of nd)]
          unfold putK
          simp only [decide_eq_true_eq]
        · have e0 : as = (kD kvs).map (kV ∘ fk) := by
            rcases t with ⟨_, h2, _⟩ | ⟨_, _, _, _, _, hn, h4⟩
            · exact h2
            · cases kvs with
              | nil => exact (hn rfl).elim
              | cons q0 kvs =>
                have e1 := h4 q0.1 List.mem_cons_self
                have e2 := kall_mem hc q0.1 List.mem_cons_self
                rw [e1] at e2; cases e2
          subst e0
          exact stA_flat kvs
      | true =>
        obtain ⟨b, rfl⟩ := key_ref hk r
        cases (show iv = Value.ref b from ri)
        obtain ⟨ys, dd, hz, hd, _, aa, ea, hla, pr⟩ := dct_t I t l m hc
        subst ea
        refine .inr ⟨b, nk k, ys, rfl, key_of8 I hk r, dd, hz, fun h' t' dd' hs => ?_⟩
        obtain ⟨o, es, ep, ho, ex, dat, e, his, nd⟩ := dd'
        have nd0 : (ys.map (·.1)).Nodup := by obtain ⟨_, _, _, _, _, _, _, _, n⟩ := dd; exact n
        have eS : storedH ys (nk k) b u = upF (fun x : NestedKey × Addr × Value => decide (x.1 = nk k)) (fun x => (x.1, x.2.1, u)) (nk k, b, u) ys := by
          rw [← put_first (pw_of nd0)]
          unfold storedH putAt
          rw [show (atKey ys (nk k)).isSome = ys.any (fun x => decide (x.1 = nk k)) by unfold atKey; rw [Option.isSome_map]; exact find_any ys]
          simp only [decide_eq_true_eq]
        obtain ⟨aa', i1, i2, i3⟩ := put_t (d := d) (b := b) (v := v) hk (kall_mem hc) l2 hla
        rw [eS] at e nd
        have pr' := Paired.upF (F := Ent3) (p := fun x : NestedKey × Addr × V => decide (x.1 = nk k)) (p' := fun x : NestedKey × Addr × Value => decide (x.1 = nk k)) (g := fun x => (x.1, x.2.1, v)) (g' := fun x => (x.1, x.2.1, u)) (n := (nk k, b, v)) (n' := (nk k, b, u)) (fun a b e => by rw [e.1]) (fun a b e => ⟨e.1, e.2.1, rv⟩) ⟨rfl, rfl, rv⟩ pr
        rw [i3] at pr'
        have hlen : (upF (fun x : NestedKey × Addr × Value => decide (x.1 = nk k)) (fun x => (x.1, x.2.1, u)) (nk k, b, u) ys).length ≤ sizeLine := by
          rw [← Paired.length pr', List.length_zip, List.length_map, List.length_zip, i2, sl2]
          have e1 : kvs.length < 16777216 := hlt
          rw [sizeLine_eq]
          simp
          omega
        have mu : Mut (H p) := by
          rcases t with ⟨h1, _⟩ | ⟨_, h1, _⟩
          · rw [h1]; exact True.intro
          · rw [h1]; exact True.intro
        have ok : ObjOk X.prog X.w (upd H p (dnO X.w p (((kD (storeD k d kvs)).map nk).zip (aa'.zip (stV k v kvs vs))))) h' p (dnO X.w p (((kD (storeD k d kvs)).map nk).zip (aa'.zip (stV k v kvs vs)))) := by
          refine ⟨⟨_, pr', hlen, hd, nd, o, es, ep, ho, ex, dat, e⟩, ⟨o, ho⟩, ?_⟩
          rintro h1 h2 ⟨ys', a1, a2, a3, a4, o', es', ep', a5, a6⟩ hk2
          exact ⟨ys', a1, a2, a3, a4, o', es', ep', hk2 _ a5, a6⟩
        refine ⟨_, d_write I mu hs ⟨o, ho⟩ ok, hQ _ (.inr ⟨aa', upd_same, i1, by rw [sl2], i2, fun z => ?_, sk1⟩)⟩
        exact sk2 (by cases h : storeD k d kvs with
          | nil => rfl
          | cons q0 r0 => rw [h] at z; cases z)
    · cases hp
  · cases hp
theorem set_dct (hu : X.A.units + 64 < cLine) : PSet X (rSetDc X.kw) := by
  intro pins s σ H o i v ov iv u Q I ro ri rv h
  obtain ⟨p, rfl⟩ : ∃ p, o = .ref p := by obtain ⟨_, p, _, _, _, _, _, _, _, eo, _⟩ := h; exact ⟨p, eo⟩
  cases (show ov = Value.ref p from ro)
  rcases dct_put I ri rv h with ⟨kvs, k, rfl, h1, hl, fin⟩ | ⟨b, k, ys, rfl, hk, dd, hz, fin⟩
  · exact d_setItem (by omega) I (DPut.k (v := v) h1 hl) ri rv fun s' I' => fin s' I'
  · exact wpAny_setItem_heap (hsz := hz) (show X.A.in1.units + 8 < cLine by show X.A.units + 1 + 8 < cLine; omega) hk dd fun h' dd' hs => fin h' _ dd' hs
/-- a comprehension's store -/
theorem set_dctS (hu : X.A.units + 64 < cLine) {p : Addr} {i v : V} {iv u : Value} {Q : Hp → Prop} {E : Value → Shared → Prop} (I : Inv X pins σ H s) (ri : RelV i iv) (rv : RelV v u) (h : rSetDc X.kw (.ref p) i v H Q) :
    wpAny (model X.prog X.w) X.A (dictSet p iv u) (fun _ s' => ∃ H', Inv X pins σ H' s' ∧ Q H') E s := by
  rcases dct_put I ri rv h with ⟨kvs, k, rfl, h1, hl, fin⟩ | ⟨b, k, ys, rfl, hk, dd, hz, fin⟩
  · exact d_dictSet I h1 hl ri rv fun s' I' => fin s' I'
  · exact wpAny_dictSet_heap (hsz := hz) (show X.A.units + 8 < cLine by omega) hk dd fun h' dd' hs => fin h' _ dd' hs
end
end Rw

set_option Elab.async false
set_option linter.all false
set_option maxRecDepth 100000
/-! RwD: the operations' rules, by values. -/
namespace Rw
open PySem L2
theorem line_eq : line = sizeLine := by rw [sizeLine_eq] <;> rfl
section
variable {K : KW} {H H' : Hp} {B : Addr → Prop}
/-- a result: what is new of it, all else kept -/
def Res (K : KW) (H : Hp) (B : Addr → Prop) (v : V) (r : D) (H' : Hp) : Prop :=
  ∃ q, Rp K H' (fun a => B a ∨ a ∈ q) v r q ∧ q.Nodup ∧ (∀ a ∈ q, H a = none) ∧ ∀ a o, H a = some o → H' a = some o
/-- what an operation may lean on: its parts are frozen -/
def Sh (d : D) (q : List Addr) : Prop := q = [] ∨ sub1 d = true
theorem Res.same {v : V} {r : D} (h : Rp K H B v r []) : Res K H B v r H :=
  ⟨[], h.mono (fun _ _ e _ => e) fun a b => .inl (b.elim id fun z => nomatch z), .nil, (fun _ z => nomatch z), fun _ _ e => e⟩
theorem upd_keep {p : Addr} {o : HO} (h : H p = none) : ∀ a u, H a = some u → upd H p o a = some u := fun a u e => by
  rw [upd_ne (ne_of_none e h)]; exact e
theorem Res.lst {p : Addr} {vs : List V} {ds : List D} (h : H p = none) (r : RpL K H B vs ds []) : Res K H B (.ref p) (.lst true ds) (upd H p (.lst vs)) := by
  refine ⟨[p], .lo upd_same (r.mono (fun a o e _ => upd_keep h a o e) fun a b => ?_), by simp, fun a z => ?_, upd_keep h⟩
  · rcases b with b | b
    · exact .inl b
    · have : a = p := by simpa using b
      rw [this]; exact .inr h
  · have : a = p := by simpa using z
    rw [this]; exact h
theorem Res.tup {p : Addr} {vs : List V} {ds : List D} (hB : ∀ a, B a → ∃ o, H a = some o) (h : H p = none) (r : RpL K H B vs ds []) : Res K H B (.ref p) (.tup ds) (upd H p (.tup vs)) := by
  refine ⟨[], .tup (.inl ⟨.inl upd_same, fun b => ?_⟩) (r.mono (fun a o e _ => upd_keep h a o e) fun a b => .inl (b.elim id fun z => nomatch z)), .nil, fun _ z => (nomatch z), upd_keep h⟩
  rcases b with b | b
  · obtain ⟨o, e⟩ := hB p b
    rw [h] at e; cases e
  · cases b
theorem Rp.parts {x : V} {o : Bool} {ds : List D} {q : List Addr} (r : Rp K H B x (.lst o ds) q) (s : Sh (.lst o ds) q) : ∃ p vs, x = .ref p ∧ H p = some (.lst vs) ∧ RpL K H B vs ds [] := by
  cases r with
  | lf t l => exact ⟨_, _, rfl, t.1, l⟩
  | lo t l =>
    rcases s with s | s
    · cases s
    · rw [show _ = [] from l.fr s] at l
      exact ⟨_, _, rfl, t, l⟩
theorem Rp.partsT {x : V} {ds : List D} {q : List Addr} (r : Rp K H B x (.tup ds) q) (s : Sh (.tup ds) q) : ∃ p vs, x = .ref p ∧ SqT K H p vs ∧ RpL K H B vs ds [] := by
  cases r with
  | tup t l =>
    rcases s with s | s
    · subst s; exact ⟨_, _, rfl, t.sq, l⟩
    · rw [show _ = [] from l.fr s] at l
      exact ⟨_, _, rfl, t.sq, l⟩
theorem Rp.shT {x : V} {ds : List D} {q : List Addr} (r : Rp K H B x (.tup ds) q) (s : Sh (.tup ds) q) : Rp K H B x (.tup ds) [] := by
  rcases s with s | s
  · rw [s] at r; exact r
  · have := r.fr (show isFr (.tup ds) = true from s)
    rw [this] at r; exact r
theorem Rp.intI {x : V} {i : Int} {q : List Addr} (r : Rp K H B x (.int i) q) : x = .int i := by cases r; rfl
theorem Rp.blI {x : V} {i : Bool} {q : List Addr} (r : Rp K H B x (.bl i) q) : x = .bl i := by cases r; rfl
theorem Rp.strI {x : V} {i : Sg} {q : List Addr} (r : Rp K H B x (.str i) q) : x = .str ⟨i.toArray⟩ := by cases r; rfl
theorem Rp.nonI {x : V} {q : List Addr} (r : Rp K H B x .non q) : x = .non := by cases r; rfl
theorem str_len (x : Sg) : (⟨x.toArray⟩ : Str).length = x.length := by simp [Str.length]
theorem str_app (x y : Sg) : (⟨x.toArray⟩ : Str) ++ ⟨y.toArray⟩ = ⟨(x ++ y).toArray⟩ := by
  show Str.append _ _ = _
  simp [Str.append]
theorem RpL.nil_iff {vs ds q} (r : RpL K H B vs ds q) : vs = [] ↔ ds = [] := by
  cases r <;> simp
def rBin (K : KW) (op : Operator) : R2 := fun x y H Q => ∃ (B : Addr → Prop) (d e : D) (q1 q2 : List Addr) (r : D), (∀ a, B a → ∃ o, H a = some o) ∧ Rp K H B x d q1 ∧ Rp K H B y e q2 ∧ Sh d q1 ∧ Sh e q2 ∧ bop op d e = some r ∧ ∀ v H', Res K H B v r H' → Q v H'
end
theorem RpL.rep {K : KW} {H : Hp} {B : Addr → Prop} {vs : List V} {ds : List D} (l : RpL K H B vs ds []) : ∀ n : Nat, RpL K H B (List.replicate n vs).flatten (List.replicate n ds).flatten []
  | 0 => .nil
  | n + 1 => by
    rw [List.replicate_succ, List.replicate_succ, List.flatten_cons, List.flatten_cons]
    exact l.app (RpL.rep l n)
section
variable {X : Cx}
theorem OpR.imp {f : Value → Value → Sem Value} {r r' : R2} (h : OpR X f r) (i : ∀ x y H Q, r' x y H Q → r x y H Q) : OpR X f r' := fun pins s σ H x y v u Q I rx ry q => h pins s σ H x y v u Q I rx ry (i x y H Q q)
theorem foldl_app (x : Sg) : ∀ (n : Nat) (acc : Sg), List.foldl (fun (a b : Array Nat) => a ++ b) acc.toArray (List.replicate n x.toArray) = (acc ++ (List.replicate n x).flatten).toArray
  | 0, acc => by simp
  | n + 1, acc => by
    rw [List.replicate_succ, List.foldl_cons, List.replicate_succ, List.flatten_cons]
    have : acc.toArray ++ x.toArray = (acc ++ x).toArray := by simp
    rw [this, foldl_app x n, List.append_assoc]
theorem txt_mul (x : Sg) (k : Int) : Txt.mul ⟨x.toArray⟩ k = ⟨((List.replicate k.toNat x).flatten).toArray⟩ := by
  unfold Txt.mul
  by_cases h : k < 1
  · rw [if_pos h]
    have : k.toNat = 0 := by omega
    rw [this]
    rfl
  · rw [if_neg h]
    split
    · rename_i h2
      rw [Bool.or_eq_true] at h2
      rcases h2 with h2 | h2
      · have : k = 1 := by simpa using h2
        subst this
        simp
      · have : x.length = 0 := by simpa [Str.length] using h2
        have : x = [] := List.eq_nil_of_length_eq_zero this
        subst this
        simp
    · have := foldl_app x k.toNat []
      simp only [List.nil_append] at this
      exact congrArg Str.mk this
theorem mul_ok {x : Sg} {k : Int} (h : x.length * k.toNat ≤ line) (h1 : k < 1000000) (h2 : -1000000 < k) : MulOk ⟨x.toArray⟩ k := by
  refine ⟨?_, fun h3 h4 => ?_, fun h3 h4 => ?_⟩
  · rw [decide_eq_false (by omega), decide_eq_false (by omega)] <;> rfl
  · rw [str_len]
    have hk : 0 < k := by omega
    have e : ((x.length * k.toNat : Nat) : Int) = (x.length : Int) * k := by
      rw [Int.natCast_mul, Int.toNat_of_nonneg (by omega)]
    have : (x.length : Int) ≤ (2 ^ 63 - 1) / k := by
      rw [Int.le_ediv_iff_mul_le hk, ← e]
      unfold line at h
      omega
    omega
  · rw [str_len]
    rw [line_eq] at h
    exact decide_eq_false (by omega)
theorem small_iff {i : Int} (h : small i = true) : -(2 ^ 64) < i ∧ i < 2 ^ 64 := of_decide_eq_true h
theorem op_bin (op : Operator) : OpR X (binaryOp op) (rBin X.kw op) := by
  intro pins s σ H x y v u Q I rx ry ⟨B, d, e, q1, q2, r, hB, r1, r2, s1, s2, hop, hQ⟩
  unfold bop at hop
  split at hop
  · -- int + int
    cases hop
    rw [r1.intI] at rx; rw [r2.intI] at ry
    exact op_add pins s σ H _ _ v u Q I rx ry ⟨_, _, rfl, rfl, hQ _ _ (.same (.int _))⟩
  · cases hop
    rw [r1.intI] at rx; rw [r2.intI] at ry
    exact op_sub pins s σ H _ _ v u Q I rx ry ⟨_, _, rfl, rfl, hQ _ _ (.same (.int _))⟩
  · split at hop
    · rename_i hs
      cases hop
      rw [r1.intI] at rx; rw [r2.intI] at ry
      refine op_mul pins s σ H _ _ v u Q I rx ry ⟨_, _, rfl, rfl, ?_, hQ _ _ (.same (.int _))⟩
      rw [Bool.or_eq_true] at hs
      exact hs.elim (fun h => .inl (small_iff h)) fun h => .inr (small_iff h)
    · cases hop
  · split at hop
    · rename_i hs
      cases hop
      rw [r1.intI] at rx; rw [r2.intI] at ry
      exact op_fdiv pins s σ H _ _ v u Q I rx ry ⟨_, _, rfl, rfl, hs, hQ _ _ (.same (.int _))⟩
    · cases hop
  · split at hop
    · rename_i hs
      cases hop
      rw [r1.intI] at rx; rw [r2.intI] at ry
      exact op_mod pins s σ H _ _ v u Q I rx ry ⟨_, _, rfl, rfl, hs, hQ _ _ (.same (.int _))⟩
    · cases hop
  · split at hop
    · rename_i hs
      cases hop
      rw [r1.intI] at rx; rw [r2.intI] at ry
      refine op_pow pins s σ H _ _ v u Q I rx ry ⟨_, _, rfl, rfl, ⟨hs.1, by omega, ?_⟩, hQ _ _ (.same (.int _))⟩
      have := small_iff hs.2.2
      omega
    · cases hop
  · split at hop
    · rename_i hs
      cases hop
      rw [r1.strI] at rx; rw [r2.strI] at ry
      refine op_add_str pins s σ H _ _ v u Q I rx ry ⟨_, _, rfl, rfl, by rw [str_len, str_len, ← line_eq]; exact hs, ?_⟩
      rw [str_app]
      exact hQ _ _ (.same (.str _))
    · cases hop
  · split at hop
    · rename_i hs
      cases hop
      rw [r1.strI] at rx; rw [r2.intI] at ry
      obtain ⟨t, rfl⟩ := rx
      obtain ⟨t', rfl⟩ := ry
      refine SB.mul (mul_ok hs.1 hs.2.1 hs.2.2) fun t' k => ?_
      rw [txt_mul]
      exact ⟨.str _, H, I.tok _, ⟨_, rfl⟩, hQ _ _ (.same (.str _))⟩
    · cases hop
  · split at hop
    · rename_i hs
      cases hop
      rw [r2.intI] at ry
      obtain ⟨p, vs, rfl, t1, l1⟩ := r1.partsT s1
      refine op_repT pins s σ H _ _ v u Q I rx ry ⟨_, _, vs, rfl, rfl, t1, fun e => ?_, hs.2.1, hs.2.2.1, by rw [l1.len]; exact hs.2.2.2, fun p hp => hQ _ _ (.tup hB hp (l1.rep _))⟩
      rw [l1.nil_iff] at e
      exact hs.1 e
    · cases hop
  · split at hop
    · rename_i hs
      cases hop
      have f1 := r1.shT s1
      have f2 := r2.shT s2
      obtain ⟨p, vs, rfl, t1, l1⟩ := r1.partsT s1
      obtain ⟨p', vs', rfl, t2, l2⟩ := r2.partsT s2
      refine op_catA pins s σ H _ _ v u Q I rx ry ⟨_, _, vs, vs', rfl, rfl, t1, t2, by rw [l1.len, l2.len, ← line_eq]; exact hs, fun e => ?_, fun _ e => ?_, fun _ _ p hp => ?_⟩
      · rw [l1.nil_iff] at e
        subst e
        exact hQ _ _ (.same f2)
      · rw [l2.nil_iff] at e
        subst e
        rw [List.append_nil] at hQ
        exact hQ _ _ (.same f1)
      · have := l1.app l2
        exact hQ _ _ (.tup hB hp this)
    · cases hop
  · split at hop
    · rename_i hs
      cases hop
      obtain ⟨p, vs, rfl, t1, l1⟩ := r1.parts s1
      obtain ⟨p', vs', rfl, t2, l2⟩ := r2.parts s2
      refine op_cat pins s σ H _ _ v u Q I rx ry ⟨_, _, vs, vs', rfl, rfl, t1, t2, by rw [l1.len, l2.len, ← line_eq]; exact hs, fun p hp => ?_⟩
      have := l1.app l2
      exact hQ _ _ (.lst hp this)
    · cases hop
  · cases hop
/-! ### comparisons -/
mutual
def toPy : D → PyData
  | .non => .none
  | .bl b => .bool b
  | .int i => .int i
  | .str x => .str ⟨x.toArray⟩
  | .tup xs => .tuple (toPyL xs)
  | .lst _ xs => .list (toPyL xs)
  | _ => .dict []
def toPyL : List D → List PyData
  | [] => []
  | x :: t => toPy x :: toPyL t
end
theorem str_eq {x y : Sg} : ((⟨x.toArray⟩ : Str) == ⟨y.toArray⟩) = (x == y) := by
  by_cases h : x = y
  · subst h; simp
  · have : ¬ (⟨x.toArray⟩ : Str) = ⟨y.toArray⟩ := fun e => h (by have := congrArg Str.cps e; simpa using this)
    rw [beq_eq_false_iff_ne.mpr h, beq_eq_false_iff_ne.mpr this]
mutual
theorem eqv_toPy : ∀ (n m : Nat) (a b : D), lay n a = true → lay m b = true → PyData.eqv (toPy a) (toPy b) = eqD a b
  | n, m, a, b, ha, hb => by
    cases a <;> cases b <;> first
      | (simp only [toPy, PyData.eqv, eqD]; done)
      | (simp only [toPy, PyData.eqv, eqD, str_eq]; done)
      | (cases n <;> cases m <;> simp [lay] at ha hb; simp only [toPy, PyData.eqv, eqD]; exact eqv_toPyL _ _ _ _ ha hb)
      | (cases n <;> simp [lay] at ha; done)
      | (cases m <;> simp [lay] at hb; done)
  termination_by n m a b => (sizeOf a, 0)
theorem eqv_toPyL : ∀ (n m : Nat) (a b : List D), layL n a = true → layL m b = true → PyData.eqvAll (toPyL a) (toPyL b) = eqL a b
  | _, _, [], [], _, _ => rfl
  | _, _, [], _ :: _, _, _ => rfl
  | _, _, _ :: _, [], _, _ => rfl
  | n, m, x :: s, y :: t, ha, hb => by
    rw [layL, Bool.and_eq_true] at ha hb
    simp only [toPyL, PyData.eqvAll, eqL]
    rw [eqv_toPy n m x y ha.1 hb.1, eqv_toPyL n m s t ha.2 hb.2]
  termination_by n m a b => (sizeOf a, 1)
end
mutual
theorem lay_can : ∀ (n : Nat) (a : D), lay n a = true → (toPy a).canLay0 = true ∧ (toPy a).depth ≤ n
  | n, .non, _ => ⟨rfl, Nat.zero_le _⟩
  | n, .bl _, _ => ⟨rfl, Nat.zero_le _⟩
  | n, .int _, _ => ⟨rfl, Nat.zero_le _⟩
  | n, .str x, h => by
    refine ⟨?_, Nat.zero_le _⟩
    cases n <;>
    · rw [lay] at h
      show PyData.strOk _ = true
      unfold PyData.strOk
      rw [List.all_eq_true] at h
      rw [Array.all_eq_true]
      intro i hi
      have := h ((x.toArray)[i]) (by simp)
      simpa using this
  | 0, .tup _, h => by simp [lay] at h
  | 0, .lst _ _, h => by simp [lay] at h
  | n + 1, .tup xs, h => by
    obtain ⟨h1, h2⟩ := lay_canL n xs h
    exact ⟨h1, Nat.succ_le_succ h2⟩
  | n + 1, .lst _ xs, h => by
    obtain ⟨h1, h2⟩ := lay_canL n xs h
    exact ⟨h1, Nat.succ_le_succ h2⟩
  | 0, .dct .., h => by simp [lay] at h
  | n + 1, .dct .., h => by simp [lay] at h
  | 0, .obj .., h => by simp [lay] at h
  | n + 1, .obj .., h => by simp [lay] at h
  | 0, .scr _, h => by simp [lay] at h
  | n + 1, .scr _, h => by simp [lay] at h
theorem lay_canL : ∀ (n : Nat) (a : List D), layL n a = true → PyData.canLayAll0 (toPyL a) = true ∧ PyData.depthAll (toPyL a) ≤ n
  | n, [], _ => ⟨rfl, Nat.zero_le _⟩
  | n, x :: t, h => by
    rw [layL, Bool.and_eq_true] at h
    obtain ⟨h1, h2⟩ := lay_can n x h.1
    obtain ⟨h3, h4⟩ := lay_canL n t h.2
    refine ⟨?_, ?_⟩
    · show ((toPy x).canLay0 && PyData.canLayAll0 (toPyL t)) = true
      rw [h1, h3] <;> rfl
    · show max _ _ ≤ n
      omega
end
theorem lay_shaped {n : Nat} {a : D} (h : lay n a = true) (hn : n ≤ 64) : SeqAt.shaped (toPy a) = true := by
  obtain ⟨h1, h2⟩ := lay_can n a h
  unfold SeqAt.shaped
  rw [h1, decide_eq_true (Nat.le_trans h2 hn)] <;> rfl
mutual
theorem Rp.dp {K : KW} {H : Hp} {B : Addr → Prop} : ∀ {n : Nat} {v : V} {d : D} {q : List Addr}, Rp K H B v d q → lay n d = true → Dp K H v (toPy d)
  | _, _, _, _, .non, _ => .non
  | _, _, _, _, .bl b, _ => .bl b
  | _, _, _, _, .int i, _ => .int i
  | _, _, _, _, .str x, _ => .str _
  | 0, _, _, _, .scr t, h => by simp [lay] at h
  | n + 1, _, _, _, .scr t, h => by simp [lay] at h
  | 0, _, _, _, .tup t l, h => by simp [lay] at h
  | n + 1, _, _, _, .tup t l, h => .tup t.sq (RpL.dp (n := n) l h)
  | 0, _, _, _, .lf t l, h => by simp [lay] at h
  | n + 1, _, _, _, .lf t l, h => .lst (.of t.1) (RpL.dp (n := n) l h)
  | 0, _, _, _, .lo t l, h => by simp [lay] at h
  | n + 1, _, _, _, .lo t l, h => .lst (.of t) (RpL.dp (n := n) l h)
theorem RpL.dp {K : KW} {H : Hp} {B : Addr → Prop} : ∀ {n : Nat} {v : List V} {d : List D} {q : List Addr}, RpL K H B v d q → layL n d = true → DpAll K H v (toPyL d)
  | _, _, _, _, .nil, _ => .nil
  | n, _, _, _, .cons r l, h => by
    rw [layL, Bool.and_eq_true] at h
    exact .cons (Rp.dp (n := n) r h.1) (RpL.dp (n := n) l h.2)
end
def rCmpE (K : KW) (neg : Bool) : R2 := fun x y H Q => ∃ (B : Addr → Prop) (d e : D) (q1 q2 : List Addr), Rp K H B x d q1 ∧ Rp K H B y e q2 ∧ eqOk d e = true ∧ Q (.bl (if neg then !eqD d e else eqD d e)) H
theorem decV {a b : V} {k : Bool} (h : decide (a = b) = k) {Q : VK} {H : Hp} (q : Q (.bl k) H) : Q (.bl (decide (a = b))) H := by rw [h]; exact q
theorem dec_strV {x y : Sg} : decide (V.str ⟨x.toArray⟩ = V.str ⟨y.toArray⟩) = (x == y) := by
  rw [L2.dec_str, str_eq]
theorem op_eqX (hu : X.A.units + 64 < cLine) : OpR X (compareOp .Eq) (rCmpE X.kw false) := by
  intro pins s σ H x y v u Q I rx ry ⟨B, d, e, q1, q2, r1, r2, ok, hQ⟩
  unfold eqOk at ok
  rw [Bool.or_eq_true] at ok
  rcases ok with ok | ok
  · rw [Bool.and_eq_true] at ok
    have dat : ∀ {d e : D}, Rp X.kw H B x d q1 → Rp X.kw H B y e q2 → lay 60 d = true → lay 60 e = true → Q (.bl (eqD d e)) H → wpAny (model X.prog X.w) X.A (compareOp .Eq v u) (EP X pins σ Q) X.xe s := fun r1 r2 l1 l2 hQ =>
      op_eqD hu pins s σ H x y v u Q I rx ry ⟨_, _, r1.dp l1, r2.dp l2, lay_shaped l1 (by decide), lay_shaped l2 (by decide), by rw [eqv_toPy _ _ _ _ l1 l2]; exact hQ⟩
    have flt : ∀ {k : Bool}, scal x y = true → decide (x = y) = k → Q (.bl k) H → wpAny (model X.prog X.w) X.A (compareOp .Eq v u) (EP X pins σ Q) X.xe s := fun h1 h2 h3 =>
      op_eq pins s σ H x y v u Q I rx ry ⟨h1, by rw [h2]; exact h3⟩
    cases d <;> cases e <;> first
      | (simp [flat] at ok; done)
      | exact dat r1 r2 rfl rfl hQ
      | (rw [r1.strI] at flt; rw [r2.strI] at flt; exact flt rfl dec_strV hQ)
      | (rw [r1.strI] at flt; cases r2; exact flt rfl (by simp [eqD]) hQ)
      | (rw [r2.strI] at flt; cases r1; exact flt rfl (by simp [eqD]) hQ)
  · rw [Bool.and_eq_true] at ok
    exact op_eqD hu pins s σ H x y v u Q I rx ry ⟨_, _, r1.dp ok.1, r2.dp ok.2, lay_shaped ok.1 (by decide), lay_shaped ok.2 (by decide), by rw [eqv_toPy _ _ _ _ ok.1 ok.2]; exact hQ⟩
theorem op_neX (hu : X.A.units + 64 < cLine) : OpR X (compareOp .NotEq) (rCmpE X.kw true) := by
  intro pins s σ H x y v u Q I rx ry ⟨B, d, e, q1, q2, r1, r2, ok, hQ⟩
  replace hQ : Q (.bl (!eqD d e)) H := hQ
  unfold eqOk at ok
  rw [Bool.or_eq_true] at ok
  rcases ok with ok | ok
  · rw [Bool.and_eq_true] at ok
    have dat : ∀ {d e : D}, Rp X.kw H B x d q1 → Rp X.kw H B y e q2 → lay 60 d = true → lay 60 e = true → Q (.bl (!eqD d e)) H → wpAny (model X.prog X.w) X.A (compareOp .NotEq v u) (EP X pins σ Q) X.xe s := fun r1 r2 l1 l2 hQ =>
      op_neD hu pins s σ H x y v u Q I rx ry ⟨_, _, r1.dp l1, r2.dp l2, lay_shaped l1 (by decide), lay_shaped l2 (by decide), by rw [eqv_toPy _ _ _ _ l1 l2]; exact hQ⟩
    have flt : ∀ {k : Bool}, scal x y = true → decide (x = y) = k → Q (.bl (!k)) H → wpAny (model X.prog X.w) X.A (compareOp .NotEq v u) (EP X pins σ Q) X.xe s := fun h1 h2 h3 =>
      op_ne pins s σ H x y v u Q I rx ry ⟨h1, by rw [h2]; exact h3⟩
    cases d <;> cases e <;> first
      | (simp [flat] at ok; done)
      | exact dat r1 r2 rfl rfl hQ
      | (rw [r1.strI] at flt; rw [r2.strI] at flt; exact flt rfl dec_strV hQ)
      | (rw [r1.strI] at flt; cases r2; exact flt rfl (by simp [eqD]) hQ)
      | (rw [r2.strI] at flt; cases r1; exact flt rfl (by simp [eqD]) hQ)
  · rw [Bool.and_eq_true] at ok
    exact op_neD hu pins s σ H x y v u Q I rx ry ⟨_, _, r1.dp ok.1, r2.dp ok.2, lay_shaped ok.1 (by decide), lay_shaped ok.2 (by decide), by rw [eqv_toPy _ _ _ _ ok.1 ok.2]; exact hQ⟩
end
end Rw

set_option Elab.async false
set_option linter.all false
set_option maxRecDepth 100000
/-! RwE: more operations' rules, by values: comparisons, indices, slices, built-ins, methods. -/
namespace Rw
open PySem PySem.Spec PyProof.Rows L2
def copOf : Cop → CmpOp
  | .eq => .Eq | .ne => .NotEq | .lt => .Lt | .le => .LtE | .gt => .Gt | .ge => .GtE | .is => .Is | .isnot => .IsNot | .isin => .In | .notin => .NotIn
section
variable {K : KW} {H H' : Hp} {B : Addr → Prop}
theorem Rp.flatV {v d q} (r : Rp K H B v d q) (h : flat d = true) : L2.flatV v = true := by cases r <;> simp [flat] at h <;> rfl
theorem RpL.flatV {vs ds q} (r : RpL K H B vs ds q) (h : ds.all flat = true) : vs.all L2.flatV = true := by
  induction ds generalizing vs q with
  | nil => cases r; rfl
  | cons d ds ih =>
    cases r with
    | cons r l =>
      rw [List.all_cons, Bool.and_eq_true] at h
      rw [List.all_cons, r.flatV h.1, ih l h.2] <;> rfl
theorem eqV_eqD {v w : V} {d e : D} {q q' : List Addr} (r : Rp K H B v d q) (s : Rp K H B w e q') (hd : flat d = true) (he : flat e = true) : eqV v w = eqD d e := by
  cases r <;> cases s <;> simp [flat] at hd he <;> first | rfl | exact str_eq | (simp only [eqV, eqD])
theorem inV_inL {v : V} {d : D} {q : List Addr} (r : Rp K H B v d q) (hd : flat d = true) : ∀ {ws : List V} {es : List D} {q' : List Addr}, RpL K H B ws es q' → es.all flat = true → inV v ws = inL d es
  | _, _, _, .nil, _ => rfl
  | _, _, _, .cons s l, h => by
    rw [List.all_cons, Bool.and_eq_true] at h
    have := inV_inL r hd l h.2
    unfold inV at this ⊢
    rw [List.any_cons, this, inL, eqV_eqD s r h.1 hd]
def rCmp (K : KW) (c : Cop) : R2 := fun x y H Q => ∃ (B : Addr → Prop) (d e : D) (q1 q2 : List Addr) (k : Bool), Rp K H B x d q1 ∧ Rp K H B y e q2 ∧ cmpV c d e = some k ∧ Q (.bl k) H
end
section
variable {X : Cx}
theorem one_sign (c : Nat) : (⟨[c].toArray⟩ : Str) = ⟨#[c]⟩ := rfl
theorem op_inX (hu : X.A.units + 64 < cLine) : OpR X (compareOp .In) (fun x y H Q => ∃ (B : Addr → Prop) (d e : D) (q1 q2 : List Addr) (k : Bool), Rp X.kw H B x d q1 ∧ Rp X.kw H B y e q2 ∧ isIn d e = some k ∧ Q (.bl k) H) := by
  intro pins s σ H x y v u Q I rx ry ⟨B, d, e, q1, q2, k, r1, r2, hk, hQ⟩
  unfold isIn at hk
  split at hk
  · rename_i kvs
    cases hg : dGet kvs d with
    | none => rw [hg] at hk; cases hk
    | some r =>
      rw [hg] at hk
      cases hk
      exact dct_in hu I hg r1 r2 rx ry fun s' I' => ⟨.bl _, H, I', rfl, hQ⟩
  · rename_i c z
    cases hk
    rw [r1.strI] at rx; rw [r2.strI] at ry
    exact op_in_sign pins s σ H _ _ v u Q I rx ry ⟨c, _, rfl, rfl, by simpa using hQ⟩
  · split at hk
    · rename_i hs
      cases hk
      have hin : ∀ vs q, RpL X.kw H B vs _ q → inV x vs = inL d _ := fun vs q l => inV_inL r1 hs.1 l hs.2
      cases r2 with
      | lf t l => exact op_in_seq pins s σ H _ _ v u Q I rx ry ⟨_, _, rfl, .inl (.of t.1), r1.flatV hs.1, l.flatV hs.2, by rw [hin _ _ l]; exact hQ⟩
      | lo t l => exact op_in_seq pins s σ H _ _ v u Q I rx ry ⟨_, _, rfl, .inl (.of t), r1.flatV hs.1, l.flatV hs.2, by rw [hin _ _ l]; exact hQ⟩
    · cases hk
  · split at hk
    · rename_i hs
      cases hk
      cases r2 with
      | tup t l => exact op_in_seq pins s σ H _ _ v u Q I rx ry ⟨_, _, rfl, .inr t.sq, r1.flatV hs.1, l.flatV hs.2, by rw [inV_inL r1 hs.1 l hs.2]; exact hQ⟩
    · cases hk
  · cases hk
theorem op_notinX (hu : X.A.units + 64 < cLine) : OpR X (compareOp .NotIn) (fun x y H Q => ∃ (B : Addr → Prop) (d e : D) (q1 q2 : List Addr) (k : Bool), Rp X.kw H B x d q1 ∧ Rp X.kw H B y e q2 ∧ isIn d e = some k ∧ Q (.bl (!k)) H) := by
  intro pins s σ H x y v u Q I rx ry ⟨B, d, e, q1, q2, k, r1, r2, hk, hQ⟩
  unfold isIn at hk
  split at hk
  · rename_i kvs
    cases hg : dGet kvs d with
    | none => rw [hg] at hk; cases hk
    | some r =>
      rw [hg] at hk
      cases hk
      exact dct_notin hu I hg r1 r2 rx ry fun s' I' => ⟨.bl _, H, I', rfl, hQ⟩
  · rename_i c z
    cases hk
    rw [r1.strI] at rx; rw [r2.strI] at ry
    exact op_notIn_sign pins s σ H _ _ v u Q I rx ry ⟨c, _, rfl, rfl, by simpa using hQ⟩
  · split at hk
    · rename_i hs
      cases hk
      have hin : ∀ vs q, RpL X.kw H B vs _ q → inV x vs = inL d _ := fun vs q l => inV_inL r1 hs.1 l hs.2
      cases r2 with
      | lf t l => exact op_notIn_seq pins s σ H _ _ v u Q I rx ry ⟨_, _, rfl, .inl (.of t.1), r1.flatV hs.1, l.flatV hs.2, by rw [hin _ _ l]; exact hQ⟩
      | lo t l => exact op_notIn_seq pins s σ H _ _ v u Q I rx ry ⟨_, _, rfl, .inl (.of t), r1.flatV hs.1, l.flatV hs.2, by rw [hin _ _ l]; exact hQ⟩
    · cases hk
  · split at hk
    · rename_i hs
      cases hk
      cases r2 with
      | tup t l => exact op_notIn_seq pins s σ H _ _ v u Q I rx ry ⟨_, _, rfl, .inr t.sq, r1.flatV hs.1, l.flatV hs.2, by rw [inV_inL r1 hs.1 l hs.2]; exact hQ⟩
    · cases hk
  · cases hk
theorem op_cmp (hu : X.A.units + 64 < cLine) (c : Cop) : OpR X (compareOp (copOf c)) (rCmp X.kw c) := by
  intro pins s σ H x y v u Q I rx ry ⟨B, d, e, q1, q2, k, r1, r2, hk, hQ⟩
  unfold cmpV at hk
  split at hk
  · split at hk
    · rename_i hs; cases hk
      exact op_eqX hu pins s σ H x y v u Q I rx ry ⟨B, _, _, q1, q2, r1, r2, hs, hQ⟩
    · cases hk
  · split at hk
    · rename_i hs; cases hk
      exact op_neX hu pins s σ H x y v u Q I rx ry ⟨B, _, _, q1, q2, r1, r2, hs, hQ⟩
    · cases hk
  · cases hk; rw [r1.intI] at rx; rw [r2.intI] at ry
    exact op_lt pins s σ H _ _ v u Q I rx ry ⟨_, _, rfl, rfl, hQ⟩
  · cases hk; rw [r1.intI] at rx; rw [r2.intI] at ry
    exact op_le pins s σ H _ _ v u Q I rx ry ⟨_, _, rfl, rfl, hQ⟩
  · cases hk; rw [r1.intI] at rx; rw [r2.intI] at ry
    exact op_gt pins s σ H _ _ v u Q I rx ry ⟨_, _, rfl, rfl, hQ⟩
  · cases hk; rw [r1.intI] at rx; rw [r2.intI] at ry
    exact op_ge pins s σ H _ _ v u Q I rx ry ⟨_, _, rfl, rfl, hQ⟩
  · cases hk; rw [r2.nonI] at ry
    refine op_isN pins s σ H _ _ v u Q I rx ry ⟨rfl, ?_⟩
    cases r1 <;> exact hQ
  · cases hk; rw [r2.nonI] at ry
    refine op_notN pins s σ H _ _ v u Q I rx ry ⟨rfl, ?_⟩
    cases r1 <;> exact hQ
  · cases hk; rw [r1.blI] at rx; rw [r2.blI] at ry
    refine op_isBl pins s σ H _ _ v u Q I rx ry ⟨_, _, rfl, rfl, ?_⟩
    rw [← Bool.beq_eq_decide_eq]; exact hQ
  · cases hk; rw [r1.blI] at rx; rw [r2.blI] at ry
    refine op_notBl pins s σ H _ _ v u Q I rx ry ⟨_, _, rfl, rfl, ?_⟩
    rw [← Bool.beq_eq_decide_eq]; exact hQ
  · exact op_inX hu pins s σ H x y v u Q I rx ry ⟨B, _, _, q1, q2, k, r1, r2, hk, hQ⟩
  · cases e : isIn d e with
    | none => rw [e] at hk; cases hk
    | some k0 =>
      rw [e] at hk
      cases hk
      exact op_notinX hu pins s σ H x y v u Q I rx ry ⟨B, _, _, q1, q2, k0, r1, r2, e, hQ⟩
  · cases hk
/-! ### places -/
theorem ixN_eq (n : Nat) (i : Int) : ixN n i = L2.ixN n i := rfl
/-- what comes of a[i]: a frozen part, or the value at a place -/
def rIdx (K : KW) : R2 := fun x y H Q => ∃ (B : Addr → Prop) (d e : D) (q1 q2 : List Addr) (r : D), Rp K H B x d q1 ∧ Rp K H B y e q2 ∧ ixVal d e = some r ∧
  ∀ v, ((∃ c, r = .str [c] ∧ v = .str ⟨#[c]⟩) ∨ (∃ q, Rp K H B v r q ∧ (∀ a ∈ q, a ∈ q1) ∧ ∀ st, ixStp d e = some st → q ≠ [] → VAt H x [st] v)) → Q v H
theorem ix_idx (hu : X.A.units + 64 < cLine) : IxR X (rIdx X.kw) := by
  intro ve se pins s σ H x y v u Q I rx ry ⟨B, d, e, q1, q2, r, r1, r2, hk, hQ⟩ hs
  unfold ixVal at hk
  split at hk
  · rename_i o xs i
    rw [r2.intI] at ry
    cases hj : ixN xs.length i with
    | none => rw [hj] at hk; cases hk
    | some j =>
      rw [hj] at hk
      have hx : xs[j]? = some r := hk
      have go : ∀ {p vs f}, x = .ref p → H p = some (.lst vs) → RpL X.kw H B vs xs f → (∀ a ∈ f, a ∈ q1) → wpAny (model X.prog X.w) X.A (subscriptTail ve se v u) (EP X pins σ Q) X.xe s := by
        intro p vs f ep t l hf
        subst ep
        obtain ⟨w, g, pre, post, h1, h2, h3⟩ := l.get hx
        refine ix_list ve se pins s σ H _ _ v u Q I rx ry ⟨p, vs, i, w, rfl, rfl, .of t, ?_, hQ w (.inr ⟨g, h2, fun a z => hf a (by rw [h3]; simp [z]), fun st hst _ => ?_⟩)⟩ hs
        · unfold atI
          rw [l.len, ← ixN_eq, hj]
          exact h1
        · rw [ixStp, hj] at hst
          cases hst
          exact ⟨p, vs, w, rfl, t, h1, rfl⟩
      cases r1 with
      | lf t l => exact go rfl t.1 l (fun _ z => z)
      | lo t l => exact go rfl t l fun a z => List.mem_cons_of_mem _ z
  · rename_i xs i
    rw [r2.intI] at ry
    cases hj : ixN xs.length i with
    | none => rw [hj] at hk; cases hk
    | some j =>
      rw [hj] at hk
      have hx : xs[j]? = some r := hk
      cases r1 with
      | tup t l =>
        obtain ⟨w, g, pre, post, h1, h2, h3⟩ := l.get hx
        refine ix_tup ve se pins s σ H _ _ v u Q I rx ry ⟨_, _, i, w, rfl, rfl, t.sq, ?_, hQ w (.inr ⟨g, h2, fun a z => by rw [h3]; simp [z], fun st hst _ => ?_⟩)⟩ hs
        · unfold atI
          rw [l.len, ← ixN_eq, hj]
          exact h1
        · cases hst
  · rename_i z i
    split at hk
    · rename_i hl
      rw [r2.intI] at ry
      rw [r1.strI] at rx
      cases hj : ixN z.length i with
      | none => rw [hj] at hk; cases hk
      | some j =>
        rw [hj] at hk
        cases hc : z[j]? with
        | none => rw [show (some j).bind (fun j => z[j]?) = z[j]? from rfl, hc] at hk; cases hk
        | some c =>
          rw [show (some j).bind (fun j => z[j]?) = z[j]? from rfl, hc] at hk
          have er : r = .str [c] := by cases hk; rfl
          subst er
          refine ix_str ve se pins s σ H _ _ v u Q I rx ry ⟨_, i, c, rfl, rfl, by rw [str_len, ← line_eq]; exact hl, ?_, hQ _ (.inl ⟨c, rfl, rfl⟩)⟩ hs
          unfold atI
          rw [show (⟨z.toArray⟩ : Str).cps.toList = z from rfl, ← ixN_eq, hj]
          exact hc
    · cases hk
  · rename_i o kvs
    have hg : dGet kvs e = some (some r) := by
      cases hg : dGet kvs e with
      | none => rw [hg] at hk; cases hk
      | some z => rw [hg] at hk; exact congrArg some hk
    refine tail_any (dct_typeIs I r1 rx) PySem.F.slot_dict_getitem.lookup (dct_get hu I hg r1 r2 rx ry fun z rz => hQ z (.inr ⟨[], rz, (fun _ h => nomatch h), fun st _ n => (n rfl).elim⟩)) hs
  · cases hk
/-! ### slices -/
theorem cut_cutV {vs : List V} {lo hi : Option Int} : cutV vs lo hi = cut vs lo hi := rfl
theorem RpL.take {K : KW} {H : Hp} {B : Addr → Prop} : ∀ {vs : List V} {ds : List D} (n : Nat), RpL K H B vs ds [] → RpL K H B (vs.take n) (ds.take n) []
  | vs, ds, n, l => by
    induction n generalizing vs ds with
    | zero => exact .nil
    | succ n ih =>
      generalize hq : ([] : List Addr) = q at l
      cases l with
      | nil => exact .nil
      | cons r l =>
        rename_i f _ _ fs
        have h1 : f = [] := by
          have := congrArg List.length hq
          simp at this
          exact List.eq_nil_of_length_eq_zero (by omega)
        have h2 : fs = [] := by
          have := congrArg List.length hq
          simp at this
          exact List.eq_nil_of_length_eq_zero (by omega)
        subst h1 h2
        exact RpL.cons (f := []) (fs := []) r (ih _ _ l)
theorem RpL.drop {K : KW} {H : Hp} {B : Addr → Prop} : ∀ {vs : List V} {ds : List D} (n : Nat), RpL K H B vs ds [] → RpL K H B (vs.drop n) (ds.drop n) []
  | vs, ds, n, l => by
    induction n generalizing vs ds with
    | zero => exact l
    | succ n ih =>
      generalize hq : ([] : List Addr) = q at l
      cases l with
      | nil => exact .nil
      | cons r l =>
        rename_i f _ _ fs
        have h1 : f = [] := by
          have := congrArg List.length hq
          simp at this
          exact List.eq_nil_of_length_eq_zero (by omega)
        have h2 : fs = [] := by
          have := congrArg List.length hq
          simp at this
          exact List.eq_nil_of_length_eq_zero (by omega)
        subst h1 h2
        exact ih _ _ l
theorem RpL.cut {K : KW} {H : Hp} {B : Addr → Prop} {vs : List V} {ds : List D} (lo hi : Option Int) (l : RpL K H B vs ds []) : RpL K H B (cutV vs lo hi) (cut ds lo hi) [] := by
  rw [cut_cutV]
  unfold Rw.cut
  rw [l.len]
  exact (l.drop _).take _
def rSli (K : KW) : V → Option Int → Option Int → Hp → VK → Prop := fun x lo hi H Q => ∃ (B : Addr → Prop) (d : D) (q : List Addr) (r : D), (∀ a, B a → ∃ o, H a = some o) ∧ Rp K H B x d q ∧ Sh d q ∧ slice d lo hi = some r ∧ ∀ v H', Res K H B v r H' → Q v H'
theorem RpL.ints {K : KW} {H : Hp} {B : Addr → Prop} : ∀ ns : List Int, RpL K H B (ns.map V.int) (ns.map D.int) []
  | [] => .nil
  | n :: ns => RpL.cons (f := []) (fs := []) (.int n) (RpL.ints ns)
theorem cut_map {α β : Type} (f : α → β) (xs : List α) (lo hi : Option Int) : cut (xs.map f) lo hi = (cut xs lo hi).map f := by
  unfold Rw.cut
  rw [List.length_map, List.map_take, List.map_drop]
theorem sl_sli : SlR X (rSli X.kw) := by
  intro pins s σ H x v vl vu lo hi sl Q I rx hs pl pu ⟨B, d, q, r, hB, r1, sh, hk, hQ⟩
  unfold slice at hk
  split at hk
  · split at hk
    · rename_i hl
      cases hk
      rw [r1.strI] at rx
      refine sl_str pins s σ H _ v vl vu lo hi sl Q I rx hs pl pu ⟨_, rfl, by rw [str_len, ← line_eq]; exact hl, ?_⟩
      have := hQ _ _ (.same (B := B) (.str (Rw.cut _ lo hi)))
      unfold cutS
      rw [str_len]
      exact this
    · cases hk
  · cases hk
    obtain ⟨p, vs, rfl, t, l⟩ := r1.parts sh
    exact sl_list pins s σ H _ v vl vu lo hi sl Q I rx hs pl pu ⟨p, vs, rfl, .of t, fun p' hp => hQ _ _ (.lst hp (l.cut lo hi))⟩
  · cases hk
    have f1 := r1.shT sh
    obtain ⟨p, vs, rfl, t, l⟩ := r1.partsT sh
    refine sl_tupA pins s σ H _ v vl vu lo hi sl Q I rx hs pl pu ⟨p, vs, rfl, t, fun hw => ?_, fun _ p' hp => hQ _ _ (.tup hB hp (l.cut lo hi))⟩
    have e : ∀ ds : List D, ds.length = vs.length → Rw.cut ds lo hi = ds := fun ds e => by
      unfold Rw.cut
      rw [e]
      have h1 : sIx vs.length 0 lo = 0 := hw.1
      have h2 : sIx vs.length vs.length hi = vs.length := hw.2
      rw [h1, h2, List.drop_zero, Nat.sub_zero, List.take_of_length_le (by omega)]
    rw [e _ l.len.symm] at hQ
    exact hQ _ _ (.same f1)
  · cases hk
    cases r1 with
    | scr t =>
      refine sl_list pins s σ H _ v vl vu lo hi sl Q I rx hs pl pu ⟨_, _, rfl, t.sq, fun p' hp => hQ _ _ (.lst hp ?_)⟩
      rw [cut_cutV, cut_map]
      exact RpL.ints _
  · cases hk
end
end Rw

set_option Elab.async false
set_option linter.all false
set_option maxRecDepth 100000
/-! RwF: built-in functions and methods, by values. -/
namespace Rw
open PySem PySem.Spec PyProof.Rows L2
/-- the arguments of a built-in; sh: their parts are frozen -/
inductive ArgsR (K : KW) (H : Hp) (B : Addr → Prop) (sh : Bool) : List V → List D → Prop
  | nil : ArgsR K H B sh [] []
  | cons {v : V} {d : D} {q : List Addr} {vs : List V} {ds : List D} : Rp K H B v d q → (sh = true → Sh d q) → ArgsR K H B sh vs ds → ArgsR K H B sh (v :: vs) (d :: ds)
def rBi (K : KW) (f : Str) : List V → Hp → VK → Prop := fun xs H Q => ∃ (B : Addr → Prop) (ds : List D) (r : D) (sh : Bool), (∀ a, B a → ∃ o, H a = some o) ∧ ArgsR K H B sh xs ds ∧ (flat r = true ∨ sh = true) ∧ biV f ds = some r ∧ ∀ v H', Res K H B v r H' → Q v H'
section
variable {K : KW} {H : Hp} {B : Addr → Prop} {sh : Bool}
theorem ArgsR.one {xs : List V} {d : D} (h : ArgsR K H B sh xs [d]) : ∃ v q, xs = [v] ∧ Rp K H B v d q ∧ (sh = true → Sh d q) := by
  cases h with
  | cons r s t => cases t; exact ⟨_, _, rfl, r, s⟩
theorem ArgsR.two {xs : List V} {d e : D} (h : ArgsR K H B sh xs [d, e]) : ∃ v w q r, xs = [v, w] ∧ Rp K H B v d q ∧ Rp K H B w e r := by
  cases h with
  | cons r s t =>
    cases t with
    | cons r' s' t' => cases t'; exact ⟨_, _, _, _, rfl, r, r'⟩
theorem maxI_mem : ∀ {ns : List Int}, ns ≠ [] → maxI ns ∈ ns ∧ ∀ y ∈ ns, y ≤ maxI ns
  | [], h => (h rfl).elim
  | [a], _ => ⟨List.mem_cons_self, fun y hy => by rw [List.mem_singleton.mp hy]; exact Int.le_refl _⟩
  | a :: b :: r, _ => by
    obtain ⟨h1, h2⟩ := maxI_mem (ns := b :: r) (by simp)
    rw [maxI]
    split
    · rename_i h
      exact ⟨List.mem_cons_of_mem _ h1, fun y hy => (List.mem_cons.mp hy).elim (fun e => by rw [e]; exact h) (h2 y)⟩
    · rename_i h
      exact ⟨List.mem_cons_self, fun y hy => (List.mem_cons.mp hy).elim (fun e => by rw [e]; exact Int.le_refl _) fun z => by have := h2 y z; omega⟩
theorem maxI_eq {ns : List Int} {m : Int} (h : ns ≠ []) (h1 : m ∈ ns) (h2 : ∀ y, y ∈ ns → y ≤ m) : m = maxI ns := by
  obtain ⟨k1, k2⟩ := maxI_mem h
  have := k2 m h1
  have := h2 _ k1
  omega
theorem minI_mem : ∀ {ns : List Int}, ns ≠ [] → minI ns ∈ ns ∧ ∀ y ∈ ns, minI ns ≤ y
  | [], h => (h rfl).elim
  | [a], _ => ⟨List.mem_cons_self, fun y hy => by rw [List.mem_singleton.mp hy]; exact Int.le_refl _⟩
  | a :: b :: r, _ => by
    obtain ⟨h1, h2⟩ := minI_mem (ns := b :: r) (by simp)
    rw [minI]
    split
    · rename_i h
      exact ⟨List.mem_cons_of_mem _ h1, fun y hy => (List.mem_cons.mp hy).elim (fun e => by rw [e]; exact h) (h2 y)⟩
    · rename_i h
      exact ⟨List.mem_cons_self, fun y hy => (List.mem_cons.mp hy).elim (fun e => by rw [e]; exact Int.le_refl _) fun z => by have := h2 y z; omega⟩
theorem minI_eq {ns : List Int} {m : Int} (h : ns ≠ []) (h1 : m ∈ ns) (h2 : ∀ y, y ∈ ns → m ≤ y) : m = minI ns := by
  obtain ⟨k1, k2⟩ := minI_mem h
  have := k2 m h1
  have := h2 _ k1
  omega
theorem ArgsR.lst {xs : List V} {o : Bool} {ds : List D} (h : ArgsR K H B sh xs [.lst o ds]) : ∃ p vs f, xs = [.ref p] ∧ H p = some (.lst vs) ∧ RpL K H B vs ds f ∧ (sh = true → f = []) := by
  obtain ⟨v, q, rfl, r, s⟩ := h.one
  cases r with
  | lf t l => exact ⟨_, _, _, rfl, t.1, l, fun _ => rfl⟩
  | lo t l =>
    refine ⟨_, _, _, rfl, t, l, fun h => ?_⟩
    rcases s h with z | z
    · cases z
    · exact l.fr z
theorem ArgsR.tup {xs : List V} {ds : List D} (h : ArgsR K H B sh xs [.tup ds]) : ∃ p vs f, xs = [.ref p] ∧ SqT K H p vs ∧ RpL K H B vs ds f ∧ (sh = true → f = []) ∧ (sh = true → Rp K H B (.ref p) (.tup ds) []) := by
  obtain ⟨v, q, rfl, r, s⟩ := h.one
  have e : ∀ h : sh = true, Rp K H B v (.tup ds) [] := fun h => r.shT (s h)
  cases r with
  | tup t l =>
    refine ⟨_, _, _, rfl, t.sq, l, fun h => ?_, e⟩
    rcases s h with z | z
    · exact z
    · exact l.fr z
theorem RpL.intsOf {vs : List V} {ds : List D} {f : List Addr} (l : RpL K H B vs ds f) : ∀ {ns : List Int}, Rw.intsOf ds = some ns → vs = ns.map V.int := by
  induction ds generalizing vs f with
  | nil => intro ns h; cases l; cases h; rfl
  | cons d ds ih =>
    intro ns h
    cases l with
    | cons r l =>
      cases d <;> simp [Rw.intsOf] at h
      obtain ⟨ms, h1, h2⟩ := h
      subst h2
      rw [r.intI, ih l h1] <;> rfl
theorem RpL.blsOf {vs : List V} {ds : List D} {f : List Addr} (l : RpL K H B vs ds f) : ∀ {ns : List Bool}, Rw.blsOf ds = some ns → vs = ns.map V.bl := by
  induction ds generalizing vs f with
  | nil => intro ns h; cases l; cases h; rfl
  | cons d ds ih =>
    intro ns h
    cases l with
    | cons r l =>
      cases d <;> simp [Rw.blsOf] at h
      obtain ⟨ms, h1, h2⟩ := h
      subst h2
      rw [r.blI, ih l h1] <;> rfl
theorem RpL.strsOf {vs : List V} {ds : List D} {f : List Addr} (l : RpL K H B vs ds f) : ∀ {ns : List Sg}, Rw.strsOf ds = some ns → vs = (ns.map fun x => (⟨x.toArray⟩ : Str)).map V.str := by
  induction ds generalizing vs f with
  | nil => intro ns h; cases l; cases h; rfl
  | cons d ds ih =>
    intro ns h
    cases l with
    | cons r l =>
      cases d <;> simp [Rw.strsOf] at h
      obtain ⟨ms, h1, h2⟩ := h
      subst h2
      rw [r.strI, ih l h1] <;> rfl
end
section
variable {X : Cx}
theorem insI_perm (a : Int) : ∀ l, (insI a l).Perm (a :: l)
  | [] => .refl _
  | b :: r => by
    unfold insI
    split
    · exact .refl _
    · exact ((insI_perm a r).cons b).trans (.swap a b r)
theorem sortI_perm : ∀ l, (sortI l).Perm l
  | [] => .refl _
  | a :: r => (insI_perm a _).trans ((sortI_perm r).cons a)
theorem insI_pw (a : Int) : ∀ l : List Int, l.Pairwise (· ≤ ·) → (insI a l).Pairwise (· ≤ ·)
  | [], _ => by simp [insI]
  | b :: r, h => by
    rw [List.pairwise_cons] at h
    unfold insI
    split
    · rename_i hab
      exact .cons (fun c hc => (List.mem_cons.mp hc).elim (fun e => by rw [e]; exact hab) fun z => Int.le_trans hab (h.1 c z)) (.cons h.1 h.2)
    · rename_i hab
      refine .cons (fun c hc => ?_) (insI_pw a r h.2)
      rcases List.mem_cons.mp ((insI_perm a r).mem_iff.mp hc) with e | e
      · rw [e]; omega
      · exact h.1 c e
theorem sortI_pw : ∀ l, (sortI l).Pairwise (· ≤ ·)
  | [] => .nil
  | a :: r => insI_pw a _ (sortI_pw r)
theorem sorted_one : ∀ {l m : List Int}, l.Pairwise (· ≤ ·) → m.Pairwise (· ≤ ·) → l.Perm m → l = m
  | [], m, _, _, p => p.nil_eq
  | a :: l, [], _, _, p => by have := p.length_eq; simp at this
  | a :: l, b :: m, h1, h2, p => by
    rw [List.pairwise_cons] at h1 h2
    have e : a = b := by
      have m1 := p.mem_iff.mp (List.mem_cons_self (a := a) (l := l))
      have m2 := p.mem_iff.mpr (List.mem_cons_self (a := b) (l := m))
      have i1 : a ≤ b := (List.mem_cons.mp m2).elim (fun e => by omega) (h1.1 b)
      have i2 : b ≤ a := (List.mem_cons.mp m1).elim (fun e => by omega) (h2.1 a)
      omega
    subst e
    rw [sorted_one h1.2 h2.2 (List.perm_cons a |>.mp p)]
theorem ints_rp {K : KW} {H : Hp} {B : Addr → Prop} : ∀ ns : List Int, RpL K H B (ns.map V.int) (ns.map D.int) []
  | [] => .nil
  | n :: r => .cons (fs := []) (.int n) (ints_rp r)
theorem call_bi2 (hc : X.calm = true) {f : Str} {u : Value} (hu : bootBuiltins f = some u) : CallR X u fun xs H Q => ∃ (B : Addr → Prop) (ds : List D) (r : D) (sh : Bool), (∀ a, B a → ∃ o, H a = some o) ∧ ArgsR X.kw H B sh xs ds ∧ (flat r = true ∨ sh = true) ∧ biV2 f ds = some r ∧ ∀ v H', Res X.kw H B v r H' → Q v H' := by
  intro pins s σ H xs us Q I rs ⟨B, ds, r, sh, hB, ra, fl, hk, hQ⟩
  have hb : ∀ {g : Str} {w : Value}, f = g → bootBuiltins g = some w → u = w := fun e h => by
    rw [e, h] at hu
    exact (Option.some.inj hu).symm
  unfold biV2 at hk
  split at hk
  · rename_i e
    rw [hb e (by decide +kernel : bootBuiltins "max" = some (.builtin "max"))]
    split at hk
    · rename_i o xs
      obtain ⟨p, vs, g, rfl, t, l, _⟩ := ra.lst
      cases hn : intsOf xs with
      | none => rw [hn] at hk; cases hk
      | some ns =>
        rw [hn] at hk
        simp only [Option.bind_some] at hk
        split at hk
        · cases hk
        · rename_i hne
          cases hk
          have hne : ns ≠ [] := by simpa using hne
          refine cr_max hc pins s σ H _ us Q I rs ⟨p, ns, rfl, ?_, List.length_pos_iff.mpr hne, fun m h1 h2 => ?_⟩
          · rw [← l.intsOf hn]
            exact .of t
          · rw [maxI_eq hne h1 h2]
            exact hQ _ _ (.same (.int _))
    · obtain ⟨v, w, q1, q2, rfl, r1, r2⟩ := ra.two
      cases hk
      rw [r1.intI, r2.intI] at rs
      exact call_max2 hc pins s σ H _ us Q I rs ⟨_, _, rfl, hQ _ _ (.same (.int _))⟩
    · cases hk
  split at hk
  · rename_i e
    rw [hb e (by decide +kernel : bootBuiltins "min" = some (.builtin "min"))]
    split at hk
    · rename_i o xs
      obtain ⟨p, vs, g, rfl, t, l, _⟩ := ra.lst
      cases hn : intsOf xs with
      | none => rw [hn] at hk; cases hk
      | some ns =>
        rw [hn] at hk
        simp only [Option.bind_some] at hk
        split at hk
        · cases hk
        · rename_i hne
          cases hk
          have hne : ns ≠ [] := by simpa using hne
          refine cr_min hc pins s σ H _ us Q I rs ⟨p, ns, rfl, ?_, List.length_pos_iff.mpr hne, fun m h1 h2 => ?_⟩
          · rw [← l.intsOf hn]
            exact .of t
          · rw [minI_eq hne h1 h2]
            exact hQ _ _ (.same (.int _))
    · obtain ⟨v, w, q1, q2, rfl, r1, r2⟩ := ra.two
      cases hk
      rw [r1.intI, r2.intI] at rs
      exact call_min2 hc pins s σ H _ us Q I rs ⟨_, _, rfl, hQ _ _ (.same (.int _))⟩
    · cases hk
  split at hk
  · rename_i e
    rw [hb e (by decide +kernel : bootBuiltins "sorted" = some (.builtin "sorted"))]
    split at hk
    · rename_i o xs
      obtain ⟨p, vs, g, rfl, t, l, _⟩ := ra.lst
      cases hn : intsOf xs with
      | none => rw [hn] at hk; cases hk
      | some ns =>
        rw [hn] at hk
        cases hk
        refine cr_sortedI pins s σ H _ us Q I rs ⟨p, ns, rfl, ?_, fun ns' p' h1 h2 hp => ?_⟩
        · rw [← l.intsOf hn]
          exact .of t
        · have e2 : ns' = sortI ns := sorted_one h2 (sortI_pw ns) (h1.trans (sortI_perm ns).symm)
          rw [e2]
          exact hQ _ _ (.lst hp (ints_rp _))
    · cases hk
  · cases hk
/-- a built-in function or class, called -/
theorem call_bi (hc : X.calm = true) {f : Str} {u : Value} (hu : bootBuiltins f = some u) : CallR X u (rBi X.kw f) := by
  intro pins s σ H xs us Q I rs ⟨B, ds, r, sh, hB, ra, fl, hk, hQ⟩
  have hb : ∀ {g : Str} {w : Value}, f = g → bootBuiltins g = some w → u = w := fun e h => by
    rw [e, h] at hu
    exact (Option.some.inj hu).symm
  unfold biV at hk
  split at hk
  · rename_i e
    rw [hb e PySem.boot_len]
    split at hk
    · rename_i d
      obtain ⟨v, q, rfl, r1, _⟩ := ra.one
      cases hl : lenV d with
      | none => rw [hl] at hk; cases hk
      | some n =>
        rw [hl] at hk
        cases hk
        refine call_len pins s σ H _ us Q I rs ?_
        unfold lenV at hl
        split at hl
        · split at hl
          · rename_i hz
            cases hl
            rw [r1.strI]
            exact ⟨_, _, rfl, ⟨by rw [str_len, ← line_eq]; exact hz, (str_len _).symm⟩, hQ _ _ (.same (.int _))⟩
          · cases hl
        · cases hl
          cases r1 with
          | tup t l => exact ⟨_, _, rfl, .inr ⟨_, t.sq, l.len.symm⟩, hQ _ _ (.same (.int _))⟩
        · cases hl
          cases r1 with
          | lf t l => exact ⟨_, _, rfl, .inl ⟨_, .of t.1, l.len.symm⟩, hQ _ _ (.same (.int _))⟩
          | lo t l => exact ⟨_, _, rfl, .inl ⟨_, .of t, l.len.symm⟩, hQ _ _ (.same (.int _))⟩
        · cases hl
    · cases hk
  split at hk
  · rename_i e
    rw [hb e (by decide +kernel : bootBuiltins "abs" = some (.builtin "abs"))]
    split at hk
    · obtain ⟨v, q, rfl, r1, _⟩ := ra.one
      cases hk
      rw [r1.intI] at rs
      exact call_abs pins s σ H _ us Q I rs ⟨_, rfl, hQ _ _ (.same (.int _))⟩
    · cases hk
  split at hk
  · rename_i e
    rw [hb e (by decide +kernel : bootBuiltins "int" = some (.type "int"))]
    split at hk
    · obtain ⟨v, q, rfl, r1, _⟩ := ra.one
      cases hk
      rw [r1.intI] at rs
      exact call_int1 pins s σ H _ us Q I rs (.inl ⟨_, rfl, hQ _ _ (.same (.int _))⟩)
    · obtain ⟨v, q, rfl, r1, _⟩ := ra.one
      cases hk
      rw [r1.blI] at rs
      exact call_int1 pins s σ H _ us Q I rs (.inr ⟨_, rfl, hQ _ _ (.same (.int _))⟩)
    · cases hk
  split at hk
  · rename_i e
    rw [hb e (by decide +kernel : bootBuiltins "sum" = some (.builtin "sum"))]
    split at hk
    · rename_i o xs
      obtain ⟨p, vs, g, rfl, t, l, _⟩ := ra.lst
      cases hn : intsOf xs with
      | none => rw [hn] at hk; cases hk
      | some ns =>
        rw [hn] at hk
        cases hk
        refine cr_sum hc pins s σ H _ us Q I rs ⟨p, ns, rfl, ?_, hQ _ _ (.same (.int _))⟩
        rw [← l.intsOf hn]
        exact .of t
    · cases hk
  split at hk
  · rename_i e
    rw [hb e (by decide +kernel : bootBuiltins "all" = some (.builtin "all"))]
    split at hk
    · rename_i o xs
      obtain ⟨p, vs, g, rfl, t, l, _⟩ := ra.lst
      cases hn : blsOf xs with
      | none => rw [hn] at hk; cases hk
      | some ns =>
        rw [hn] at hk
        cases hk
        refine cr_all hc pins s σ H _ us Q I rs ⟨p, ns, rfl, ?_, hQ _ _ (.same (.bl _))⟩
        rw [← l.blsOf hn]
        exact .of t
    · cases hk
  split at hk
  · rename_i e
    rw [hb e (by decide +kernel : bootBuiltins "any" = some (.builtin "any"))]
    split at hk
    · rename_i o xs
      obtain ⟨p, vs, g, rfl, t, l, _⟩ := ra.lst
      cases hn : blsOf xs with
      | none => rw [hn] at hk; cases hk
      | some ns =>
        rw [hn] at hk
        cases hk
        refine cr_any hc pins s σ H _ us Q I rs ⟨p, ns, rfl, ?_, hQ _ _ (.same (.bl _))⟩
        rw [← l.blsOf hn]
        exact .of t
    · cases hk
  split at hk
  · rename_i e
    rw [hb e (by decide +kernel : bootBuiltins "tuple" = some (.type "tuple"))]
    split at hk
    · cases hk
      have hs : sh = true := fl.elim (fun z => by cases z) id
      obtain ⟨p, vs, g, rfl, t, l, h0⟩ := ra.lst
      rw [h0 hs] at l
      exact call_tuple_of pins s σ H _ us Q I rs ⟨p, vs, rfl, .inl ⟨.of t, fun p' hp => hQ _ _ (.tup hB hp l)⟩⟩
    · cases hk
      have hs : sh = true := fl.elim (fun z => by cases z) id
      obtain ⟨p, vs, g, rfl, t, l, h0, h1⟩ := ra.tup
      exact call_tuple_of pins s σ H _ us Q I rs ⟨p, vs, rfl, .inr ⟨t, hQ _ _ (.same (h1 hs))⟩⟩
    · cases hk
  split at hk
  · rename_i e
    rw [hb e (by decide +kernel : bootBuiltins "list" = some (.type "list"))]
    split at hk
    · cases hk
      have hs : sh = true := fl.elim (fun z => by cases z) id
      obtain ⟨p, vs, g, rfl, t, l, h0⟩ := ra.lst
      rw [h0 hs] at l
      exact call_list_of pins s σ H _ us Q I rs ⟨p, vs, rfl, .inl (.of t), fun p' hp => hQ _ _ (.lst hp l)⟩
    · cases hk
      have hs : sh = true := fl.elim (fun z => by cases z) id
      obtain ⟨p, vs, g, rfl, t, l, h0, h1⟩ := ra.tup
      rw [h0 hs] at l
      exact call_list_of pins s σ H _ us Q I rs ⟨p, vs, rfl, .inr t, fun p' hp => hQ _ _ (.lst hp l)⟩
    · cases hk
  · exact call_bi2 hc hu pins s σ H xs us Q I rs ⟨B, ds, r, sh, hB, ra, fl, hk, hQ⟩
/-! ### isinstance -/
theorem isi_int : ∀ T ∈ ["int", "bool", "str", "tuple", "list", "dict"], isInst (.int 0) (Str.ofString T) = kitB "int" T := by decide +kernel
theorem isi_str : ∀ T ∈ ["int", "bool", "str", "tuple", "list", "dict"], isInst (.str []) (Str.ofString T) = kitB "str" T := by decide +kernel
theorem isi_tup : ∀ T ∈ ["int", "bool", "str", "tuple", "list", "dict"], isInst (.tup []) (Str.ofString T) = kitB "tuple" T := by decide +kernel
theorem isi_lst : ∀ T ∈ ["int", "bool", "str", "tuple", "list", "dict"], isInst (.lst true []) (Str.ofString T) = kitB "list" T := by decide +kernel
theorem isi_dct : ∀ T ∈ ["int", "bool", "str", "tuple", "list", "dict"], isInst (.dct false []) (Str.ofString T) = kitB "dict" T := by decide +kernel
theorem isi_non : ∀ T ∈ ["int", "bool", "str", "tuple", "list", "dict"], isInst .non (Str.ofString T) = kitB "NoneType" T := by decide +kernel
theorem isi_bl : ∀ T ∈ ["int", "bool", "str", "tuple", "list", "dict"], isInst (.bl true) (Str.ofString T) = kitB "bool" T := by decide +kernel
theorem isi_ok {t : Str} {T : String} (ht : t = Str.ofString T) (hT : T ∈ ["int", "bool", "str", "tuple", "list", "dict"]) : CallR X (.builtin "isinstance") (fun xs H Q => ∃ (B : Addr → Prop) (x : V) (d : D) (q : List Addr) (k : Bool), xs = [x, .ty T] ∧ Rp X.kw H B x d q ∧ isInst d t = some k ∧ Q (.bl k) H) := by
  intro pins s σ H xs us Q I rs ⟨B, x, d, q, k, e, r, hk, hQ⟩
  subst ht
  have go : ∀ {a : String}, TyX X.kw H x (.type a) → kitB a T = some k → wpAny (model X.prog X.w) X.A (call (.builtin "isinstance") us) (EP X pins σ Q) X.xe s := fun ty h =>
    call_isi pins s σ H xs us Q I rs ⟨x, .ty T, _, _, k, e, .ty T, ty, kit_ty h, hQ⟩
  have tup : ∀ {p vs}, TAt X.kw H B p vs → TyX X.kw H (.ref p) (.type "tuple") := fun t => by
    rcases t with ⟨(t | ⟨o, t⟩), _⟩ | ⟨o, its, n, h1, h2, _⟩
    · exact .base (.tup t)
    · exact .fTuple t
    · exact .kTuple h1 h2
  have scr : ∀ {p vs}, SAt X.kw H B p vs → TyX X.kw H (.ref p) (.type "list") := fun t => by
    rcases t with ⟨(t | ⟨o, t⟩), _⟩ | ⟨o, its, n, h1, h2, _⟩
    · exact .base (.lst t)
    · exact .base (.frz t)
    · exact .kList h1 h2
  have fin : ∀ {a : String}, TyX X.kw H x (.type a) → (∀ T ∈ ["int", "bool", "str", "tuple", "list", "dict"], ∀ k, isInst d (Str.ofString T) = some k → kitB a T = some k) → wpAny (model X.prog X.w) X.A (call (.builtin "isinstance") us) (EP X pins σ Q) X.xe s := fun ty h => go ty (h T hT k hk)
  have dec : ∀ {a : String} {d : D}, (∀ T ∈ ["int", "bool", "str", "tuple", "list", "dict"], isInst d (Str.ofString T) = kitB a T) → ∀ T ∈ ["int", "bool", "str", "tuple", "list", "dict"], ∀ k, isInst d (Str.ofString T) = some k → kitB a T = some k := fun h T hT k e => by rw [← h T hT]; exact e
  cases r with
  | non => exact fin (.base .non) (dec isi_non)
  | bl b => exact fin (.base (.bl b)) (dec isi_bl)
  | int i => exact fin (.base (.int i)) (dec isi_int)
  | str y => exact fin (.base (.str _)) (dec isi_str)
  | tup t l => exact fin (tup t) (dec isi_tup)
  | scr t => exact fin (scr t) fun T hT k e => (by cases e)
  | dE t => exact fin (.base (.dK t.1)) (dec isi_dct)
  | @dz p kvs as vs t n l m =>
    cases kvs with
    | nil =>
      rcases t with ⟨h1, _⟩ | ⟨_, _, _, _, _, z, _⟩
      · exact fin (.base (.dK h1)) (dec isi_dct)
      · exact (z rfl).elim
    | cons _ _ => exact absurd hk (by unfold isInst; exact fun z => by cases z)
  | @dw p kvs as vs t l m =>
    cases kvs with
    | nil =>
      rcases t with ⟨h1, _⟩ | ⟨_, _, _, _, _, z, _⟩
      · exact fin (.base (.dK h1)) (dec isi_dct)
      · exact (z rfl).elim
    | cons _ _ => exact absurd hk (by unfold isInst; exact fun z => by cases z)
  | lf t l => exact fin (.base (.lst t.1)) (dec isi_lst)
  | lo t l => exact fin (.base (.lst t)) (dec isi_lst)
  | of t e l => exact absurd hk (by unfold isInst; exact fun z => by cases z)
  | oo t e l => exact absurd hk (by unfold isInst; exact fun z => by cases z)
/-! ### methods -/
/-- a method that changes nothing -/
def rMth (K : KW) (m : Str) : V → List V → Hp → VK → Prop := fun x xs H Q => ∃ (B : Addr → Prop) (d : D) (q : List Addr) (ds : List D) (r : D) (sh : Bool), (∀ a, B a → ∃ o, H a = some o) ∧ Rp K H B x d q ∧ (sh = true → Sh d q) ∧ ArgsR K H B sh xs ds ∧ (flat r = true ∨ sh = true) ∧ mthV m d ds = some r ∧ ∀ v H', Res K H B v r H' → Q v H'
theorem joinS_eq (S : Sg) : ∀ ps : List Sg, joinS S ps = TL.joinL S ps
  | [] => rfl
  | [p] => rfl
  | p :: q :: r => by rw [joinS, TL.joinL, joinS_eq S (q :: r)]
theorem join_eq (a : Sg) (ys : List Sg) : Txt.join ⟨a.toArray⟩ (ys.map fun x => (⟨x.toArray⟩ : Str)) = ⟨(joinS a ys).toArray⟩ := by
  rw [TL.join_eq]
  apply TL.ext_tl
  rw [TL.tl_join, List.map_map, TL.tl_mk, joinS_eq]
  congr 1
  rw [show (TL.tl ∘ fun x => (⟨x.toArray⟩ : Str)) = id from rfl, List.map_id]
theorem find_eq {a : Sg} {c : Nat} {i : Int} (h : findS a c = some i) : Txt.find ⟨a.toArray⟩ ⟨#[c]⟩ = i := by
  have fo := StrLaws.found_one (⟨a.toArray⟩ : Str) c
  have sp := StrLaws.occ_spec (⟨a.toArray⟩ : Str) ⟨#[c]⟩ 0 (⟨a.toArray⟩ : Str).length 1
  have hm : (⟨a.toArray⟩ : Str).cps.toList = a := rfl
  rw [hm] at fo
  unfold findS at h
  unfold Txt.find
  generalize Builtin.Str.occurrences (⟨a.toArray⟩ : Str) ⟨#[c]⟩ 0 (⟨a.toArray⟩ : Str).length 1 = os at *
  by_cases hc : c ∈ a
  · rw [if_pos hc] at h
    by_cases nd : a.Nodup
    · rw [if_pos nd] at h
      cases h
      cases os with
      | nil => simp [hc] at fo
      | cons j r =>
        dsimp only
        obtain ⟨h1, h2⟩ := sp j List.mem_cons_self
        have hj : a[j]? = some c := (StrLaws.subAt_one _ c j).mp ⟨h1, h2⟩
        have hlt : j < a.length := (List.getElem?_eq_some_iff.mp hj).1
        have e1 : a[j] = c := (List.getElem?_eq_some_iff.mp hj).2
        have : a.idxOf c = j := by
          rw [← e1]
          exact nd.idxOf_getElem j hlt
        rw [this]
    · rw [if_neg nd] at h; cases h
  · rw [if_neg hc] at h
    cases h
    cases os with
    | nil => rfl
    | cons j r => simp [hc] at fo
theorem mt_findX : MtR X "str.find" (rMth X.kw "find") := by
  intro pins s σ H x xs v us Q I rx rs ⟨B, d, q, ds, r, sh, hB, r1, _, ra, fl, hk, hQ⟩
  unfold mthV at hk
  rw [if_neg (by decide +kernel), if_pos rfl] at hk
  split at hk
  · rename_i a c _
    cases hf : findS a c with
    | none => rw [hf] at hk; cases hk
    | some i =>
      rw [hf] at hk
      cases hk
      obtain ⟨w, q', rfl, r2, _⟩ := ra.one
      rw [r1.strI] at rx
      rw [r2.strI] at rs
      refine mt_find pins s σ H _ _ v us Q I rx rs ⟨_, _, rfl, rfl, ?_⟩
      rw [show (⟨[c].toArray⟩ : Str) = ⟨#[c]⟩ from rfl, find_eq hf]
      exact hQ _ _ (.same (.int _))
  · cases hk
theorem mt_joinX : MtR X "str.join" (rMth X.kw "join") := by
  intro pins s σ H x xs v us Q I rx rs ⟨B, d, q, ds, r, sh, hB, r1, _, ra, fl, hk, hQ⟩
  unfold mthV at hk
  rw [if_pos rfl] at hk
  have len : ∀ ys : List Sg, (ys.map fun x => (⟨x.toArray⟩ : Str)).map (·.length) = ys.map List.length := fun ys => by
    rw [List.map_map]
    congr 1
  split at hk
  · rename_i a o es _
    cases hy : strsOf es with
    | none => rw [hy] at hk; cases hk
    | some ys =>
      rw [hy] at hk
      simp only [Option.bind_some] at hk
      split at hk
      · rename_i hz
        cases hk
        obtain ⟨p, vs, g, rfl, t, l, _⟩ := ra.lst
        rw [r1.strI] at rx
        refine mt_join pins s σ H _ _ v us Q I rx rs ⟨_, p, ys.map fun x => (⟨x.toArray⟩ : Str), rfl, rfl, .inl ?_, ?_, ?_⟩
        · rw [← l.strsOf hy]; exact .of t
        · rw [len, List.length_map, str_len]; exact hz
        · rw [join_eq]; exact hQ _ _ (.same (.str _))
      · cases hk
  · rename_i a es _
    cases hy : strsOf es with
    | none => rw [hy] at hk; cases hk
    | some ys =>
      rw [hy] at hk
      simp only [Option.bind_some] at hk
      split at hk
      · rename_i hz
        cases hk
        obtain ⟨p, vs, g, rfl, t, l, _⟩ := ra.tup
        rw [r1.strI] at rx
        refine mt_join pins s σ H _ _ v us Q I rx rs ⟨_, p, ys.map fun x => (⟨x.toArray⟩ : Str), rfl, rfl, .inr ?_, ?_, ?_⟩
        · rw [← l.strsOf hy]; exact t
        · rw [len, List.length_map, str_len]; exact hz
        · rw [join_eq]; exact hQ _ _ (.same (.str _))
      · cases hk
  · cases hk
end
section
variable {K : KW} {H H' : Hp} {B B' : Addr → Prop}
/-- a part taken out -/
theorem RpL.erase {vs ds q} : RpL K H B vs ds q → ∀ {n : Nat} {d : D}, ds[n]? = some d → ∃ v f pre post, vs[n]? = some v ∧ Rp K H B v d f ∧ q = pre ++ (f ++ post) ∧ RpL K H B (vs.eraseIdx n) (ds.eraseIdx n) (pre ++ post)
  | .nil, n, d, h => by simp at h
  | .cons (f := f) (fs := fs) h t, 0, d, e => by
    simp at e
    subst e
    exact ⟨_, f, [], fs, rfl, h, rfl, t⟩
  | .cons (f := f) (fs := fs) h t, n + 1, d, e => by
    obtain ⟨v, g, pre, post, h1, h2, h3, h4⟩ := RpL.erase t (n := n) (d := d) (by simpa using e)
    refine ⟨v, g, f ++ pre, post, by simpa using h1, h2, by rw [h3, List.append_assoc], ?_⟩
    have := RpL.cons h h4
    simpa [List.append_assoc] using this
/-- what a method does to its receiver, at its list's own place -/
def rMut (K : KW) (m : Str) : V → List V → Hp → VK → Prop := fun x xs H Q => ∃ (B : Addr → Prop) (d : D) (q : List Addr) (ds : List D) (fq : List Addr) (r d' : D), Rp K H B x d q ∧ RpL K H B xs ds fq ∧ (q ++ fq).Nodup ∧ (∀ a ∈ q, B a) ∧ mutV m d ds = some (r, d') ∧
  ∀ v H' q' qr, (∀ a o, H a = some o → a ∉ q → H' a = some o) → Rp K H' B x d' q' → Rp K H' B v r qr → (q' ++ qr).Nodup → (∀ a ∈ q' ++ qr, a ∈ q ++ fq) → Q v H'
theorem Rp.lstO {x : V} {ds : List D} {q : List Addr} (r : Rp K H B x (.lst true ds) q) : ∃ p vs f, x = .ref p ∧ H p = some (.lst vs) ∧ RpL K H B vs ds f ∧ q = p :: f := by
  cases r with
  | lo t l => exact ⟨_, _, _, rfl, t, l, rfl⟩
theorem upd_off {p : Addr} {o : HO} {q : List Addr} (h : p ∈ q) : ∀ a u, H a = some u → a ∉ q → upd H p o a = some u := fun a u e n => by
  rw [upd_ne (fun z => n (by rw [z]; exact h))]; exact e
end
section
variable {X : Cx}
theorem mt_appendX : MtR X "list.append" (rMut X.kw "append") := by
  intro pins s σ H x xs v us Q I rx rs ⟨B, d, q, ds, fq, r, d', r1, l1, nd, hB, hk, hQ⟩
  unfold mutV at hk
  rw [if_pos rfl] at hk
  split at hk
  · split at hk
    · rename_i es e hz
      cases hk
      obtain ⟨p, vs, f, rfl, t, l, rfl⟩ := r1.lstO
      cases l1 with
      | cons r2 l2 =>
        rename_i w g _ _
        cases l2
        rw [List.append_nil] at nd hQ
        have np : p ∉ f ∧ p ∉ g := by
          have := nd
          simp at this
          exact this.1
        have kp : ∀ a o, H a = some o → (¬ B a ∨ a ∈ f ∨ a ∈ g) → upd H p (.lst (vs ++ [w])) a = some o := fun a o e n => by
          refine (upd_ne fun z => ?_).trans e
          subst z
          rcases n with n | n | n
          · exact n (hB _ List.mem_cons_self)
          · exact np.1 n
          · exact np.2 n
        refine mt_append pins s σ H _ _ v us Q I rx rs ⟨p, vs, w, rfl, rfl, t, by rw [l.len, ← line_eq]; exact hz, ?_⟩
        have l' := l.mono (H' := upd H p (.lst (vs ++ [w]))) (B' := B) (fun a o e n => kp a o e (n.elim .inl fun z => .inr (.inl z))) fun a b => .inl b
        have r' := r2.mono (H' := upd H p (.lst (vs ++ [w]))) (B' := B) (fun a o e n => kp a o e (n.elim .inl fun z => .inr (.inr z))) fun a b => .inl b
        exact hQ _ _ (p :: (f ++ g)) [] (upd_off List.mem_cons_self) (.lo upd_same (l'.app (.one r'))) .non (by simpa using nd) (fun a h => by simpa using h)
    · cases hk
  · cases hk
theorem mt_extendX : MtR X "list.extend" (rMut X.kw "extend") := by
  intro pins s σ H x xs v us Q I rx rs ⟨B, d, q, ds, fq, r, d', r1, l1, nd, hB, hk, hQ⟩
  unfold mutV at hk
  rw [if_neg (by decide +kernel), if_neg (by decide +kernel), if_pos rfl] at hk
  split at hk
  · split at hk
    · rename_i es o ys hz
      cases hk
      obtain ⟨p, vs, f, rfl, t, l, rfl⟩ := r1.lstO
      cases l1 with
      | cons r2 l2 =>
        rename_i w g _ _
        cases l2
        rw [List.append_nil] at nd hQ
        obtain ⟨p2, zs, g2, rfl, t2, k2, kk⟩ : ∃ p2 zs g2, w = .ref p2 ∧ H p2 = some (.lst zs) ∧ RpL X.kw H B zs ys g2 ∧ (g2 = [] ∨ g = p2 :: g2) := by
          cases r2 with
          | lf t l => exact ⟨_, _, _, rfl, t.1, l, .inl rfl⟩
          | lo t l => exact ⟨_, _, _, rfl, t, l, .inr rfl⟩
        have sub2 : ∀ a ∈ g2, a ∈ g := fun a z => by
          rcases kk with kk | kk
          · rw [kk] at z; cases z
          · rw [kk]; exact List.mem_cons_of_mem _ z
        have nd2 : (p :: (f ++ g2)).Nodup := by
          rcases kk with kk | kk
          · rw [kk, List.append_nil]
            exact (List.nodup_append.mp nd).1
          · rw [kk] at nd
            have : (p :: (f ++ g2)).Sublist (p :: f ++ p2 :: g2) := by
              rw [List.cons_append]
              exact List.Sublist.cons₂ p (List.Sublist.append_left (List.sublist_cons_self p2 g2) f)
            exact nd.sublist this
        have np : p ∉ f ∧ p ∉ g := by
          have := nd
          simp at this
          exact this.1
        have kp : ∀ a o, H a = some o → (¬ B a ∨ a ∈ f ∨ a ∈ g) → upd H p (.lst (vs ++ zs)) a = some o := fun a o e n => by
          refine (upd_ne fun z => ?_).trans e
          subst z
          rcases n with n | n | n
          · exact n (hB _ List.mem_cons_self)
          · exact np.1 n
          · exact np.2 n
        refine mt_extend pins s σ H _ _ v us Q I rx rs ⟨p, p2, vs, zs, rfl, rfl, t, t2, by rw [l.len, k2.len, ← line_eq]; exact hz, ?_⟩
        have l' := l.mono (H' := upd H p (.lst (vs ++ zs))) (B' := B) (fun a o e n => kp a o e (n.elim .inl fun z => .inr (.inl z))) fun a b => .inl b
        have r' := k2.mono (H' := upd H p (.lst (vs ++ zs))) (B' := B) (fun a o e n => kp a o e (n.elim .inl fun z => .inr (.inr (sub2 a z)))) fun a b => .inl b
        exact hQ _ _ (p :: (f ++ g2)) [] (upd_off List.mem_cons_self) (.lo upd_same (l'.app r')) .non (by simpa using nd2) (fun a h => by
          have h : a = p ∨ a ∈ f ∨ a ∈ g2 := by simpa using h
          rcases h with h | h | h
          · simp [h]
          · simp [h]
          · simp [sub2 a h])
    · cases hk
  · cases hk
theorem mt_popX : MtR X "list.pop" (rMut X.kw "pop") := by
  intro pins s σ H x xs v us Q I rx rs ⟨B, d, q, ds, fq, r, d', r1, l1, nd, hB, hk, hQ⟩
  unfold mutV at hk
  rw [if_neg (by decide +kernel), if_pos rfl] at hk
  have main : ∀ {p : Addr} {vs : List V} {es : List D} {f : List Addr} {k : Nat} {e : D}, x = .ref p → H p = some (.lst vs) → RpL X.kw H B vs es f → q = p :: f → es[k]? = some e → r = e → d' = .lst true (es.eraseIdx k) → fq = [] →
      ∃ w, vs[k]? = some w ∧ Q w (upd H p (.lst (vs.eraseIdx k))) := by
    intro p vs es f k e ex t l eq hx er ed ef
    subst ex eq er ed ef
    obtain ⟨w, g, pre, post, h1, h2, h3, h4⟩ := l.erase hx
    rw [List.append_nil] at nd hQ
    have np : p ∉ f := by
      have := nd
      simp at this
      exact this.1
    have kp : ∀ a o, H a = some o → (¬ B a ∨ a ∈ f) → upd H p (.lst (vs.eraseIdx k)) a = some o := fun a o e n => by
      refine (upd_ne fun z => ?_).trans e
      subst z
      rcases n with n | n
      · exact n (hB _ List.mem_cons_self)
      · exact np n
    refine ⟨w, h1, ?_⟩
    have l' := h4.mono (H' := upd H p (.lst (vs.eraseIdx k))) (B' := B) (fun a o e n => kp a o e (n.elim .inl fun z => .inr (by rw [h3]; rcases List.mem_append.mp z with z | z <;> simp [z]))) fun a b => .inl b
    have r' := h2.mono (H' := upd H p (.lst (vs.eraseIdx k))) (B' := B) (fun a o e n => kp a o e (n.elim .inl fun z => .inr (by rw [h3]; simp [z]))) fun a b => .inl b
    refine hQ _ _ (p :: (pre ++ post)) g (upd_off List.mem_cons_self) (.lo upd_same l') r' ?_ fun a hm => ?_
    · rw [h3] at nd np
      have perm : ((p :: (pre ++ post)) ++ g).Perm (p :: (pre ++ (g ++ post))) := by
        refine List.Perm.cons p ?_
        show (pre ++ post ++ g).Perm _
        rw [List.append_assoc]
        exact List.Perm.append_left pre List.perm_append_comm
      exact perm.nodup_iff.mpr nd
    · rw [h3]
      have hm' : a = p ∨ (a ∈ pre ∨ a ∈ post) ∨ a ∈ g := by simpa [or_assoc] using hm
      rcases hm' with z | (z | z) | z <;> simp [z]
  split at hk
  · rename_i es
    cases hx : es[es.length - 1]? with
    | none => rw [hx] at hk; cases hk
    | some e =>
      rw [hx] at hk
      cases l1
      obtain ⟨p, vs, f, rfl, t, l, rfl⟩ := r1.lstO
      have e1 : r = e ∧ d' = .lst true es.dropLast := by cases hk; exact ⟨rfl, rfl⟩
      obtain ⟨w, h1, h2⟩ := main rfl t l rfl hx e1.1 (by rw [e1.2, List.eraseIdx_length_sub_one]) rfl
      refine mt_pop pins s σ H _ _ v us Q I rx rs ⟨p, vs, w, rfl, rfl, t, by rw [l.len]; exact h1, ?_⟩
      rw [← l.len, List.eraseIdx_length_sub_one] at h2
      exact h2
  · split at hk
    · rename_i es i hi
      cases hj : ixN es.length i with
      | none => rw [hj] at hk; cases hk
      | some k =>
        rw [hj] at hk
        simp only [Option.bind_some] at hk
        cases hx : es[k]? with
        | none => rw [hx] at hk; cases hk
        | some e =>
          rw [hx] at hk
          obtain ⟨p, vs, f, rfl, t, l, rfl⟩ := r1.lstO
          cases l1 with
          | cons r2 l2 =>
            cases l2
            cases r2
            have e1 : r = e ∧ d' = .lst true (es.eraseIdx k) := by cases hk; exact ⟨rfl, rfl⟩
            obtain ⟨w, h1, h2⟩ := main rfl t l rfl hx e1.1 e1.2 rfl
            have := ixN_seq (n := es.length) (i := i) (j := k) hj
            exact mt_popAt pins s σ H _ _ v us Q I rx rs ⟨p, vs, i, k, w, rfl, rfl, t, hi.1, hi.2, by rw [l.len]; exact this.1, h1, h2⟩
    · cases hk
  · cases hk
end
end Rw

set_option Elab.async false
set_option linter.all false
set_option maxRecDepth 100000
/-! RwG: an expression's evaluation, held against the judgements. -/
namespace Rw
open PySem PySem.Spec PyProof.Rows L2
theorem PE.imp {X : Cx} {e : Expr} {t t' : TE} (h : PE X e t) (i : ∀ σ H Q, t' σ H Q → t σ H Q) : PE X e t' := ⟨fun pins s σ H Q I q => h.run pins s σ H Q I (i σ H Q q)⟩
theorem PT.imp {X : Cx} {e : Expr} {t t' : TT} (h : PT X e t) (i : ∀ σ H Q, t' σ H Q → t σ H Q) : PT X e t' := ⟨fun pins s σ H Q I q => h.run pins s σ H Q I (i σ H Q q)⟩
/-- what holds of a result -/
def Rr.all {α : Type} (r : Rr α) (P : α → Env → Prop) (E : Exc → Env → Prop) : Prop := match r with
  | .ok a ρ => P a ρ
  | .exc x ρ => E x ρ
  | .stuck => False
theorem Rr.all.seq {α β : Type} {r : Rr α} {f : α → Env → Rr β} {P : β → Env → Prop} {E : Exc → Env → Prop} (h : (r.bind f).all P E) : r.all (fun a ρ => (f a ρ).all P E) E := by
  cases r with
  | ok a ρ => exact h
  | exc x ρ => exact h
  | stuck => exact h
theorem Rr.all.imp {α : Type} {r : Rr α} {P P' : α → Env → Prop} {E E' : Exc → Env → Prop} (h : r.all P E) (hp : ∀ a ρ, r = .ok a ρ → P a ρ → P' a ρ) (he : ∀ x ρ, E x ρ → E' x ρ) : r.all P' E' := by
  cases r with
  | ok a ρ => exact hp a ρ rfl h
  | exc x ρ => exact he x ρ h
  | stuck => exact h
/-- an error as it lies -/
def XAt (mg : Str → Option Value) (x : Exc) (cls : Value) (d : Option Addr) (H : Hp) : Prop := x.fs = [] ∧ mg x.cls = some cls
/-- what is tracked stays -/
def Keep (H H' : Hp) : Prop := ∀ a o, H a = some o → H' a = some o
section
variable {K : KW} {mg : Str → Option Value} {A₀ A A' A₁ : Addr → Prop} {σ : L2.St} {H H' H₁ : Hp} {ρ ρ' ρ₁ : Env} {fp fp' fp₁ : Nat → List Addr} {W : WX} {F : Fn} {e : Ex} {Q : VK}
/-- how an evaluation may leave the state -/
structure EOk (K : KW) (A₀ A : Addr → Prop) (fp : Nat → List Addr) (σ : L2.St) (H : Hp) (p : Bool) (ρ' : Env) (H' : Hp) (A' : Addr → Prop) (fp' : Nat → List Addr) : Prop where
  si : SI K A₀ A' σ H' ρ' fp'
  tr : Tr A fp H A' fp' H'
  kp : p = true → Keep H H'
def XPost (K : KW) (mg : Str → Option Value) (A₀ A : Addr → Prop) (fp : Nat → List Addr) (σ : L2.St) (H : Hp) (W : WX) (x : Exc) (ρ' : Env) : Prop :=
  ∀ cls d H' fp', SI K A₀ A σ H' ρ' fp' → Tr A fp H A fp' H' → XAt mg x cls d H' → W cls d σ H'
theorem Tr.dropA (t : Tr A fp H A₁ fp' H') (h : ∀ a, A a → A₁ a) : Tr A fp H A fp' H' := ⟨fun _ h => h, t.k, fun a b => t.b a (b.elim (fun z => .inl (h a z)) .inr)⟩
theorem XPost.later {x : Exc} (h : XPost K mg A₀ A fp σ H W x ρ') (S : SI K A₀ A σ H ρ fp) (S₁ : SI K A₀ A₁ σ H₁ ρ₁ fp₁) (t : Tr A fp H A₁ fp₁ H₁) : XPost K mg A₀ A₁ fp₁ σ H₁ W x ρ' := fun cls d H' fp' S' t' x' =>
  h cls d H' fp' (S'.drop S.sub t.a) ((t.trans S S₁ t').dropA t.a) x'
/-- the reading of an expression -/
def tE (K : KW) (mg : Str → Option Value) (W : WX) (F : Fn) (e : Ex) : TE := fun σ H Q => ∃ A₀ A ρ fp, SI K A₀ A σ H ρ fp ∧ (evE F e ρ).all (fun o ρ' => ∀ v H' A' fp', EOk K A₀ A fp σ H (pureE e) ρ' H' A' fp' → OpdOk K H' A A' (Bs A' fp') σ v o → Q v H') (XPost K mg A₀ A fp σ H W)
/-- the reading of a test -/
def tT (K : KW) (mg : Str → Option Value) (W : WX) (F : Fn) (e : Ex) : TT := fun σ H Q => ∃ A₀ A ρ fp, SI K A₀ A σ H ρ fp ∧ (tst (evE F e ρ)).all (fun b ρ' => ∀ H' A' fp', EOk K A₀ A fp σ H (pureE e) ρ' H' A' fp' → Q b H') (XPost K mg A₀ A fp σ H W)
/-- the reading of arguments -/
def tEs (K : KW) (mg : Str → Option Value) (W : WX) (F : Fn) (es : List Ex) : TA := fun σ H Q => ∃ A₀ A ρ fp, SI K A₀ A σ H ρ fp ∧ (evEs F es ρ).all (fun os ρ' => okPts os es = true ∧ ∀ vs H' A' fp' q, EOk K A₀ A fp σ H (pureEs es) ρ' H' A' fp' → OpdsR K H' (Bs A' fp') σ vs os q → q.Nodup → (∀ a ∈ q, A' a ∧ ¬ A a) → Q vs H') (XPost K mg A₀ A fp σ H W)
theorem EOk.refl (S : SI K A₀ A σ H ρ fp) {p : Bool} : EOk K A₀ A fp σ H p ρ H A fp := ⟨S, .refl, fun _ _ _ e => e⟩
theorem EOk.trans {p q r : Bool} (h : EOk K A₀ A fp σ H p ρ₁ H₁ A₁ fp₁) (S : SI K A₀ A σ H ρ fp) (g : EOk K A₀ A₁ fp₁ σ H₁ q ρ' H' A' fp') (hr : r = true → p = true ∧ q = true) : EOk K A₀ A fp σ H r ρ' H' A' fp' :=
  ⟨g.si, h.tr.trans S h.si g.tr, fun z a o e => g.kp (hr z).2 a o (h.kp (hr z).1 a o e)⟩
/-- a result is laid: the end of an operation -/
theorem EOk.res {p : Bool} (g : EOk K A₀ A fp σ H p ρ₁ H₁ A₁ fp₁) (S : SI K A₀ A σ H ρ fp) {v : V} {r : D} {H' : Hp} (R : Res K H₁ (Bs A₁ fp₁) v r H') : ∃ A', EOk K A₀ A fp σ H p ρ₁ H' A' fp₁ ∧ OpdOk K H' A A' (Bs A' fp₁) σ v (opd r) := by
  obtain ⟨q, rr, nd, fr, kp⟩ := R
  have S' : SI K A₀ (fun a => A₁ a ∨ a ∈ q) σ H' ρ₁ fp₁ := g.si.grow (fun a h => .inl (g.si.sub a h)) (fun a h => h.elim .inl fun z => .inr (fr a z)) (fun a h => h.elim (fun z => (g.si.tr a z).elim fun o e => ⟨o, kp a o e⟩) fun z => rr.there a z) kp
  have t' : Tr A₁ fp₁ H₁ (fun a => A₁ a ∨ a ∈ q) fp₁ H' := ⟨fun a h => .inl h, fun a o e _ => kp a o e, fun a b => by
    rcases b with (b | b) | b
    · exact .inl (.inl b)
    · exact .inr (fr a b)
    · exact .inl (.inr b)⟩
  have fA : ∀ a ∈ q, ¬ A a := fun a h hA => by
    obtain ⟨o, e⟩ := g.si.tr a (g.tr.a a hA)
    rw [fr a h] at e; cases e
  have rr' : Rp K H' (Bs (fun a => A₁ a ∨ a ∈ q) fp₁) v r q := rr.mono (fun _ _ e _ => e) fun a b => .inl (by
    rcases b with (b | b) | b
    · exact .inl (.inl b)
    · exact .inr b
    · exact .inl (.inr b))
  refine ⟨_, ⟨S', g.tr.trans S g.si t', fun z a o e => kp a o (g.kp z a o e)⟩, q, ?_, nd, fun a h => ⟨.inr h, fA a h⟩⟩
  unfold opd
  split
  · rename_i hf
    have := rr.fr hf
    subst this
    exact ⟨rfl, rr'⟩
  · exact rr'
end
section
variable {K : KW} {mg : Str → Option Value} {A₀ A A' A₁ : Addr → Prop} {σ : L2.St} {H H' H₁ : Hp} {ρ ρ' ρ₁ : Env} {fp fp' fp₁ : Nat → List Addr} {W : WX} {F : Fn} {e : Ex} {Q : VK} {p : Bool}
/-- one part, then the rest: g is what the whole gives behind the part's result -/
theorem tE.first (S : SI K A₀ A σ H ρ fp) {β : Type} {f : Opd → Env → Rr β} {P : β → Env → Prop} (h : ((evE F e ρ).bind f).all P (XPost K mg A₀ A fp σ H W))
    (k : ∀ o ρ₁, (f o ρ₁).all P (XPost K mg A₀ A fp σ H W) → ∀ v H₁ A₁ fp₁, EOk K A₀ A fp σ H (pureE e) ρ₁ H₁ A₁ fp₁ → OpdOk K H₁ A A₁ (Bs A₁ fp₁) σ v o → Q v H₁) : tE K mg W F e σ H Q :=
  ⟨A₀, A, ρ, fp, S, h.seq.imp (fun o ρ₁ _ h => k o ρ₁ h) fun _ _ h => h⟩
/-- the wish about errors, from a later state -/
theorem Xmatch {β : Type} {r : Rr β} {P : β → Env → Prop} (h : r.all P (XPost K mg A₀ A fp σ H W)) (S : SI K A₀ A σ H ρ fp) (S₁ : SI K A₀ A₁ σ H₁ ρ₁ fp₁) (t : Tr A fp H A₁ fp₁ H₁) : r.all P (XPost K mg A₀ A₁ fp₁ σ H₁ W) :=
  h.imp (fun _ _ _ h => h) fun _ _ h => XPost.later h S S₁ t
theorem OpdOk.early {B : Addr → Prop} {v : V} {o : Opd} (ok : OpdOk K H A₁ A' B σ v o) (h : ∀ a, A a → A₁ a) : OpdOk K H A A' B σ v o := by
  obtain ⟨q, h1, h2, h3⟩ := ok
  exact ⟨q, h1, h2, fun a z => ⟨(h3 a z).1, fun hA => (h3 a z).2 (h a hA)⟩⟩
theorem opd_flat {d : D} (h : flat d = true) : opd d = .fz d := by
  cases d <;> simp [flat] at h <;> rfl
theorem keep_of_okPt {o : Opd} {e : Ex} (h : okPt o e = true) {H H' : Hp} (kp : pureE e = true → Keep H H') : o.noPl ∨ ∀ a u, H a = some u → H' a = some u := by
  cases o with
  | fz d => exact .inl trivial
  | ow d => exact .inl trivial
  | pt i p =>
    cases p with
    | nil => exact .inl trivial
    | cons s p => exact .inr (kp h)
/-! ### the constructs -/
theorem rd_lit {d : D} {v : V} (hv : ∀ H B, Rp K H B v d []) : ∀ σ H Q, tE K mg W F (.lit d) σ H Q → tC v σ H Q := fun σ H Q ⟨A₀, A, ρ, fp, S, h⟩ =>
  h v H A fp (.refl S) (.fz (hv _ _))
theorem rd_dct0 : ∀ σ H Q, tE K mg W F .dct0 σ H Q → tDNewK σ H Q := fun σ H Q ⟨A₀, A, ρ, fp, S, h⟩ p hp => by
  rw [evE] at h
  have np : ¬ Bs A fp p := S.free hp
  have S2 := S.grow (A₁ := A) (H₁ := upd H p (.dK [])) S.sub (fun a h => .inl h) (fun a h => (S.tr a h).elim fun o e => ⟨o, upd_keep hp a o e⟩) (upd_keep hp)
  exact h (.ref p) _ A fp ⟨S2, ⟨fun _ h => h, fun a o e _ => upd_keep hp a o e, fun _ b => .inl b⟩, fun _ a o e => upd_keep hp a o e⟩ (.fz (.dE ⟨upd_same, np⟩))
theorem rd_dctN : ∀ σ H Q, tE K mg W F .dctN σ H Q → tDNewK σ H Q := fun σ H Q ⟨A₀, A, ρ, fp, S, h⟩ p hp => by
  rw [evE] at h
  have np : ∀ a, Bs A fp a → a ≠ p := fun a b e => S.free hp (by rw [← e]; exact b)
  have S₂ := S.grow (A₁ := fun a => A a ∨ a = p) (H₁ := upd H p (.dK [])) (fun a h => .inl (S.sub a h)) (fun a h => h.imp id fun z => by rw [z]; exact hp) (fun a h => h.elim (fun h => (S.tr a h).elim fun o e => ⟨o, upd_keep hp a o e⟩) fun z => ⟨.dK [], by rw [z]; exact upd_same⟩) (upd_keep hp)
  have hbB : ∀ a, Bs (fun a => A a ∨ a = p) fp a → Bs A fp a ∨ H a = none := fun a b => by
    rcases b with (b | b) | b
    · exact .inl (.inl b)
    · exact .inr (by rw [b]; exact hp)
    · exact .inl (.inr b)
  refine h (.ref p) _ _ fp ⟨S₂, ⟨fun _ h => .inl h, fun a o e _ => upd_keep hp a o e, hbB⟩, fun _ a o e => upd_keep hp a o e⟩ ⟨[p], .dw (as := []) (vs := []) (.inl ⟨upd_same, rfl, rfl, fun _ z => nomatch z⟩) .nil .nil, by simp, fun a z => ?_⟩
  rw [List.mem_singleton.mp z]
  exact ⟨.inr rfl, fun h => np p (.inl h) rfl⟩
theorem look_get {σ : L2.St} {i : Nat} {v : V} (h : look σ i = some v) : σ[i]? = some (some v) := by
  unfold look at h
  cases e : σ[i]? with
  | none => rw [e] at h; cases h
  | some x => rw [e] at h; exact congrArg some h
theorem rd_var {i : Nat} : ∀ σ H Q, tE K mg W F (.var i) σ H Q → tVar i σ H Q := fun σ H Q ⟨A₀, A, ρ, fp, S, h⟩ => by
  rw [evE] at h
  have so := S.sl i
  cases es : ρ[i]? with
  | none => rw [es] at h; exact h.elim
  | some s =>
    rw [es] at h
    rw [slot_get es] at so
    cases s with
    | un => exact h.elim
    | fz d =>
      obtain ⟨_, v, hv, r⟩ := so
      exact ⟨v, look_get hv, h v H A fp (.refl S) (.fz r)⟩
    | ow d =>
      obtain ⟨v, hv, r⟩ := so
      exact ⟨v, look_get hv, h v H A fp (.refl S) ⟨[], ⟨rfl, v, hv, rfl⟩, .nil, fun _ z => nomatch z⟩⟩
    | mw d =>
      obtain ⟨v, hv, r⟩ := so
      exact ⟨v, look_get hv, h v H A fp (.refl S) ⟨[], ⟨rfl, v, hv, rfl⟩, .nil, fun _ z => nomatch z⟩⟩
    | bw d =>
      obtain ⟨_, v, q, hv, r⟩ := so
      exact ⟨v, look_get hv, h v H A fp (.refl S) ⟨[], ⟨rfl, v, hv, rfl⟩, .nil, fun _ z => nomatch z⟩⟩
theorem rd_mv {i : Nat} : ∀ σ H Q, tE K mg W F (.mv i) σ H Q → tVar i σ H Q := fun σ H Q ⟨A₀, A, ρ, fp, S, h⟩ => by
  rw [evE] at h
  have so := S.sl i
  cases es : ρ[i]? with
  | none => rw [es] at h; exact h.elim
  | some s =>
    rw [es] at h
    rw [slot_get es] at so
    cases s with
    | un => exact h.elim
    | fz d =>
      obtain ⟨_, v, hv, r⟩ := so
      exact ⟨v, look_get hv, h v H A fp (.refl S) (.fz r)⟩
    | ow d =>
      obtain ⟨v, hv, r⟩ := so
      have hi := lt_of_get es
      have sub : ∀ a, Bs (fun a => A a ∨ a ∈ fp i) (fup fp i []) a → Bs A fp a := fun a b => by
        rcases b with (b | b) | ⟨j, b⟩
        · exact .inl b
        · exact .inr ⟨i, b⟩
        · by_cases e : j = i
          · rw [e, fup_same] at b; cases b
          · rw [fup_ne e] at b; exact .inr ⟨j, b⟩
      refine ⟨v, look_get hv, h v H (fun a => A a ∨ a ∈ fp i) (fup fp i []) ⟨?_, ⟨fun a h => .inl h, fun _ _ e _ => e, fun a b => .inl (sub a b)⟩, fun _ _ _ e => e⟩ ⟨fp i, r.mono (fun _ _ e _ => e) fun a b => .inl (sub a b), S.nd i, fun a z => ⟨.inr z, fun hA => S.na i a z hA⟩⟩⟩
      refine S.chg i (by rw [List.length_set]; exact S.len) (fun _ _ => rfl) (fun j hj => slot_set hj) (fun a h => .inl (S.sub a h)) (fun a h => h.elim .inl fun z => .inr (.inl z)) (fun a h => h.elim (S.tr a) fun z => (S.sl i).there a z) .nil (fun _ z => nomatch z) (fun _ z => nomatch z) (fun _ _ e _ => e) ?_
      rw [slot_set_same hi]
      exact rfl
    | mw d => exact h.elim
    | bw d => exact h.elim
/-- two operands, then an operation -/
theorem rd_two {a b e : Ex} {f : Opd → Opd → Env → Rr Opd} {r : R2} (he : ∀ ρ, evE F e ρ = (evE F a ρ).bind fun x ρ1 => (evE F b ρ1).bind fun y ρ2 => f x y ρ2) (hp : pureE e = (pureE a && pureE b))
    (hf : ∀ {A₀ A A₂ : Addr → Prop} {σ : L2.St} {H₂ : Hp} {ρ₂ : Env} {fp₂ : Nat → List Addr} {x y : V} {o u w : Opd} {ρ' : Env} {Q : VK}, SI K A₀ A₂ σ H₂ ρ₂ fp₂ → (okPt o b = true → OpdOk K H₂ A A₂ (Bs A₂ fp₂) σ x o) → OpdOk K H₂ A A₂ (Bs A₂ fp₂) σ y u →
      f o u ρ₂ = .ok w ρ' → (∀ v H', Res K H₂ (Bs A₂ fp₂) v w.val H' → w = opd w.val → Q v H') → (∀ v, OpdOk K H₂ A A₂ (Bs A₂ fp₂) σ v w → Q v H₂) → r x y H₂ Q)
    (hr : ∀ o u ρ₂, (∃ w, f o u ρ₂ = .ok w ρ₂) ∨ f o u ρ₂ = .stuck) : ∀ σ H Q, tE K mg W F e σ H Q → tOp r (tE K mg W F a) (tE K mg W F b) σ H Q := fun σ H Q ⟨A₀, A, ρ, fp, S, h⟩ => by
  rw [he] at h
  refine tE.first S h fun o ρ₁ h x H₁ A₁ fp₁ g₁ ok₁ => ?_
  refine tE.first g₁.si (Xmatch h S g₁.si g₁.tr) fun u ρ₂ h y H₂ A₂ fp₂ g₂ ok₂ => ?_
  have g := g₁.trans S g₂ (r := pureE e) fun z => by rw [hp, Bool.and_eq_true] at z; exact z
  rcases hr o u ρ₂ with ⟨w, ew⟩ | ew
  · rw [ew] at h
    refine hf g₂.si (fun hok => ok₁.later g₁.si g₂.tr (keep_of_okPt hok g₂.kp)) (ok₂.early g₁.tr.a) ew (fun v H' R hw => ?_) fun v okv => h v H₂ A₂ fp₂ g okv
    obtain ⟨A', g', ok'⟩ := g.res S R
    exact h v H' A' fp₂ g' (by rw [hw]; exact ok')
  · rw [ew] at h
    exact h.elim
theorem sh_of {A A' : Addr → Prop} {v : V} {o : Opd} {d : D} (S : SI K A₀ A' σ H ρ fp) (ok : OpdOk K H A A' (Bs A' fp) σ v o) (h : con ρ o = some d) (hs : shr o d = true) : ∃ q, Rp K H (Bs A' fp) v d q ∧ Sh d q := by
  unfold shr at hs
  rw [Bool.or_eq_true] at hs
  rcases hs with hs | hs
  · exact ⟨[], con_fr S ok h (.inl hs), .inl rfl⟩
  · obtain ⟨q, r, _⟩ := con_ok S ok h
    exact ⟨q, r, .inr hs⟩
theorem opd_val (r : D) : (opd r).val = r := by unfold opd; split <;> rfl
theorem ofOpt_ok {α : Type} {ρ ρ' : Env} {o : Option α} {w : α} (h : ofOpt ρ o = .ok w ρ') : o = some w ∧ ρ' = ρ := by
  cases o with
  | none => cases h
  | some a => cases h; exact ⟨rfl, rfl⟩
theorem ofOpt_or {α : Type} {ρ : Env} {o : Option α} : (∃ w, ofOpt ρ o = .ok w ρ) ∨ ofOpt ρ o = .stuck := by
  cases o with
  | none => exact .inr rfl
  | some a => exact .inl ⟨a, rfl⟩
theorem rd_bop {op : Operator} {a b : Ex} : ∀ σ H Q, tE K mg W F (.bop op a b) σ H Q → tOp (rBin K op) (tE K mg W F a) (tE K mg W F b) σ H Q := by
  refine rd_two (e := .bop op a b) (f := fun x y ρ2 => match con ρ2 x, con ρ2 y with
    | some d, some e => if okPt x b && (shr x d && shr y e) then ofOpt ρ2 ((bop op d e).map opd) else .stuck
    | _, _ => .stuck) (fun ρ => by rw [evE] <;> rfl) (by simp only [pureE]) ?_ ?_
  · intro A₀ A A₂ σ H₂ ρ₂ fp₂ x y o u w ρ' Q S okx oky h h1 _
    split at h
    · rename_i d e c1 c2
      split at h
      · rename_i hs
        rw [Bool.and_eq_true, Bool.and_eq_true] at hs
        obtain ⟨hb, _⟩ := ofOpt_ok h
        cases hb' : bop op d e with
        | none => rw [hb'] at hb; cases hb
        | some r =>
          rw [hb'] at hb
          have hw : opd r = w := Option.some.inj hb
          subst hw
          obtain ⟨q1, r1, s1⟩ := sh_of S (okx hs.1) c1 hs.2.1
          obtain ⟨q2, r2, s2⟩ := sh_of S oky c2 hs.2.2
          refine ⟨Bs A₂ fp₂, d, e, q1, q2, r, fun a b => S.bs b, r1, r2, s1, s2, hb', fun v H' R => h1 v H' ?_ ?_⟩
          · rw [opd_val]; exact R
          · rw [opd_val]
      · cases h
    · cases h
  · intro o u ρ₂
    split
    · split
      · exact ofOpt_or
      · exact .inr rfl
    · exact .inr rfl
theorem rd_cmp {op : Cop} {a b : Ex} : ∀ σ H Q, tE K mg W F (.cmp op a b) σ H Q → tOp (rCmp K op) (tE K mg W F a) (tE K mg W F b) σ H Q := by
  refine rd_two (e := .cmp op a b) (f := fun x y ρ2 => match con ρ2 x, con ρ2 y with
    | some d, some e => if okPt x b then ofOpt ρ2 ((cmpV op d e).map fun c => .fz (.bl c)) else .stuck
    | _, _ => .stuck) (fun ρ => by rw [evE] <;> rfl) (by simp only [pureE]) ?_ ?_
  · intro A₀ A A₂ σ H₂ ρ₂ fp₂ x y o u w ρ' Q S okx oky h _ h2
    split at h
    · rename_i d e c1 c2
      split at h
      · rename_i hs
        obtain ⟨hb, _⟩ := ofOpt_ok h
        cases hb' : cmpV op d e with
        | none => rw [hb'] at hb; cases hb
        | some k =>
          rw [hb'] at hb
          have hw : Opd.fz (.bl k) = w := Option.some.inj hb
          subst hw
          obtain ⟨q1, r1, _⟩ := con_ok S (okx hs) c1
          obtain ⟨q2, r2, _⟩ := con_ok S oky c2
          exact ⟨Bs A₂ fp₂, d, e, q1, q2, k, r1, r2, hb', h2 _ (.fz (.bl k))⟩
      · cases h
    · cases h
  · intro o u ρ₂
    split
    · split
      · exact ofOpt_or
      · exact .inr rfl
    · exact .inr rfl
/-! ### truth -/
theorem tru_ok' {v : V} {d : D} {q : List Addr} {B : Addr → Prop} (r : Rp K H B v d q) {k : Bool} (h : tru d = some k) : TruV K v H k := by
  unfold tru at h
  split at h
  · cases h; cases r; exact rfl
  · cases h; cases r; exact rfl
  · cases h; cases r; exact rfl
  · split at h
    · rename_i x hx
      cases h
      cases r
      refine ⟨by rw [str_len, ← line_eq]; exact hx, ?_⟩
      rw [str_len]
      cases x with
      | nil => rfl
      | cons c t =>
        have : (((c :: t).length : Nat) : Int) ≠ 0 := by simp only [List.length_cons]; omega
        simpa using this
    · cases h
  · cases h
    cases r with
    | tup t l =>
      refine .inr (.inl ⟨_, t.sq, ?_⟩)
      cases l <;> rfl
  · cases h
    cases r with
    | lf t l =>
      refine .inl ⟨_, .of t.1, ?_⟩
      generalize hq : ([] : List Addr) = q at l
      cases l <;> rfl
    | lo t l =>
      refine .inl ⟨_, .of t, ?_⟩
      cases l <;> rfl
  · rename_i kvs
    split at h
    · rename_i hk
      cases h
      obtain ⟨p, as, vs, rfl, t, l, m, _⟩ := r.dct
      obtain ⟨h1, h2⟩ := dct_f t hk
      refine .inr (.inr ⟨_, h1, ?_⟩)
      cases kvs with
      | nil => rfl
      | cons q kvs =>
        cases vs with
        | nil => cases h2
        | cons v vs => rfl
    · cases h
  · cases h
  · cases h
theorem tru_of {A A' : Addr → Prop} {v : V} {o : Opd} (S : SI K A₀ A' σ H ρ fp) (ok : OpdOk K H A A' (Bs A' fp) σ v o) {k : Bool} (h : (con ρ o).bind tru = some k) : TruV K v H k := by
  cases c1 : con ρ o with
  | none => rw [c1] at h; cases h
  | some d =>
    rw [c1] at h
    obtain ⟨q, r, _⟩ := con_ok S ok c1
    exact tru_ok' r h
theorem rd_band {a b : Ex} : ∀ σ H Q, tE K mg W F (.band a b) σ H Q → tAndT K (tE K mg W F a) (tE K mg W F b) σ H Q := fun σ H Q ⟨A₀, A, ρ, fp, S, h⟩ => by
  rw [evE] at h
  refine tE.first S h fun o ρ₁ h x H₁ A₁ fp₁ g₁ ok₁ => ?_
  split at h
  · rename_i ht
    exact ⟨true, tru_of g₁.si ok₁ ht, A₀, A₁, ρ₁, fp₁, g₁.si, (Xmatch h S g₁.si g₁.tr).imp (fun u ρ₂ _ h v H' A' fp' g₂ ok₂ => h v H' A' fp' (g₁.trans S g₂ fun z => by simpa [pureE] using z) (ok₂.early g₁.tr.a)) fun _ _ h => h⟩
  · rename_i ht
    exact ⟨false, tru_of g₁.si ok₁ ht, h x H₁ A₁ fp₁ ⟨g₁.si, g₁.tr, fun z => g₁.kp (by simp [pureE] at z; exact z.1)⟩ ok₁⟩
  · exact h.elim
theorem rd_bor {a b : Ex} : ∀ σ H Q, tE K mg W F (.bor a b) σ H Q → tOrT K (tE K mg W F a) (tE K mg W F b) σ H Q := fun σ H Q ⟨A₀, A, ρ, fp, S, h⟩ => by
  rw [evE] at h
  refine tE.first S h fun o ρ₁ h x H₁ A₁ fp₁ g₁ ok₁ => ?_
  split at h
  · rename_i ht
    exact ⟨true, tru_of g₁.si ok₁ ht, h x H₁ A₁ fp₁ ⟨g₁.si, g₁.tr, fun z => g₁.kp (by simp [pureE] at z; exact z.1)⟩ ok₁⟩
  · rename_i ht
    exact ⟨false, tru_of g₁.si ok₁ ht, A₀, A₁, ρ₁, fp₁, g₁.si, (Xmatch h S g₁.si g₁.tr).imp (fun u ρ₂ _ h v H' A' fp' g₂ ok₂ => h v H' A' fp' (g₁.trans S g₂ fun z => by simpa [pureE] using z) (ok₂.early g₁.tr.a)) fun _ _ h => h⟩
  · exact h.elim
theorem rd_bnot {a : Ex} : ∀ σ H Q, tE K mg W F (.bnot a) σ H Q → tNotT K (tE K mg W F a) σ H Q := fun σ H Q ⟨A₀, A, ρ, fp, S, h⟩ => by
  rw [evE] at h
  refine tE.first S h fun o ρ₁ h x H₁ A₁ fp₁ g₁ ok₁ => ?_
  split at h
  · rename_i k ht
    exact ⟨k, tru_of g₁.si ok₁ ht, h _ H₁ A₁ fp₁ ⟨g₁.si, g₁.tr, fun z => g₁.kp (by simpa [pureE] using z)⟩ (.fz (.bl _))⟩
  · exact h.elim
/-- a test by its value's truth -/
theorem rd_tst {e : Ex} : ∀ σ H Q, tT K mg W F e σ H Q → (fun σ H (Q : Bool → Hp → Prop) => tE K mg W F e σ H fun x H' => ∃ k, TruV K x H' k ∧ Q k H') σ H Q := fun σ H Q ⟨A₀, A, ρ, fp, S, h⟩ => by
  refine tE.first S h fun o ρ₁ h x H₁ A₁ fp₁ g₁ ok₁ => ?_
  cases ht : (con ρ₁ o).bind tru with
  | none => rw [ht] at h; exact h.elim
  | some k =>
    rw [ht] at h
    exact ⟨k, tru_of g₁.si ok₁ ht, h H₁ A₁ fp₁ g₁⟩
theorem tst_bind {α : Type} {r : Rr α} {f : α → Env → Rr Opd} : tst (r.bind f) = r.bind fun a ρ => tst (f a ρ) := by cases r <;> rfl
theorem tst_all {r : Rr Opd} {P : Bool → Env → Prop} {E : Exc → Env → Prop} (h : r.all (fun o ρ => (ofOpt ρ ((con ρ o).bind tru)).all P E) E) : (tst r).all P E := by
  cases r with
  | ok o ρ => exact h
  | exc x ρ => exact h
  | stuck => exact h
/-- the test of a and b -/
theorem rt_band {a b : Ex} : ∀ σ H Q, tT K mg W F (.band a b) σ H Q → tAnd (tT K mg W F a) (tT K mg W F b) σ H Q := fun σ H Q ⟨A₀, A, ρ, fp, S, h⟩ => by
  refine ⟨A₀, A, ρ, fp, S, ?_⟩
  rw [evE, tst_bind] at h
  refine tst_all (h.seq.imp (fun o ρ₁ _ h => ?_) fun _ _ h => h)
  split at h
  · rename_i ht
    rw [ht]
    exact fun H₁ A₁ fp₁ g₁ => ⟨A₀, A₁, ρ₁, fp₁, g₁.si, (Xmatch h S g₁.si g₁.tr).imp (fun u ρ₂ _ h H' A' fp' g₂ => h H' A' fp' (g₁.trans S g₂ fun z => by simpa [pureE] using z)) fun _ _ h => h⟩
  · rename_i ht
    rw [ht]
    have h' : (ofOpt ρ₁ ((con ρ₁ o).bind tru)).all _ _ := h
    rw [ht] at h'
    exact fun H₁ A₁ fp₁ g₁ => h' H₁ A₁ fp₁ ⟨g₁.si, g₁.tr, fun z => g₁.kp (by simp [pureE] at z; exact z.1)⟩
  · exact h.elim
theorem rt_bor {a b : Ex} : ∀ σ H Q, tT K mg W F (.bor a b) σ H Q → tOr (tT K mg W F a) (tT K mg W F b) σ H Q := fun σ H Q ⟨A₀, A, ρ, fp, S, h⟩ => by
  refine ⟨A₀, A, ρ, fp, S, ?_⟩
  rw [evE, tst_bind] at h
  refine tst_all (h.seq.imp (fun o ρ₁ _ h => ?_) fun _ _ h => h)
  split at h
  · rename_i ht
    rw [ht]
    have h' : (ofOpt ρ₁ ((con ρ₁ o).bind tru)).all _ _ := h
    rw [ht] at h'
    exact fun H₁ A₁ fp₁ g₁ => h' H₁ A₁ fp₁ ⟨g₁.si, g₁.tr, fun z => g₁.kp (by simp [pureE] at z; exact z.1)⟩
  · rename_i ht
    rw [ht]
    exact fun H₁ A₁ fp₁ g₁ => ⟨A₀, A₁, ρ₁, fp₁, g₁.si, (Xmatch h S g₁.si g₁.tr).imp (fun u ρ₂ _ h H' A' fp' g₂ => h H' A' fp' (g₁.trans S g₂ fun z => by simpa [pureE] using z)) fun _ _ h => h⟩
  · exact h.elim
theorem rt_bnot {a : Ex} : ∀ σ H Q, tT K mg W F (.bnot a) σ H Q → tNot (tT K mg W F a) σ H Q := fun σ H Q ⟨A₀, A, ρ, fp, S, h⟩ => by
  refine ⟨A₀, A, ρ, fp, S, ?_⟩
  rw [evE, tst_bind] at h
  refine tst_all (h.seq.imp (fun o ρ₁ _ h => ?_) fun _ _ h => h)
  split at h
  · rename_i k ht
    rw [ht]
    exact fun H₁ A₁ fp₁ g₁ => h H₁ A₁ fp₁ ⟨g₁.si, g₁.tr, fun z => g₁.kp (by simpa [pureE] using z)⟩
  · exact h.elim
theorem rd_ife {c a b : Ex} : ∀ σ H Q, tE K mg W F (.ife c a b) σ H Q → tIf (tT K mg W F c) (tE K mg W F a) (tE K mg W F b) σ H Q := fun σ H Q ⟨A₀, A, ρ, fp, S, h⟩ => by
  rw [evE] at h
  refine ⟨A₀, A, ρ, fp, S, h.seq.imp (fun t ρ₁ _ h H₁ A₁ fp₁ g₁ => ?_) fun _ _ h => h⟩
  have h := Xmatch h S g₁.si g₁.tr
  cases t with
  | true => exact ⟨A₀, A₁, ρ₁, fp₁, g₁.si, h.imp (fun u ρ₂ _ h v H' A' fp' g₂ ok₂ => h v H' A' fp' (g₁.trans S g₂ fun z => by simp [pureE] at z; exact ⟨z.1, z.2.1⟩) (ok₂.early g₁.tr.a)) fun _ _ h => h⟩
  | false => exact ⟨A₀, A₁, ρ₁, fp₁, g₁.si, h.imp (fun u ρ₂ _ h v H' A' fp' g₂ ok₂ => h v H' A' fp' (g₁.trans S g₂ fun z => by simp [pureE] at z; exact ⟨z.1, z.2.2⟩) (ok₂.early g₁.tr.a)) fun _ _ h => h⟩
theorem rd_cmp2 {op op' : Cop} {a b c : Ex} : ∀ σ H Q, tE K mg W F (.cmp2 op op' a b c) σ H Q → tChain (rCmp K op) (rCmp K op') (tE K mg W F a) (tE K mg W F b) (tE K mg W F c) σ H Q := fun σ H Q ⟨A₀, A, ρ, fp, S, h⟩ => by
  rw [evE] at h
  refine tE.first S h fun o ρ₁ h x H₁ A₁ fp₁ g₁ ok₁ => ?_
  refine tE.first g₁.si (Xmatch h S g₁.si g₁.tr) fun u ρ₂ h y H₂ A₂ fp₂ g₂ ok₂ => ?_
  have g := g₁.trans S g₂ (r := pureE a && pureE b) fun z => by rw [Bool.and_eq_true] at z; exact z
  split at h
  · rename_i d e c1 c2
    split at h
    · rename_i hs
      rw [Bool.and_eq_true] at hs
      have ok₁' := ok₁.later g₁.si g₂.tr (keep_of_okPt hs.1 g₂.kp)
      obtain ⟨q1, r1, _⟩ := con_ok g₂.si ok₁' c1
      obtain ⟨q2, r2, _⟩ := con_ok g₂.si ok₂ c2
      split at h
      · rename_i hk
        refine ⟨Bs A₂ fp₂, d, e, q1, q2, true, r1, r2, hk, true, rfl, ?_⟩
        refine tE.first g₂.si (Xmatch h g₁.si g₂.si g₂.tr) fun z ρ₃ h w H₃ A₃ fp₃ g₃ ok₃ => ?_
        have ok₂' := ok₂.later g₂.si g₃.tr (keep_of_okPt hs.2 g₃.kp)
        split at h
        · rename_i e' k' c3 c4
          cases hb : cmpV op' e' k' with
          | none => rw [hb] at h; exact h.elim
          | some k2 =>
            rw [hb] at h
            obtain ⟨q3, r3, _⟩ := con_ok g₃.si ok₂' c3
            obtain ⟨q4, r4, _⟩ := con_ok g₃.si ok₃ c4
            refine ⟨Bs A₃ fp₃, e', k', q3, q4, k2, r3, r4, hb, h _ H₃ A₃ fp₃ (g.trans S g₃ fun z => ?_) (.fz (.bl _))⟩
            simp [pureE] at z
            simp [z]
        · exact h.elim
      · rename_i hk
        refine ⟨Bs A₂ fp₂, d, e, q1, q2, false, r1, r2, hk, false, rfl, ?_⟩
        exact h _ H₂ A₂ fp₂ ⟨g.si, g.tr, fun z => g.kp (by simp [pureE] at z; simp [z])⟩ (.fz (.bl _))
      · exact h.elim
    · exact h.elim
  · exact h.elim
theorem noPl_of {o : Opd} (h : o.noPlB = true) : o.noPl := by
  cases o with
  | fz d => trivial
  | ow d => trivial
  | pt i p =>
    cases p with
    | nil => trivial
    | cons s p => cases h
/-! ### several -/
theorem rd_nil : ∀ σ H Q, tEs K mg W F [] σ H Q → tNil σ H Q := fun σ H Q ⟨A₀, A, ρ, fp, S, h⟩ => by
  rw [evEs] at h
  exact h.2 [] H A fp [] (.refl S) .nil .nil fun _ z => nomatch z
theorem OpdOk.r {B : Addr → Prop} {v : V} {o : Opd} (ok : OpdOk K H A A' B σ v o) : ∃ q, OpdR K H B σ v o q ∧ q.Nodup ∧ ∀ a ∈ q, A' a ∧ ¬ A a := ok
theorem rd_cons {e : Ex} {es : List Ex} : ∀ σ H Q, tEs K mg W F (e :: es) σ H Q → tCons (tE K mg W F e) (tEs K mg W F es) σ H Q := fun σ H Q ⟨A₀, A, ρ, fp, S, h⟩ => by
  rw [evEs] at h
  refine tE.first S h fun o ρ₁ h x H₁ A₁ fp₁ g₁ ok₁ => ?_
  refine ⟨A₀, A₁, ρ₁, fp₁, g₁.si, (Xmatch h S g₁.si g₁.tr).seq.imp (fun os ρ₂ _ h => ?_) fun _ _ h => h⟩
  obtain ⟨hk, h⟩ := h
  unfold okPts at hk
  rw [List.all_cons, Bool.or_eq_true, Bool.and_eq_true] at hk
  refine ⟨?_, fun vs H₂ A₂ fp₂ q g₂ rs nd hq => ?_⟩
  · unfold okPts
    rw [Bool.or_eq_true]
    refine hk.imp (·.2) fun z => ?_
    rw [pureEs, Bool.and_eq_true] at z
    exact z.2
  · obtain ⟨q1, r1', nd1, hq1⟩ := ok₁
    have r1 := r1'.later (fun a z => (hq1 a z).1) g₁.si g₂.tr (hk.elim (fun z => .inl (noPl_of z.1)) fun z => .inr (g₂.kp (by rw [pureEs, Bool.and_eq_true] at z; exact z.2)))
    refine h (x :: vs) H₂ A₂ fp₂ (q1 ++ q) (g₁.trans S g₂ fun z => by rw [pureEs, Bool.and_eq_true] at z; exact z) (.cons r1 rs) ?_ fun a z => ?_
    · rw [List.nodup_append]
      exact ⟨nd1, nd, fun a h1 b h2 e => (hq b h2).2 (hq1 b (by rw [← e]; exact h1)).1⟩
    · rcases List.mem_append.mp z with z | z
      · exact ⟨g₂.tr.a a (hq1 a z).1, (hq1 a z).2⟩
      · exact ⟨(hq a z).1, fun hA => (hq a z).2 (g₁.tr.a a hA)⟩
/-- the operands handed on for good -/
theorem als (g : EOk K A₀ A fp σ H p ρ₁ H₁ A₁ fp₁) {vs : List V} {os : List Opd} {q : List Addr} (rs : OpdsR K H₁ (Bs A₁ fp₁) σ vs os q) {ds : List D} {b : Bool} {ρ₂ : Env} (h : aliases ρ₁ os = some (ds, b, ρ₂)) :
    ∃ fp₂, EOk K A₀ A fp σ H p ρ₂ H₁ A₁ fp₂ ∧ RpL K H₁ (Bs A₁ fp₂) vs ds q ∧ (b = true → q = []) ∧ (∀ a, Bs A₁ fp₂ a → Bs A₁ fp₁ a) := by
  obtain ⟨fp₂, S₂, sub, l, hb⟩ := aliases_ok g.si rs h
  exact ⟨fp₂, ⟨S₂, ⟨g.tr.a, g.tr.k, fun a z => g.tr.b a (sub a z)⟩, g.kp⟩, l, hb, sub⟩
theorem if_some {α : Type} {c : Bool} {o : Option α} {x : α} (h : (if c = true then o else none) = some x) : c = true ∧ o = some x := by
  split at h
  · rename_i hc; exact ⟨hc, h⟩
  · cases h
theorem rd_tup {es : List Ex} : ∀ σ H Q, tE K mg W F (.tup es) σ H Q → tTup (tEs K mg W F es) σ H Q := fun σ H Q ⟨A₀, A, ρ, fp, S, h⟩ => by
  rw [evE] at h
  refine ⟨A₀, A, ρ, fp, S, h.seq.imp (fun os ρ₁ _ h => ?_) fun _ _ h => h⟩
  split at h
  · rename_i ds b ρ₂ ha
    obtain ⟨hk, ha⟩ := if_some ha
    refine ⟨hk, fun vs H₁ A₁ fp₁ q g rs nd hq => ?_⟩
    obtain ⟨fp₂, g₂, l, hb, _⟩ := als g rs ha
    split at h
    · rename_i hz
      refine ⟨by rw [l.len, ← line_eq]; exact hz, fun p hp => ?_⟩
      have S₂ := g₂.si.grow (A₁ := A₁) (H₁ := upd H₁ p (.tup vs)) g₂.si.sub (fun a h => .inl h) (fun a h => (g₂.si.tr a h).elim fun o e => ⟨o, upd_keep hp a o e⟩) (upd_keep hp)
      have g' : EOk K A₀ A fp σ H (pureE (.tup es)) ρ₂ (upd H₁ p (.tup vs)) A₁ fp₂ := ⟨S₂, ⟨g₂.tr.a, fun a o e n => upd_keep hp a o (g₂.tr.k a o e n), g₂.tr.b⟩, fun z a o e => upd_keep hp a o (g₂.kp (by simpa [pureE] using z) a o e)⟩
      have rt : Rp K (upd H₁ p (.tup vs)) (Bs A₁ fp₂) (.ref p) (.tup ds) q := .tup (.inl ⟨.inl upd_same, g₂.si.free hp⟩) (l.mono (fun a o e _ => upd_keep hp a o e) fun a b => .inl b)
      refine h _ _ A₁ fp₂ g' ?_
      cases b with
      | true =>
        rw [hb rfl] at rt
        exact .fz rt
      | false => exact ⟨q, rt, nd, hq⟩
    · exact h.elim
  · exact h.elim
theorem rd_lst {es : List Ex} : ∀ σ H Q, tE K mg W F (.lst es) σ H Q → tLst (tEs K mg W F es) σ H Q := fun σ H Q ⟨A₀, A, ρ, fp, S, h⟩ => by
  rw [evE] at h
  refine ⟨A₀, A, ρ, fp, S, h.seq.imp (fun os ρ₁ _ h => ?_) fun _ _ h => h⟩
  split at h
  · rename_i ds b ρ₂ ha
    obtain ⟨hk, ha⟩ := if_some ha
    refine ⟨hk, fun vs H₁ A₁ fp₁ q g rs nd hq => ?_⟩
    obtain ⟨fp₂, g₂, l, hb, _⟩ := als g rs ha
    split at h
    · rename_i hz
      refine ⟨by rw [l.len, ← line_eq]; exact hz, fun p hp => ?_⟩
      have np : ∀ a, Bs A₁ fp₂ a → a ≠ p := fun a b e => by
        obtain ⟨o, eo⟩ := g₂.si.bs b
        rw [e, hp] at eo; cases eo
      have S₂ := g₂.si.grow (A₁ := fun a => A₁ a ∨ a = p) (H₁ := upd H₁ p (.lst vs)) (fun a h => .inl (g₂.si.sub a h)) (fun a h => h.imp id fun z => by rw [z]; exact hp) (fun a h => h.elim (fun h => (g₂.si.tr a h).elim fun o e => ⟨o, upd_keep hp a o e⟩) fun z => ⟨.lst vs, by rw [z]; exact upd_same⟩) (upd_keep hp)
      have hbB : ∀ a, Bs (fun a => A₁ a ∨ a = p) fp₂ a → Bs A₁ fp₂ a ∨ H₁ a = none := fun a b => by
        rcases b with (b | b) | b
        · exact .inl (.inl b)
        · exact .inr (by rw [b]; exact hp)
        · exact .inl (.inr b)
      have g' : EOk K A₀ A fp σ H (pureE (.lst es)) ρ₂ (upd H₁ p (.lst vs)) (fun a => A₁ a ∨ a = p) fp₂ :=
        ⟨S₂, g₂.tr.trans S g₂.si ⟨fun a h => .inl h, fun a o e _ => upd_keep hp a o e, hbB⟩, fun z a o e => upd_keep hp a o (g₂.kp (by simpa [pureE] using z) a o e)⟩
      have pA : ¬ A p := fun h => np p (.inl (g₂.tr.a p h)) rfl
      refine h _ _ _ fp₂ g' ⟨p :: q, .lo upd_same (l.mono (fun a o e _ => upd_keep hp a o e) hbB), ?_, fun a z => ?_⟩
      · rw [List.nodup_cons]
        exact ⟨fun z => np p (.inl (hq p z).1) rfl, nd⟩
      · rcases List.mem_cons.mp z with z | z
        · rw [z]; exact ⟨.inr rfl, pA⟩
        · exact ⟨.inl (hq a z).1, (hq a z).2⟩
    · exact h.elim
  · exact h.elim
theorem frP_i : ∀ {kvs : List (D × D)}, isFrL (kD kvs) = true → isFrL (vD kvs) = true → isFr (.dct false kvs) = true
  | [], _, _ => rfl
  | (k, v) :: t, h1, h2 => by
    have h1 : (isFr k && isFrL (kD t)) = true := h1
    have h2 : (isFr v && isFrL (vD t)) = true := h2
    rw [Bool.and_eq_true] at h1 h2
    have := frP_i h1.2 h2.2
    have this : (!false && isFrP t) = true := this
    show (!false && (isFr k && (isFr v && isFrP t))) = true
    simp only [Bool.not_false, Bool.true_and] at this ⊢
    rw [h1.1, h2.1, this] <;> rfl
mutual
theorem Rp.frI {B : Addr → Prop} {v d} : ∀ {q}, Rp K H B v d q → q = [] → isFr d = true
  | _, .non, _ => rfl
  | _, .bl b, _ => rfl
  | _, .int i, _ => rfl
  | _, .str x, _ => rfl
  | _, .scr _, _ => rfl
  | _, .dE _, _ => rfl
  | _, .dz _ _ l m, _ => frP_i (RpL.frI l rfl) (RpL.frI m rfl)
  | _, .dw _ _ _, h => nomatch h
  | _, .tup t l, h => RpL.frI l h
  | _, .lf t l, _ => by
    have := RpL.frI l rfl
    simpa [isFr] using this
  | _, .lo t l, h => nomatch h
  | _, .of t e l, _ => by
    have := RpL.frI l rfl
    rw [isFr, frF_eq, this] <;> rfl
  | _, .oo t e l, h => nomatch h
theorem RpL.frI {B : Addr → Prop} {vs ds} : ∀ {q}, RpL K H B vs ds q → q = [] → isFrL ds = true
  | _, .nil, _ => rfl
  | _, .cons r l, h => by
    have h' := List.append_eq_nil_iff.mp h
    rw [isFrL, Rp.frI r h'.1, RpL.frI l h'.2] <;> rfl
end
theorem rd_sub {a i : Ex} : ∀ σ H Q, tE K mg W F (.sub a i) σ H Q → tOp (rIdx K) (tE K mg W F a) (tE K mg W F i) σ H Q := by
  refine rd_two (e := .sub a i) (f := fun x y ρ2 => match con ρ2 x, con ρ2 y with
    | some d, some k => if okPt x i then (match ixVal d k with
      | some e => (match x with
        | .fz _ => .ok (.fz e) ρ2
        | .ow _ => if isFr e then .ok (.fz e) ρ2 else .stuck
        | .pt j p => if isFr e then .ok (.fz e) ρ2 else (match ixStp d k with
          | some st => .ok (.pt j (p ++ [st])) ρ2
          | none => .stuck))
      | none => .stuck) else .stuck
    | _, _ => .stuck) (fun ρ => by rw [evE] <;> rfl) (by simp only [pureE]) ?_ ?_
  · intro A₀ A A₂ σ H₂ ρ₂ fp₂ x y o u w ρ' Q S okx oky h _ h2
    split at h
    · rename_i d k c1 c2
      split at h
      · rename_i hs
        have okx := okx hs
        obtain ⟨q2, r2, _⟩ := con_ok S oky c2
        split at h
        · rename_i e he
          cases o with
          | fz d' =>
            cases h
            have r1 := con_fr S okx c1 (.inl rfl)
            refine ⟨Bs A₂ fp₂, d, k, [], q2, e, r1, r2, he, fun v hv => h2 v (.fz ?_)⟩
            rcases hv with ⟨c, rfl, rfl⟩ | ⟨q, rv, hq, _⟩
            · exact .str [c]
            · have : q = [] := List.eq_nil_iff_forall_not_mem.mpr fun a z => nomatch hq a z
              rw [this] at rv; exact rv
          | ow d' =>
            dsimp only at h
            split at h
            · rename_i hf
              cases h
              obtain ⟨q1, r1, _⟩ := con_ok S okx c1
              refine ⟨Bs A₂ fp₂, d, k, q1, q2, e, r1, r2, he, fun v hv => h2 v (.fz ?_)⟩
              rcases hv with ⟨c, rfl, rfl⟩ | ⟨q, rv, hq, _⟩
              · exact .str [c]
              · rw [rv.fr hf] at rv; exact rv
            · cases h
          | pt j p =>
            dsimp only at h
            obtain ⟨q1, r1, _⟩ := con_ok S okx c1
            split at h
            · rename_i hf
              cases h
              refine ⟨Bs A₂ fp₂, d, k, q1, q2, e, r1, r2, he, fun v hv => h2 v (.fz ?_)⟩
              rcases hv with ⟨c, rfl, rfl⟩ | ⟨q, rv, hq, _⟩
              · exact .str [c]
              · rw [rv.fr hf] at rv; exact rv
            · rename_i hf
              split at h
              · rename_i st hst
                cases h
                refine ⟨Bs A₂ fp₂, d, k, q1, q2, e, r1, r2, he, fun v hv => h2 v ?_⟩
                rcases hv with ⟨c, rfl, rfl⟩ | ⟨q, rv, hq, hv⟩
                · exact (hf rfl).elim
                · obtain ⟨_, ⟨_, r, hr, va⟩, _⟩ := okx
                  exact ⟨[], ⟨rfl, r, hr, va.app (hv st hst fun z => hf (rv.frI z))⟩, .nil, fun _ z => nomatch z⟩
              · cases h
        · cases h
      · cases h
    · cases h
  · intro o u ρ₂
    split
    · split
      · split
        · cases o with
          | fz d => exact .inl ⟨_, rfl⟩
          | ow d =>
            dsimp only
            split
            · exact .inl ⟨_, rfl⟩
            · exact .inr rfl
          | pt j p =>
            dsimp only
            split
            · exact .inl ⟨_, rfl⟩
            · split
              · exact .inl ⟨_, rfl⟩
              · exact .inr rfl
        · exact .inr rfl
      · exact .inr rfl
    · exact .inr rfl
/-- d.get(k) -/
def tDG (K : KW) (td ty : TE) : TE := fun σ H Q => td σ H fun x H1 => (∃ (B : Addr → Prop) (o : Bool) (kvs : List (D × D)) (q : List Addr), Rp K H1 B x (.dct o kvs) q) ∧ ty σ H1 fun y H2 =>
  ∃ (B : Addr → Prop) (o : Bool) (kvs : List (D × D)) (k : D) (q1 q2 : List Addr) (r : Option D), Rp K H2 B x (.dct o kvs) q1 ∧ Rp K H2 B y k q2 ∧ dGet kvs k = some r ∧ ∀ z, Rp K H2 B z (r.getD .non) [] → Q z H2
theorem rd_dget {a i : Ex} : ∀ σ H Q, tE K mg W F (.dget a i) σ H Q → tDG K (tE K mg W F a) (tE K mg W F i) σ H Q := fun σ H Q ⟨A₀, A, ρ, fp, S, h⟩ => by
  rw [evE] at h
  refine tE.first S h fun o ρ₁ h x H₁ A₁ fp₁ g₁ ok₁ => ?_
  split at h
  · rename_i oo kvs0 c1
    obtain ⟨q0, r0, _⟩ := con_ok g₁.si ok₁ c1
    refine ⟨⟨_, _, _, _, r0⟩, A₀, A₁, ρ₁, fp₁, g₁.si, (Xmatch h S g₁.si g₁.tr).seq.imp (fun y ρ₂ _ h v H₂ A₂ fp₂ g₂ ok₂ => ?_) fun _ _ h => h⟩
    split at h
    · rename_i o2 kvs k c2 c3
      split at h
      · rename_i hs
        have hx := ok₁.later g₁.si g₂.tr (keep_of_okPt hs g₂.kp)
        obtain ⟨q1, r1, _⟩ := con_ok g₂.si hx c2
        obtain ⟨q2, r2, _⟩ := con_ok g₂.si ok₂ c3
        split at h
        · rename_i r hr
          exact ⟨_, _, kvs, k, q1, q2, r, r1, r2, hr, fun z hz => h z H₂ A₂ fp₂ (g₁.trans S g₂ fun z => by simpa [pureE] using z) (.fz hz)⟩
        · exact h.elim
      · exact h.elim
    · exact h.elim
  · exact h.elim
/-! ### fields -/
/-- what F says of classes' fields holds -/
def FldOk (K : KW) (F : Fn) : Prop := ∀ c f, F.flds c f = true → Cls K (He.ga K (Str.ofString c)) ∧ NoAttr K (He.ga K (Str.ofString c)) (Str.ofString f)
/-- an object in the heap -/
theorem Rp.obj {B : Addr → Prop} {v : V} {o : Bool} {c : String} {fs : List (String × D)} {q : List Addr} (r : Rp K H B v (.obj o c fs) q) : ∃ p dx vs f0, v = .ref p ∧ H p = some (.ins (He.ga K (Str.ofString c)) dx vs) ∧ vs.map (·.1) = fN fs ∧ RpL K H B (vs.map (·.2)) (fD fs) f0 ∧ ∀ a ∈ f0, a ∈ q := by
  cases r with
  | of t e l => exact ⟨_, _, _, _, rfl, t.1, e, l, fun _ z => z⟩
  | oo t e l => exact ⟨_, _, _, _, rfl, t, e, l, fun a z => List.mem_cons_of_mem _ z⟩
theorem rd_fld {a : Ex} {f : String} (hF : FldOk K F) : ∀ σ H Q, tE K mg W F (.fld a f) σ H Q → tFld K (tE K mg W F a) (Str.ofString f) σ H Q := fun σ H Q ⟨A₀, A, ρ, fp, S, h⟩ => by
  rw [evE] at h
  refine tE.first S h fun o ρ₁ h x H₁ A₁ fp₁ g₁ ok₁ => ?_
  split at h
  · rename_i oo c fs c1
    split at h
    · rename_i hf
      obtain ⟨k1, k2⟩ := hF c f hf
      split at h
      · rename_i e he
        obtain ⟨q1, r1, hq1⟩ := con_ok g₁.si ok₁ c1
        obtain ⟨p, dx, vs, f0, rfl, hp, hn, l, hl0⟩ := r1.obj
        obtain ⟨n, hn1, hv, _⟩ := fld_at hn he
        obtain ⟨y, g, pre, post, hy, ry, eq⟩ := l.get hn1
        obtain ⟨hl, _⟩ := hv y hy
        refine ⟨p, _, dx, vs, y, rfl, hp, k1, k2, hl, ?_⟩
        have gE : EOk K A₀ A fp σ H (pureE (.fld a f)) ρ₁ H₁ A₁ fp₁ := ⟨g₁.si, g₁.tr, fun z => g₁.kp (by simpa [pureE] using z)⟩
        cases o with
        | fz d' =>
          have r0 := con_fr g₁.si ok₁ c1 (.inl rfl)
          have hfr : isFr (.obj oo c fs) = true := r0.frI rfl
          have hfe : isFr e = true := by
            rw [isFr, frF_eq, Bool.and_eq_true] at hfr
            have : ∀ {xs : List D} {n : Nat} {x : D}, isFrL xs = true → xs[n]? = some x → isFr x = true := by
              intro xs
              induction xs with
              | nil => intro n x _ h; simp at h
              | cons z xs ih =>
                intro n x h h2
                rw [isFrL, Bool.and_eq_true] at h
                cases n with
                | zero => simp at h2; rw [← h2]; exact h.1
                | succ n => exact ih h.2 (by simpa using h2)
            exact this hfr.2 hn1
          rw [ry.fr hfe] at ry
          exact h y H₁ A₁ fp₁ gE (.fz ry)
        | ow d' =>
          dsimp only at h
          split at h
          · rename_i hfe
            rw [ry.fr hfe] at ry
            exact h y H₁ A₁ fp₁ gE (.fz ry)
          · exact h.elim
        | pt j pl =>
          dsimp only at h
          split at h
          · rename_i hfe
            rw [ry.fr hfe] at ry
            exact h y H₁ A₁ fp₁ gE (.fz ry)
          · obtain ⟨_, ⟨_, r, hr, va⟩, _⟩ := ok₁
            exact h y H₁ A₁ fp₁ gE ⟨[], ⟨rfl, r, hr, va.app ⟨p, _, dx, vs, y, rfl, hp, hl, rfl⟩⟩, .nil, fun _ z => nomatch z⟩
      · exact h.elim
    · exact h.elim
  · exact h.elim
/-! ### slices -/
def tO (K : KW) (mg : Str → Option Value) (W : WX) (F : Fn) (e : Option Ex) : TO := fun σ H Q => ∃ A₀ A ρ fp, SI K A₀ A σ H ρ fp ∧ (evO F e ρ).all (fun o ρ' => ∀ H' A' fp', EOk K A₀ A fp σ H (pureO e) ρ' H' A' fp' → Q o H') (XPost K mg A₀ A fp σ H W)
theorem rd_none : ∀ σ H Q, tO K mg W F none σ H Q → tNoPart σ H Q := fun σ H Q ⟨A₀, A, ρ, fp, S, h⟩ => by
  rw [evO] at h
  exact h H A fp (.refl S)
theorem rd_some {e : Ex} : ∀ σ H Q, tO K mg W F (some e) σ H Q → tPart (tE K mg W F e) σ H Q := fun σ H Q ⟨A₀, A, ρ, fp, S, h⟩ => by
  rw [evO] at h
  refine tE.first S h fun o ρ₁ h x H₁ A₁ fp₁ g₁ ok₁ => ?_
  split at h
  · obtain ⟨q, r, _⟩ := ok₁
    exact ⟨_, r.2.intI, h H₁ A₁ fp₁ g₁⟩
  · exact h.elim
theorem keep_of_okPtO {o : Opd} {e : Option Ex} (h : okPtO o e = true) {H H' : Hp} (kp : pureO e = true → Keep H H') : o.noPl ∨ ∀ a u, H a = some u → H' a = some u := by
  cases o with
  | fz d => exact .inl trivial
  | ow d => exact .inl trivial
  | pt i p =>
    cases p with
    | nil => exact .inl trivial
    | cons s p => exact .inr (kp h)
theorem rd_slc {a : Ex} {lo hi : Option Ex} : ∀ σ H Q, tE K mg W F (.slc a lo hi) σ H Q → tSl (rSli K) (tE K mg W F a) (tO K mg W F lo) (tO K mg W F hi) σ H Q := fun σ H Q ⟨A₀, A, ρ, fp, S, h⟩ => by
  rw [evE] at h
  refine tE.first S h fun o ρ₁ h x H₁ A₁ fp₁ g₁ ok₁ => ?_
  refine ⟨A₀, A₁, ρ₁, fp₁, g₁.si, (Xmatch h S g₁.si g₁.tr).seq.imp (fun l ρ₂ _ h H₂ A₂ fp₂ g₂ => ?_) fun _ _ h => h⟩
  refine ⟨A₀, A₂, ρ₂, fp₂, g₂.si, (Xmatch h g₁.si g₂.si g₂.tr).seq.imp (fun u ρ₃ _ h H₃ A₃ fp₃ g₃ => ?_) fun _ _ h => h⟩
  have g12 := g₁.trans S g₂ (r := pureE a && pureO lo) fun z => by rw [Bool.and_eq_true] at z; exact z
  have g := g12.trans S g₃ (r := pureE (.slc a lo hi)) fun z => by simp [pureE] at z; simp [z]
  split at h
  · rename_i d c1
    split at h
    · rename_i hs
      rw [Bool.and_eq_true, Bool.and_eq_true] at hs
      have ok₁' := (ok₁.later g₁.si g₂.tr (keep_of_okPtO hs.1 g₂.kp)).later g₂.si g₃.tr (keep_of_okPtO hs.2.1 g₃.kp)
      obtain ⟨q, r, sh⟩ := sh_of g₃.si ok₁' c1 hs.2.2
      cases hb : slice d l u with
      | none => rw [hb] at h; exact h.elim
      | some r' =>
        rw [hb] at h
        refine ⟨Bs A₃ fp₃, d, q, r', fun a b => g₃.si.bs b, r, sh, hb, fun v H' R => ?_⟩
        obtain ⟨A', g', ok'⟩ := g.res S R
        exact h v H' A' fp₃ g' ok'
    · exact h.elim
  · exact h.elim
/-! ### built-ins -/
theorem cons_con {os : List Opd} {ds : List D} (h : cons_ ρ os = some ds) : (os = [] ∧ ds = []) ∨ ∃ o os' d ds', os = o :: os' ∧ ds = d :: ds' ∧ con ρ o = some d ∧ cons_ ρ os' = some ds' := by
  cases os with
  | nil => cases h; exact .inl ⟨rfl, rfl⟩
  | cons o os =>
    rw [cons_] at h
    split at h
    · rename_i d ds' h1 h2
      cases h
      exact .inr ⟨o, os, d, ds', rfl, rfl, h1, h2⟩
    · cases h
theorem args_of (S : SI K A₀ A' σ H ρ fp) {sh : Bool} : ∀ {vs : List V} {os : List Opd} {q : List Addr} {ds : List D}, OpdsR K H (Bs A' fp) σ vs os q → (∀ a ∈ q, A' a) → cons_ ρ os = some ds → (sh = true → shrs os ds = true) → ArgsR K H (Bs A' fp) sh vs ds
  | _, _, _, _, .nil, _, h, _ => by cases h; exact .nil
  | _, _, _, _, .cons (v := v) (o := o) (os := os) (q := q1) (Q := q2) r t, hq, h, hs => by
    rw [cons_] at h
    split at h
    · rename_i d ds' h1 h2
      cases h
      have hs' : sh = true → shr o d = true ∧ shrs os ds' = true := fun z => by
        have := hs z
        rw [shrs, Bool.and_eq_true] at this
        exact this
      have rr : ∃ q, Rp K H (Bs A' fp) v d q ∧ (sh = true → Sh d q) := by
        cases o with
        | fz e => cases h1; exact ⟨[], r.2, fun _ => .inl rfl⟩
        | ow e =>
          cases h1
          exact ⟨q1, r, fun z => .inr (by have := (hs' z).1; simpa [shr, Opd.isFz] using this)⟩
        | pt i p =>
          obtain ⟨e0, w, hw, va⟩ := r
          obtain ⟨q, rr, _⟩ := con_ok (A := A') (v := v) (o := .pt i p) S ⟨[], ⟨rfl, w, hw, va⟩, .nil, fun _ z => nomatch z⟩ h1
          exact ⟨q, rr, fun z => .inr (by have := (hs' z).1; simpa [shr, Opd.isFz] using this)⟩
      obtain ⟨q, rr, sq⟩ := rr
      exact .cons rr sq (args_of S t (fun a z => hq a (List.mem_append_right _ z)) h2 fun z => (hs' z).2)
    · cases h
theorem rd_bi {f : Str} {es : List Ex} : ∀ σ H Q, tE K mg W F (.bi f es) σ H Q → tCB (rBi K f) (tEs K mg W F es) σ H Q := fun σ H Q ⟨A₀, A, ρ, fp, S, h⟩ => by
  rw [evE] at h
  refine ⟨A₀, A, ρ, fp, S, h.seq.imp (fun os ρ₁ _ h => ?_) fun _ _ h => h⟩
  split at h
  · rename_i ds hc
    split at h
    · rename_i hk
      refine ⟨hk, fun vs H₁ A₁ fp₁ q g rs nd hq => ?_⟩
      split at h
      · rename_i r hr
        split at h
        · rename_i hs
          have fin : ∀ v H', Res K H₁ (Bs A₁ fp₁) v r H' → Q v H' := fun v H' R => by
            obtain ⟨A', g', ok'⟩ := g.res S R
            exact h v H' A' fp₁ ⟨g'.si, g'.tr, fun z => g'.kp (by simpa [pureE] using z)⟩ ok'
          rw [Bool.or_eq_true] at hs
          rcases hs with hs | hs
          · exact ⟨Bs A₁ fp₁, ds, r, false, fun a b => g.si.bs b, args_of g.si rs (fun a z => (hq a z).1) hc (fun z => nomatch z), .inl hs, hr, fin⟩
          · exact ⟨Bs A₁ fp₁, ds, r, true, fun a b => g.si.bs b, args_of g.si rs (fun a z => (hq a z).1) hc (fun _ => hs), .inr rfl, hr, fin⟩
        · exact h.elim
      · exact h.elim
    · exact h.elim
  · exact h.elim
def rIsI (K : KW) (t : Str) : List V → Hp → VK → Prop := fun xs H Q => ∃ (B : Addr → Prop) (x c : V) (d : D) (q : List Addr) (k : Bool), xs = [x, c] ∧ Rp K H B x d q ∧ isInst d t = some k ∧ Q (.bl k) H
theorem rd_isi {a : Ex} {t : Str} {c : V} : ∀ σ H Q, tE K mg W F (.isi a t) σ H Q → tCB (fun xs H Q => ∃ (B : Addr → Prop) (x : V) (d : D) (q : List Addr) (k : Bool), xs = [x, c] ∧ Rp K H B x d q ∧ isInst d t = some k ∧ Q (.bl k) H) (tCons (tE K mg W F a) (tCons (tC c) tNil)) σ H Q := fun σ H Q ⟨A₀, A, ρ, fp, S, h⟩ => by
  rw [evE] at h
  refine tE.first S h fun o ρ₁ h x H₁ A₁ fp₁ g₁ ok₁ => ?_
  split at h
  · rename_i d c1
    cases hb : isInst d t with
    | none => rw [hb] at h; exact h.elim
    | some k =>
      rw [hb] at h
      obtain ⟨q, r, _⟩ := con_ok g₁.si ok₁ c1
      exact ⟨Bs A₁ fp₁, x, d, q, k, rfl, r, hb, h _ H₁ A₁ fp₁ ⟨g₁.si, g₁.tr, fun z => g₁.kp (by simpa [pureE] using z)⟩ (.fz (.bl _))⟩
  · exact h.elim
theorem rd_neg {a : Ex} : ∀ σ H Q, tE K mg W F (.neg a) σ H Q → tUn (rU fun i => .int (-i)) (tE K mg W F a) σ H Q := fun σ H Q ⟨A₀, A, ρ, fp, S, h⟩ => by
  rw [evE] at h
  refine tE.first S h fun o ρ₁ h x H₁ A₁ fp₁ g₁ ok₁ => ?_
  split at h
  · obtain ⟨q, r, _⟩ := ok₁
    exact ⟨_, r.2.intI, h _ H₁ A₁ fp₁ ⟨g₁.si, g₁.tr, fun z => g₁.kp (by simpa [pureE] using z)⟩ (.fz (.int _))⟩
  · exact h.elim
end
end Rw

set_option Elab.async false
set_option linter.all false
set_option maxRecDepth 100000
/-! RwH: methods, calls of the program's own defs. -/
namespace Rw
open PySem PySem.Spec PyProof.Rows L2
section
variable {K : KW} {mg : Str → Option Value} {A₀ A A' A₁ : Addr → Prop} {σ : L2.St} {H H' H₁ : Hp} {ρ ρ' ρ₁ : Env} {fp fp' fp₁ : Nat → List Addr} {W : WX} {F : Fn} {e : Ex} {Q : VK} {p : Bool}
theorem getD_map {o : Option D} {f : D → Bool} (h : (o.map f).getD false = true) : ∃ d, o = some d ∧ f d = true := by
  cases o with
  | none => cases h
  | some d => exact ⟨d, rfl, h⟩
theorem Rr.if_all {α : Type} {c : Bool} {r : Rr α} {P : α → Env → Prop} {E : Exc → Env → Prop} (h : (if c = true then r else .stuck).all P E) : c = true ∧ r.all P E := by
  split at h
  · rename_i hc; exact ⟨hc, h⟩
  · exact h.elim
/-- a method that changes nothing, of a text -/
theorem rd_mth {m : Str} {o : Ex} {es : List Ex} (hm : isMut m = false) : ∀ σ H Q, tE K mg W F (.mth m o es) σ H Q → tBM K "str" (rMth K m) (tE K mg W F o) (tEs K mg W F es) σ H Q := fun σ H Q ⟨A₀, A, ρ, fp, S, h⟩ => by
  rw [evE] at h
  refine tE.first S h fun x ρ₁ h v H₁ A₁ fp₁ g₁ ok₁ => ?_
  obtain ⟨hty, h⟩ := Rr.if_all h
  obtain ⟨d0, hd0, hty⟩ := getD_map hty
  refine ⟨?_, ?_⟩
  · obtain ⟨q, r, _⟩ := con_ok g₁.si ok₁ hd0
    unfold tyOk at hty
    rw [hm] at hty
    cases d0 <;> first | (rw [r.strI]; exact rfl) | simp at hty
  · refine ⟨A₀, A₁, ρ₁, fp₁, g₁.si, (Xmatch h S g₁.si g₁.tr).seq.imp (fun os ρ₂ _ h => ?_) fun _ _ h => h⟩
    obtain ⟨hs, h⟩ := Rr.if_all h
    rw [Bool.and_eq_true] at hs
    refine ⟨hs.2, fun vs H₂ A₂ fp₂ q g₂ rs nd hq => ?_⟩
    rw [hm] at h
    have hx := ok₁.later g₁.si g₂.tr (keep_of_okPt hs.1 (fun z => g₂.kp (by simpa [pureE] using z)))
    have h : (match con ρ₂ x, cons_ ρ₂ os with
      | some d, some ds => (match mthV m d ds with
        | some r => if flat r || (shr x d && shrs os ds) then Rr.ok (opd r) ρ₂ else .stuck
        | none => .stuck)
      | _, _ => .stuck).all _ _ := h
    split at h
    · rename_i d ds c1 c2
      split at h
      · rename_i r hr
        obtain ⟨hf, h⟩ := Rr.if_all h
        have fin : ∀ v H', Res K H₂ (Bs A₂ fp₂) v r H' → Q v H' := fun v H' R => by
          obtain ⟨A', g', ok'⟩ := (g₁.trans S g₂ (r := pureE (.mth m o es)) fun z => by simp [pureE] at z; simp [z]).res S R
          exact h v H' A' fp₂ g' ok'
        rw [Bool.or_eq_true] at hf
        rcases hf with hf | hf
        · obtain ⟨q1, r1, _⟩ := con_ok g₂.si hx c1
          exact ⟨Bs A₂ fp₂, d, q1, ds, r, false, fun a b => g₂.si.bs b, r1, (fun z => nomatch z), args_of g₂.si rs (fun a z => (hq a z).1) c2 (fun z => nomatch z), .inl hf, hr, fin⟩
        · rw [Bool.and_eq_true] at hf
          obtain ⟨q1, r1, s1⟩ := sh_of g₂.si hx c1 hf.1
          exact ⟨Bs A₂ fp₂, d, q1, ds, r, true, fun a b => g₂.si.bs b, r1, fun _ => s1, args_of g₂.si rs (fun a z => (hq a z).1) c2 (fun _ => hf.2), .inr rfl, hr, fin⟩
      · exact h.elim
    · exact h.elim
/-- a method that changes its receiver -/
theorem rd_mut {m : Str} {o : Ex} {es : List Ex} (hm : isMut m = true) : ∀ σ H Q, tE K mg W F (.mth m o es) σ H Q → tBM K "list" (rMut K m) (tE K mg W F o) (tEs K mg W F es) σ H Q := fun σ H Q ⟨A₀, A, ρ, fp, S, h⟩ => by
  rw [evE] at h
  refine tE.first S h fun x ρ₁ h v H₁ A₁ fp₁ g₁ ok₁ => ?_
  obtain ⟨hty, h⟩ := Rr.if_all h
  obtain ⟨d0, hd0, hty⟩ := getD_map hty
  refine ⟨?_, ?_⟩
  · obtain ⟨q, r, _⟩ := con_ok g₁.si ok₁ hd0
    unfold tyOk at hty
    rw [hm] at hty
    rw [if_pos rfl] at hty
    split at hty
    · obtain ⟨p, vs, f, rfl, t, l, _⟩ := r.lstO
      exact .inl ⟨rfl, _, .of t⟩
    · cases hty
  · refine ⟨A₀, A₁, ρ₁, fp₁, g₁.si, (Xmatch h S g₁.si g₁.tr).seq.imp (fun os ρ₂ _ h => ?_) fun _ _ h => h⟩
    obtain ⟨hs, h⟩ := Rr.if_all h
    rw [Bool.and_eq_true] at hs
    refine ⟨hs.2, fun vs H₂ A₂ fp₂ q g₂ rs nd hq => ?_⟩
    rw [hm] at h
    have hx := ok₁.later g₁.si g₂.tr (keep_of_okPt hs.1 (fun z => g₂.kp (by simpa [pureE] using z)))
    have g := g₁.trans S g₂ (r := false) (fun z => nomatch z)
    rw [if_pos rfl] at h
    cases x with
    | fz d => exact h.elim
    | ow d => exact h.elim
    | pt i pl =>
      dsimp only at h
      split at h
      · rename_i ds b ρ₃ ha
        obtain ⟨fp₃, g₃, l, _, sub⟩ := als g rs ha
        split at h
        · rename_i d hd
          split at h
          · rename_i r d' hmv
            split at h
            · rename_i ρ₄ hset
              obtain ⟨_, ⟨_, w, hw, va⟩, _⟩ := hx
              obtain ⟨f, pre, post, k1, k2, k3⟩ := g₃.si.putAt hd hw va hset
              have ndi := g₃.si.nd i
              have fB : ∀ a ∈ f, Bs A₂ fp₃ a := fun a z => .inr ⟨i, by rw [k1]; simp [z]⟩
              have fnA : ∀ a ∈ f, ¬ A₂ a := fun a z => g₃.si.na i a (by rw [k1]; simp [z])
              have ndf : f.Nodup := by
                rw [k1] at ndi
                exact (List.nodup_append.mp (List.nodup_append.mp ndi).2.1).1
              refine ⟨Bs A₂ fp₃, d, f, ds, q, r, d', k2, l, ?_, fB, hmv, fun v' H' q' qr kp rd' rr ndq hqq => ?_⟩
              · rw [List.nodup_append]
                exact ⟨ndf, nd, fun a h1 b h2 e => fnA a h1 (by rw [e]; exact (hq b h2).1)⟩
              have mem : ∀ a, a ∈ q' ∨ a ∈ qr → a ∈ f ∨ a ∈ q := fun a z => by
                have := hqq a (List.mem_append.mpr z)
                exact List.mem_append.mp this
              have memB : ∀ a, a ∈ q' ∨ a ∈ qr → Bs A₂ fp₃ a := fun a z => (mem a z).elim (fB a) fun y => .inl (hq a y).1
              have ndq' := List.nodup_append.mp ndq
              have A0 : ∀ a, A a → (A₂ a ∧ a ∉ q) ∨ a ∈ qr := fun a h => .inl ⟨g₃.tr.a a h, fun z => (hq a z).2 (g₁.tr.a a h)⟩
              have sub' : ∀ a, Bs (fun a => (A₂ a ∧ a ∉ q) ∨ a ∈ qr) (fup fp₃ i (pre ++ (q' ++ post))) a → Bs A₂ fp₃ a := fun a b => by
                rcases b with (b | b) | ⟨j, b⟩
                · exact .inl b.1
                · exact memB a (.inr b)
                · by_cases e : j = i
                  · rw [e, fup_same] at b
                    have b' : a ∈ pre ∨ a ∈ q' ∨ a ∈ post := by simpa using b
                    rcases b' with z | z | z
                    · exact .inr ⟨i, by rw [k1]; simp [z]⟩
                    · exact memB a (.inl z)
                    · exact .inr ⟨i, by rw [k1]; simp [z]⟩
                  · rw [fup_ne e] at b
                    exact .inr ⟨j, b⟩
              have S4 := k3 (A₁ := fun a => (A₂ a ∧ a ∉ q) ∨ a ∈ qr) (H₁ := H') (f' := q') (fun a h => A0 a (S.sub a h)) (fun a h => by
                  rcases h with h | h
                  · exact .inl h.1
                  · exact (mem a (.inr h)).elim (fun z => .inr (.inl z)) fun z => .inl (hq a z).1)
                (fun a h => by
                  rcases h with h | h
                  · obtain ⟨o, eo⟩ := g₃.si.tr a h.1
                    exact ⟨o, kp a o eo fun z => fnA a z h.1⟩
                  · exact rr.there a h)
                ndq'.1 (fun a h => (mem a (.inl h)).elim .inl fun z => .inr (.inl (hq a z).1))
                (fun a h hA => by
                  rcases hA with hA | hA
                  · rcases mem a (.inl h) with z | z
                    · exact fnA a z hA.1
                    · exact hA.2 z
                  · exact ndq'.2.2 a h a hA rfl)
                kp (rd'.mono (fun _ _ e _ => e) fun a b => .inl (sub' a b))
              have t4 : Tr A fp H (fun a => (A₂ a ∧ a ∉ q) ∨ a ∈ qr) (fup fp₃ i (pre ++ (q' ++ post))) H' := ⟨A0, fun a o e n => by
                have e2 := g₃.tr.k a o e n
                refine kp a o e2 fun z => ?_
                rcases g₃.tr.b a (fB a z) with (y | ⟨j, y⟩) | y
                · exact fnA a z (g₃.tr.a a y)
                · exact n j y
                · exact absurd (e.symm.trans y) (fun z => by cases z), fun a b => g₃.tr.b a (sub' a b)⟩
              refine h v' H' _ _ ⟨S4, t4, fun z => ?_⟩ ⟨qr, ?_, ndq'.2.1, fun a z => ⟨.inr z, fun hA => ?_⟩⟩
              · have : pureE (.mth m o es) = false := by
                  unfold isMut at hm
                  simp [pureE, hm]
                rw [this] at z; cases z
              · unfold opd
                have rr' := rr.mono (H' := H') (B' := Bs (fun a => (A₂ a ∧ a ∉ q) ∨ a ∈ qr) (fup fp₃ i (pre ++ (q' ++ post)))) (fun _ _ e _ => e) fun a b => .inl (sub' a b)
                split
                · rename_i hf
                  have := rr.fr hf
                  subst this
                  exact ⟨rfl, rr'⟩
                · exact rr'
              · rcases mem a (.inr z) with y | y
                · exact fnA a y (g₃.tr.a a hA)
                · exact (hq a y).2 (g₁.tr.a a hA)
            · exact h.elim
          · exact h.elim
        · exact h.elim
      · exact h.elim
/-! ### calls -/
theorem alPass_ok : ∀ {ms : List Mode} {os os' : List Opd} {vs : List V} {q : List Addr} {ρ ρ' : Env} {fp : Nat → List Addr}, SI K A₀ A' σ H ρ fp → OpdsR K H (Bs A' fp) σ vs os q → alPass ρ ms os = some (os', ρ') →
    ∃ fp', SI K A₀ A' σ H ρ' fp' ∧ (∀ a, Bs A' fp' a → Bs A' fp a) ∧ OpdsR K H (Bs A' fp') σ vs os' q ∧ os'.length = ms.length ∧ ∀ (j : Nat) (i : Nat) (p : List Stp), ms[j]? = some .al → os'[j]? ≠ some (.pt i p)
  | [], [], os', _, _, ρ, ρ', fp, S, .nil, h => by
    have e : some ([], ρ) = some (os', ρ') := h
    cases e
    exact ⟨fp, S, fun _ b => b, .nil, rfl, fun j i p h => by simp at h⟩
  | [], _ :: _, os', _, _, ρ, ρ', fp, S, _, h => by cases h
  | m :: ms, [], os', _, _, ρ, ρ', fp, S, _, h => by cases m <;> cases h
  | m :: ms, o :: os, os', _, _, ρ, ρ', fp, S, .cons (v := v) (q := q) (vs := vs) (Q := Q) r t, h => by
    have rest : ∀ {o' : Opd} {ρ1 : Env} {fp1 : Nat → List Addr}, SI K A₀ A' σ H ρ1 fp1 → (∀ a, Bs A' fp1 a → Bs A' fp a) → OpdR K H (Bs A' fp1) σ v o' q → (m = .al → ∀ i p, o' ≠ .pt i p) → (alPass ρ1 ms os).map (fun (os', ρ'') => (o' :: os', ρ'')) = some (os', ρ') →
        ∃ fp', SI K A₀ A' σ H ρ' fp' ∧ (∀ a, Bs A' fp' a → Bs A' fp a) ∧ OpdsR K H (Bs A' fp') σ (v :: vs) os' (q ++ Q) ∧ os'.length = (m :: ms).length ∧ ∀ (j : Nat) (i : Nat) (p : List Stp), (m :: ms)[j]? = some .al → os'[j]? ≠ some (.pt i p) := by
      intro o' ρ1 fp1 S1 s1 r1 n1 h
      cases e2 : alPass ρ1 ms os with
      | none => rw [e2] at h; cases h
      | some y =>
        obtain ⟨os2, ρ2⟩ := y
        rw [e2] at h
        simp only [Option.map_some, Option.some.injEq, Prod.mk.injEq] at h
        obtain ⟨rfl, rfl⟩ := h
        obtain ⟨fp2, S2, s2, r2, l2, n2⟩ := alPass_ok S1 (t.shrink s1) e2
        refine ⟨fp2, S2, fun a b => s1 a (s2 a b), .cons (r1.shrink s2) r2, by simp [l2], fun j i p hj => ?_⟩
        cases j with
        | zero =>
          simp at hj ⊢
          exact n1 hj i p
        | succ j =>
          simp at hj ⊢
          exact n2 j i p hj
    cases m with
    | al =>
      rw [alPass] at h
      cases e1 : alias_ ρ o with
      | none => rw [e1] at h; cases h
      | some x =>
        obtain ⟨o', ρ1⟩ := x
        rw [e1] at h
        obtain ⟨fp1, S1, s1, r1, n1⟩ := alias_ok S r e1
        exact rest S1 s1 r1 (fun _ => n1) h
    | bw => exact rest S (fun _ b => b) r (fun z => by cases z) h
    | mu => exact rest S (fun _ b => b) r (fun z => by cases z) h
theorem OpdsR.get {B : Addr → Prop} : ∀ {vs : List V} {os : List Opd} {q : List Addr}, OpdsR K H B σ vs os q → ∀ {j : Nat} {o : Opd}, os[j]? = some o → ∃ v q', vs[j]? = some v ∧ OpdR K H B σ v o q' ∧ ∀ a ∈ q', a ∈ q
  | _, _, _, .nil, j, o, h => by simp at h
  | _, _, _, .cons (q := q) r t, 0, o, h => by
    simp at h
    subst h
    exact ⟨_, q, rfl, r, fun a z => List.mem_append_left _ z⟩
  | _, _, _, .cons r t, j + 1, o, h => by
    obtain ⟨v, q', h1, h2, h3⟩ := t.get (j := j) (o := o) (by simpa using h)
    exact ⟨v, q', by simpa using h1, h2, fun a z => List.mem_append_right _ (h3 a z)⟩
theorem OpdsR.len {B : Addr → Prop} : ∀ {vs : List V} {os : List Opd} {q : List Addr}, OpdsR K H B σ vs os q → vs.length = os.length
  | _, _, _, .nil => rfl
  | _, _, _, .cons r t => by rw [List.length_cons, List.length_cons, t.len]
theorem argV_get : ∀ {ms : List Mode} {os : List Opd} {ds : List D}, argV ρ ms os = some ds → ds.length = ms.length ∧ ms.length = os.length ∧ ∀ (j : Nat) m, ms[j]? = some m → ∃ o d, os[j]? = some o ∧ ds[j]? = some d ∧ argD ρ m o = some d
  | [], [], ds, h => by
    cases h
    exact ⟨rfl, rfl, fun j m h => by simp at h⟩
  | [], _ :: _, ds, h => by cases h
  | m :: ms, [], ds, h => by cases h
  | m :: ms, o :: os, ds, h => by
    rw [argV] at h
    split at h
    · rename_i d ds' h1 h2
      cases h
      obtain ⟨l1, l2, g⟩ := argV_get h2
      refine ⟨by simp [l1], by simp [l2], fun j m' hj => ?_⟩
      cases j with
      | zero =>
        simp at hj
        subst hj
        exact ⟨o, d, rfl, rfl, h1⟩
      | succ j =>
        obtain ⟨o', d', g1, g2, g3⟩ := g j m' (by simpa using hj)
        exact ⟨o', d', by simpa using g1, by simpa using g2, g3⟩
    · cases h
def argSlot : Mode → D → Slot
  | .al, d => .fz d
  | .bw, d => .bw d
  | .mu, d => .mw d
def argE (ms : List Mode) (ds : List D) : Env := (ms.zip ds).map fun p => argSlot p.1 p.2
/-- behind a call: what may be changed alone -/
def retE : List Mode → List D → Env
  | [], _ => []
  | .mu :: ms, d :: ds => .mw d :: retE ms ds
  | _ :: ms, ds => .un :: retE ms ds
def FRes.all (r : FRes) (P : D → List D → Prop) (E : Exc → List D → Prop) : Prop := match r with
  | .rt d mus => P d mus
  | .exc x mus => E x mus
  | .stuck => False
/-- a def's promise, by its function on data -/
def spD (K : KW) (mg : Str → Option Value) (ms : List Mode) (m : List D → FRes) : Sp := fun vs H Q E => ∃ A ds fp, vs.length = ms.length ∧ ds.length = ms.length ∧ SI K A A (vs.map some) H (argE ms ds) fp ∧
  (m ds).all (fun d mus => ∀ v H' A' fp', SI K A A' (vs.map some) H' (retE ms mus) fp' → Tr A fp H A' fp' H' → OpdOk K H' A A' (Bs A' fp') (vs.map some) v (opd d) → Q v H')
    (fun x mus => ∀ cls dx H' fp', SI K A A (vs.map some) H' (retE ms mus) fp' → Tr A fp H A fp' H' → XAt mg x cls dx H' → E cls dx H')
/-- the places of what may be changed -/
theorem muPl_nil : ∀ {ms : List Mode} {os : List Opd}, muPl ms os = [] → ms.length = os.length → (∀ (j : Nat) o, ms[j]? = some .mu → os[j]? = some o → ∃ i p, o = .pt i p) → ∀ j : Nat, ms[j]? ≠ some .mu
  | [], [], _, _, _, j => by simp
  | m :: ms, [], _, h, _, _ => by simp at h
  | [], _ :: _, _, h, _, _ => by simp at h
  | m :: ms, o :: os, h, hl, hp, j => by
    have tl : muPl ms os = [] → ∀ j : Nat, ms[j]? ≠ some .mu := fun h => muPl_nil h (by simpa using hl) fun j o h1 h2 => hp (j + 1) o (by simpa using h1) (by simpa using h2)
    cases m with
    | mu =>
      obtain ⟨i, p, rfl⟩ := hp 0 o rfl rfl
      cases h
    | al =>
      cases j with
      | zero => simp
      | succ j => simpa using tl h j
    | bw =>
      cases j with
      | zero => simp
      | succ j => simpa using tl h j
theorem muPl_one : ∀ {ms : List Mode} {os : List Opd} {i : Nat} {p : List Stp}, muPl ms os = [(i, p)] → ms.length = os.length → (∀ (j : Nat) o, ms[j]? = some .mu → os[j]? = some o → ∃ i p, o = .pt i p) → ∃ j : Nat, ms[j]? = some Mode.mu ∧ os[j]? = some (Opd.pt i p) ∧ ∀ k : Nat, ms[k]? = some Mode.mu → k = j
  | [], [], _, _, h, _, _ => by cases h
  | m :: ms, [], _, _, _, h, _ => by simp at h
  | [], _ :: _, _, _, _, h, _ => by simp at h
  | m :: ms, o :: os, i, p, h, hl, hp => by
    have hp' : ∀ (j : Nat) o, ms[j]? = some .mu → os[j]? = some o → ∃ i p, o = .pt i p := fun j o h1 h2 => hp (j + 1) o (by simpa using h1) (by simpa using h2)
    have tl : m ≠ .mu → muPl ms os = [(i, p)] → ∃ j : Nat, (m :: ms)[j]? = some Mode.mu ∧ (o :: os)[j]? = some (Opd.pt i p) ∧ ∀ k : Nat, (m :: ms)[k]? = some Mode.mu → k = j := fun hm h => by
      obtain ⟨j, h1, h2, h3⟩ := muPl_one h (by simpa using hl) hp'
      refine ⟨j + 1, by simpa using h1, by simpa using h2, fun k hk => ?_⟩
      cases k with
      | zero => simp at hk; exact (hm hk).elim
      | succ k => rw [h3 k (by simpa using hk)]
    cases m with
    | mu =>
      obtain ⟨i', p', rfl⟩ := hp 0 o rfl rfl
      rw [muPl] at h
      simp only [List.cons.injEq, Prod.mk.injEq] at h
      obtain ⟨⟨rfl, rfl⟩, h⟩ := h
      refine ⟨0, rfl, rfl, fun k hk => ?_⟩
      cases k with
      | zero => rfl
      | succ k => exact (muPl_nil h (by simpa using hl) hp' k (by simpa using hk)).elim
    | al => exact tl (by decide) h
    | bw => exact tl (by decide) h
theorem bwRoots_mem : ∀ {ms : List Mode} {os : List Opd} {j i : Nat} {p : List Stp}, ms[j]? = some .bw → os[j]? = some (.pt i p) → i ∈ bwRoots ms os
  | [], _, j, _, _, h, _ => by simp at h
  | _ :: _, [], j, _, _, _, h => by simp at h
  | m :: ms, o :: os, 0, i, p, h, h2 => by
    simp at h h2
    subst h h2
    exact List.mem_cons_self
  | m :: ms, o :: os, j + 1, i, p, h, h2 => by
    have ih := bwRoots_mem (ms := ms) (os := os) (j := j) (i := i) (p := p) (by simpa using h) (by simpa using h2)
    cases m <;> cases o <;> first | exact ih | exact List.mem_cons_of_mem _ ih
theorem slot_argE {ms : List Mode} {ds : List D} {j : Nat} {m : Mode} {d : D} (h1 : ms[j]? = some m) (h2 : ds[j]? = some d) : slot (argE ms ds) j = argSlot m d := by
  unfold slot argE
  have : (ms.zip ds)[j]? = some (m, d) := List.getElem?_zip_eq_some.mpr ⟨h1, h2⟩
  rw [List.getElem?_map, this]
  rfl
theorem slot_retE : ∀ {ms : List Mode} {mus : List D} {j : Nat}, ms[j]? ≠ some .mu → slot (retE ms mus) j = .un
  | [], _, j, _ => by simp [slot, retE]
  | m :: ms, mus, 0, h => by
    cases m with
    | mu => simp at h
    | al => cases mus <;> rfl
    | bw => cases mus <;> rfl
  | m :: ms, mus, j + 1, h => by
    have ih : ∀ mus, slot (retE ms mus) j = .un := fun mus => slot_retE (by simpa using h)
    cases m with
    | al => cases mus <;> exact ih _
    | bw => cases mus <;> exact ih _
    | mu => cases mus <;> exact ih _
theorem retE_one : ∀ {ms : List Mode} {j : Nat} {d : D}, ms[j]? = some .mu → (∀ k, ms[k]? = some .mu → k = j) → slot (retE ms [d]) j = .mw d
  | [], j, _, h, _ => by simp at h
  | m :: ms, 0, d, h, _ => by
    simp at h
    subst h
    rfl
  | m :: ms, j + 1, d, h, hu => by
    have hm : m ≠ .mu := fun e => by
      have := hu 0 (by simp [e])
      omega
    have ih := retE_one (ms := ms) (j := j) (d := d) (by simpa using h) fun k hk => by
      have := hu (k + 1) (by simpa using hk)
      omega
    cases m with
    | mu => exact (hm rfl).elim
    | al => exact ih
    | bw => exact ih
theorem retE_len : ∀ {ms : List Mode} {mus : List D}, (retE ms mus).length = ms.length
  | [], _ => rfl
  | m :: ms, mus => by cases m <;> cases mus <;> simp [retE, retE_len]
theorem SI.con2 (S : SI K A₀ A σ H ρ fp) {i : Nat} {pl : List Stp} {d : D} {v w : V} (h : getP ρ i pl = some d) (hw : look σ i = some w) (va : VAt H w pl v) : ∃ q, Rp K H (Bs A fp) v d q ∧ ∀ a ∈ q, a ∈ fp i ∨ A₀ a := by
  obtain ⟨d₀, h1, h2⟩ := getP_slot h
  have so := S.sl i
  have key : ∀ {v₀ q₀}, look σ i = some v₀ → Rp K H (Bs A fp) v₀ d₀ q₀ → (∀ a ∈ q₀, a ∈ fp i ∨ A₀ a) → ∃ q, Rp K H (Bs A fp) v d q ∧ ∀ a ∈ q, a ∈ fp i ∨ A₀ a := fun g1 g2 g3 => by
    rw [hw] at g1
    cases g1
    obtain ⟨u, f, pre, post, k1, k2, k3, _⟩ := g2.at h2
    rw [va.inj k1]
    exact ⟨f, k2, fun a z => g3 a (by rw [k3]; simp [z])⟩
  cases e : slot ρ i with
  | un => rw [e] at h1; cases h1
  | fz d' => rw [e] at h1 so; cases h1; obtain ⟨_, v, h2, r⟩ := so; exact key h2 r fun a z => nomatch z
  | ow d' => rw [e] at h1 so; cases h1; obtain ⟨v, h2, r⟩ := so; exact key h2 r fun a z => .inl z
  | mw d' => rw [e] at h1 so; cases h1; obtain ⟨v, h2, r⟩ := so; exact key h2 r fun a z => .inl z
  | bw d' => rw [e] at h1 so; cases h1; obtain ⟨_, v, q, h2, r, h3⟩ := so; exact key h2 r fun a z => .inr (h3 a z)
def fOne (j : Nat) (f : List Addr) : Nat → List Addr := fun k => if k = j then f else []
theorem callee (S : SI K A₀ A₁ σ H ρ fp) {ms : List Mode} {os : List Opd} {vs : List V} {q : List Addr} {ds : List D} (rs : OpdsR K H (Bs A₁ fp) σ vs os q) (hq : ∀ a ∈ q, A₁ a ∧ ¬ A₀ a) (hv : argV ρ ms os = some ds)
    (hal : ∀ (j : Nat) (i : Nat) (p : List Stp), ms[j]? = some .al → os[j]? ≠ some (.pt i p)) {jm : Nat} {f : List Addr} (hfn : f.Nodup) (hf : ∀ a ∈ f, ∃ i, a ∈ fp i) (hj : f = [] ∨ ms[jm]? = some .mu)
    (hmu : ∀ j : Nat, ms[j]? = some .mu → j = jm ∧ ∀ v d, vs[j]? = some v → ds[j]? = some d → Rp K H (Bs A₁ fp) v d f) (hbw : ∀ (j i : Nat) (p : List Stp), ms[j]? = some .bw → os[j]? = some (.pt i p) → ∀ a ∈ fp i, a ∉ f) :
    vs.length = ms.length ∧ ds.length = ms.length ∧ SI K (fun a => Bs A₁ fp a ∧ a ∉ q ∧ a ∉ f) (fun a => Bs A₁ fp a ∧ a ∉ q ∧ a ∉ f) (vs.map some) H (argE ms ds) (fOne jm f) := by
  obtain ⟨l1, l2, hget⟩ := argV_get hv
  have lv : vs.length = ms.length := by rw [rs.len, l2]
  have nfA : ∀ a ∈ f, ¬ A₁ a := fun a z hA => (hf a z).elim fun i h => S.na i a h hA
  have hB : ∀ a, Bs (fun a => Bs A₁ fp a ∧ a ∉ q ∧ a ∉ f) (fOne jm f) a → Bs A₁ fp a ∧ a ∉ q := fun a b => by
    rcases b with b | ⟨k, b⟩
    · exact ⟨b.1, b.2.1⟩
    · unfold fOne at b
      split at b
      · exact ⟨.inr (hf a b), fun z => nfA a b (hq a z).1⟩
      · cases b
  have mono : ∀ {v d q'}, Rp K H (Bs A₁ fp) v d q' → Rp K H (Bs (fun a => Bs A₁ fp a ∧ a ∉ q ∧ a ∉ f) (fOne jm f)) v d q' := fun r => r.mono (fun _ _ e _ => e) fun a b => .inl (hB a b).1
  refine ⟨lv, l1, ⟨by simp [argE, lv, l1], fun _ h => h, fun k => ?_, fun a b c h1 h2 => ?_, fun k a h hA => ?_, fun a h => S.bs h.1, fun k => ?_⟩⟩
  · unfold fOne; split
    · exact hfn
    · exact .nil
  · unfold fOne at h1 h2
    split at h1
    · split at h2
      · rename_i e1 e2; rw [e1, e2]
      · cases h2
    · cases h1
  · unfold fOne at h; split at h
    · exact hA.2.2 h
    · cases h
  · cases hm : ms[k]? with
    | none =>
      have e1 : fOne jm f k = [] := by
        unfold fOne
        split
        · rename_i e
          rcases hj with z | z
          · exact z
          · rw [e, z] at hm; cases hm
        · rfl
      have : slot (argE ms ds) k = .un := slot_out (by simp [argE, l1]; exact List.getElem?_eq_none_iff.mp hm)
      rw [this, e1]
      exact rfl
    | some m =>
      obtain ⟨o, d, ho, hd, had⟩ := hget k m hm
      obtain ⟨v, q', hv', ro, hq'⟩ := rs.get ho
      have lk : look (vs.map some) k = some v := by unfold look; rw [List.getElem?_map, hv'] <;> rfl
      rw [slot_argE hm hd, lk]
      have e1 : m ≠ .mu → fOne jm f k = [] := fun hne => by
        unfold fOne
        split
        · rename_i e
          rcases hj with z | z
          · exact z
          · rw [e, z] at hm; cases hm; exact (hne rfl).elim
        · rfl
      have frz : m ≠ .mu → (∀ i p, o ≠ .pt i p) → Rp K H (Bs (fun a => Bs A₁ fp a ∧ a ∉ q ∧ a ∉ f) (fOne jm f)) v d [] := fun hne hn => by
        cases o with
        | fz d0 =>
          have : d0 = d := by cases m <;> first | exact Option.some.inj had | exact (hne rfl).elim
          subst this
          exact mono ro.2
        | ow d0 =>
          have : freeze d0 = d := by cases m <;> first | exact Option.some.inj had | exact (hne rfl).elim
          subst this
          exact Rp.freeze (fun a b => ⟨(hB a b).1, fun z => (hB a b).2 (hq' a z)⟩) ro
        | pt i p => exact (hn i p rfl).elim
      cases m with
      | al =>
        rw [e1 (by decide)]
        exact ⟨rfl, v, rfl, frz (by decide) fun i p e => hal k i p hm (by rw [ho, e])⟩
      | bw =>
        rw [e1 (by decide)]
        cases o with
        | fz d0 => exact ⟨rfl, v, [], rfl, frz (by decide) (fun _ _ z => nomatch z), fun _ z => nomatch z⟩
        | ow d0 => exact ⟨rfl, v, [], rfl, frz (by decide) (fun _ _ z => nomatch z), fun _ z => nomatch z⟩
        | pt i p =>
          obtain ⟨_, w, hw, va⟩ := ro
          obtain ⟨q2, r2, h2⟩ := S.con2 (show getP ρ i p = some d from had) hw va
          refine ⟨rfl, v, q2, rfl, mono r2, fun a z => ?_⟩
          rcases h2 a z with y | y
          · exact ⟨.inr ⟨i, y⟩, fun x => S.na i a y (hq a x).1, hbw k i p hm ho a y⟩
          · exact ⟨.inl (S.sub a y), fun x => (hq a x).2 y, fun x => nfA a x (S.sub a y)⟩
      | mu =>
        obtain ⟨rfl, hr⟩ := hmu k hm
        have : fOne k f k = f := if_pos rfl
        rw [this]
        exact ⟨v, rfl, mono (hr v d hv' hd)⟩
/-- a call, behind its operands -/
theorem call_core {p : Bool} {ms : List Mode} {m : List D → FRes} {os os' : List Opd} {vs : List V} {q : List Addr} {ρ₂ : Env} (S : SI K A₀ A σ H ρ fp) (g : EOk K A₀ A fp σ H p ρ₁ H₁ A₁ fp₁) (rs : OpdsR K H₁ (Bs A₁ fp₁) σ vs os q) (nd : q.Nodup) (hq : ∀ a ∈ q, A₁ a ∧ ¬ A a) (ha : alPass ρ₁ ms os = some (os', ρ₂))
    (h : (callR ρ₂ ms os' m).all (fun o ρ' => ∀ v H' A' fp', EOk K A₀ A fp σ H false ρ' H' A' fp' → OpdOk K H' A A' (Bs A' fp') σ v o → Q v H') (XPost K mg A₀ A fp σ H W)) : spD K mg ms m vs H₁ Q (WE W σ) := by
    obtain ⟨fp₂, S₂, sub, rs', lo, hal⟩ := alPass_ok g.si rs ha
    have g₂ : EOk K A₀ A fp σ H false ρ₂ H₁ A₁ fp₂ := ⟨S₂, ⟨g.tr.a, g.tr.k, fun a z => g.tr.b a (sub a z)⟩, fun z => nomatch z⟩
    have hq0 : ∀ a ∈ q, A₁ a ∧ ¬ A₀ a := fun a z => ⟨(hq a z).1, fun h => (hq a z).2 (S.sub a h)⟩
    unfold callR at h
    split at h
    · exact h.elim
    · rename_i ds hv
      obtain ⟨l1, l2, hget⟩ := argV_get hv
      have hpt : ∀ (j : Nat) o, ms[j]? = some .mu → os'[j]? = some o → ∃ i p, o = .pt i p := fun j o h1 h2 => by
        obtain ⟨o', d, g1, g2, g3⟩ := hget j .mu h1
        rw [h2] at g1
        cases g1
        cases o with
        | fz d0 => cases g3
        | ow d0 => cases g3
        | pt i p => exact ⟨i, p, rfl⟩
      split at h
      · -- nothing is changed
        rename_i hmu
        have nomu := muPl_nil hmu l2 hpt
        obtain ⟨k1, k2, k3⟩ := callee (jm := ms.length) (f := []) S₂ rs' hq0 hv hal .nil (fun _ z => nomatch z) (.inl rfl) (fun j hj => (nomu j hj).elim) (fun _ _ _ _ _ _ _ z => nomatch z)
        refine ⟨_, ds, _, k1, k2, k3, ?_⟩
        have fe : ∀ k, fOne ms.length [] k = [] := fun k => by unfold fOne; split <;> rfl
        have BcB : ∀ a, Bs (fun a => Bs A₁ fp₂ a ∧ a ∉ q ∧ a ∉ ([] : List Addr)) (fOne ms.length []) a → Bs A₁ fp₂ a := fun a b => b.elim (·.1) fun ⟨k, z⟩ => by rw [fe k] at z; cases z
        have keepH : ∀ {A' fp' H'}, Tr (fun a => Bs A₁ fp₂ a ∧ a ∉ q ∧ a ∉ ([] : List Addr)) (fOne ms.length []) H₁ A' fp' H' → Keep H₁ H' := fun t a o e => t.k a o e fun k z => by rw [fe k] at z; cases z
        cases hr : m ds with
        | stuck => rw [hr] at h; exact h.elim
        | rt d mus =>
          rw [hr] at h
          cases mus with
          | cons e mus => exact h.elim
          | nil =>
            intro v H' A' fp' S' t' ok'
            obtain ⟨qr, rr, ndr, hqr⟩ := ok'
            have kp := keepH t'
            have fr : ∀ a ∈ qr, H₁ a = none := fun a z => by
              cases e : H₁ a with
              | none => rfl
              | some o =>
                rcases t'.b a (.inl (hqr a z).1) with y | y
                · exact ((hqr a z).2 (y.elim id fun ⟨k, x⟩ => by rw [fe k] at x; cases x)).elim
                · rw [e] at y; cases y
            have fin : ∀ a, Bs (fun a => (A₁ a ∧ a ∉ q) ∨ a ∈ qr) fp₂ a → Bs A' fp' a := fun a b => by
              rcases b with (b | b) | ⟨i, b⟩
              · exact .inl (t'.a a ⟨.inl b.1, b.2, List.not_mem_nil⟩)
              · exact .inl (hqr a b).1
              · exact .inl (t'.a a ⟨.inr ⟨i, b⟩, fun z => S₂.na i a b (hq a z).1, List.not_mem_nil⟩)
            have S3 : SI K A₀ (fun a => (A₁ a ∧ a ∉ q) ∨ a ∈ qr) σ H' ρ₂ fp₂ := S₂.grow (fun a h => .inl ⟨S₂.sub a h, fun z => (hq0 a z).2 h⟩) (fun a h => h.elim (fun z => .inl z.1) fun z => .inr (fr a z)) (fun a h => h.elim (fun z => (S₂.tr a z.1).elim fun o e => ⟨o, kp a o e⟩) fun z => S'.tr a (hqr a z).1) kp
            refine h v H' _ fp₂ ⟨S3, ⟨fun a hA => .inl ⟨g₂.tr.a a hA, fun z => (hq a z).2 hA⟩, fun a o e n => kp a o (g₂.tr.k a o e n), fun a b => ?_⟩, fun z => nomatch z⟩ ⟨qr, ?_, ndr, fun a z => ⟨.inr z, fun hA => ?_⟩⟩
            · rcases b with (b | b) | b
              · exact g₂.tr.b a (.inl b.1)
              · by_cases hO : ∃ i, a ∈ fp i
                · exact .inl (.inr hO)
                · right
                  cases e : H a with
                  | none => rfl
                  | some o =>
                    have := g₂.tr.k a o e fun i hi => hO ⟨i, hi⟩
                    rw [fr a b] at this; cases this
              · exact g₂.tr.b a (.inr b)
            · unfold opd at rr ⊢
              split
              · rename_i hf
                rw [if_pos hf] at rr
                exact ⟨rr.1, rr.2.mono (fun _ _ e _ => e) fun a b => .inl (fin a b)⟩
              · rename_i hf
                rw [if_neg hf] at rr
                exact Rp.mono (fun _ _ e _ => e) (fun a b => .inl (fin a b)) rr
            · obtain ⟨o, e⟩ := S₂.tr a (g₂.tr.a a hA)
              rw [fr a z] at e; cases e
        | exc x mus =>
          rw [hr] at h
          cases mus with
          | cons e mus => exact h.elim
          | nil =>
            intro cls dx H' fp' S' t' xa
            have kp := keepH t'
            have S3 : SI K A₀ A σ H' ρ₂ fp₂ := S₂.grow S.sub (fun a h => .inl (g₂.tr.a a h)) (fun a h => (S₂.tr a (g₂.tr.a a h)).elim fun o e => ⟨o, kp a o e⟩) kp
            exact h cls dx H' fp₂ S3 ⟨fun _ h => h, fun a o e n => kp a o (g₂.tr.k a o e n), fun a b => g₂.tr.b a (b.elim (fun z => .inl (g₂.tr.a a z)) .inr)⟩ xa
      · -- one thing is changed
        rename_i i pl hmu
        obtain ⟨j, hj1, hj2, huniq⟩ := muPl_one hmu l2 hpt
        obtain ⟨o0, dj, g1, g2, g3⟩ := hget j .mu hj1
        rw [hj2] at g1
        cases g1
        obtain ⟨vj, qj, hvj, roj, _⟩ := rs'.get hj2
        obtain ⟨_, w, hw, va⟩ := roj
        have hgp : getP ρ₂ i pl = some dj := g3
        split at h
        · exact h.elim
        · rename_i hroots
          -- what comes back
          have back : ∀ {e : D} {ρ₃ : Env}, setP ρ₂ i pl e = some ρ₃ → ∃ f, vs.length = ms.length ∧ ds.length = ms.length ∧ SI K (fun a => Bs A₁ fp₂ a ∧ a ∉ q ∧ a ∉ f) (fun a => Bs A₁ fp₂ a ∧ a ∉ q ∧ a ∉ f) (vs.map some) H₁ (argE ms ds) (fOne j f) ∧
              ∀ (A' : Addr → Prop) (fp' : Nat → List Addr) (H' : Hp) (qr : List Addr) (Ax : Addr → Prop), SI K (fun a => Bs A₁ fp₂ a ∧ a ∉ q ∧ a ∉ f) A' (vs.map some) H' (retE ms [e]) fp' → Tr (fun a => Bs A₁ fp₂ a ∧ a ∉ q ∧ a ∉ f) (fOne j f) H₁ A' fp' H' →
                (∀ a ∈ qr, A' a ∧ ¬ (Bs A₁ fp₂ a ∧ a ∉ q ∧ a ∉ f)) → (∀ a, A₀ a → Ax a) → (∀ a, Ax a → A₁ a ∧ a ∉ q) →
                ∃ fp₃, SI K A₀ (fun a => Ax a ∨ a ∈ qr) σ H' ρ₃ fp₃ ∧ (∀ a, Bs (fun a => Ax a ∨ a ∈ qr) fp₃ a → Bs A' fp' a) ∧ (∀ a, Bs (fun a => Ax a ∨ a ∈ qr) fp₃ a → Bs A₁ fp₂ a ∨ H₁ a = none) ∧ (∀ a o, H₁ a = some o → (∀ k, a ∉ fp₂ k) → H' a = some o) ∧ (∀ a ∈ qr, (∃ k, a ∈ fp₂ k) ∨ H₁ a = none) := by
            intro e ρ₃ hset
            obtain ⟨f, pre, post, c1, c2, c3⟩ := S₂.putAt hgp hw va hset
            have inF : ∀ a ∈ f, a ∈ fp₂ i := fun a z => by rw [c1]; simp [z]
            have nA : ∀ a ∈ f, ¬ A₁ a := fun a z => S₂.na i a (inF a z)
            have ndi := S₂.nd i
            rw [c1] at ndi
            have ndi' := List.nodup_append.mp ndi
            have ndi2 := List.nodup_append.mp ndi'.2.1
            obtain ⟨k1, k2, k3⟩ := callee (jm := j) (f := f) S₂ rs' hq0 hv hal ndi2.1 (fun a z => ⟨i, inF a z⟩) (.inr hj1) (fun k hk => ⟨huniq k hk, fun v d h1 h2 => by
                have ek := huniq k hk
                subst ek
                rw [hvj] at h1
                rw [g2] at h2
                cases h1; cases h2
                exact c2⟩)
              (fun k i' p' h1 h2 a z z2 => by
                have := bwRoots_mem h1 h2
                have hne : i' ≠ i := fun e => hroots (by rw [e] at this; simpa using this)
                exact hne (S₂.dj i' i a z (inF a z2)))
            refine ⟨f, k1, k2, k3, fun A' fp' H' qr Ax S' t' hqr hA0 hAx => ?_⟩
            have fj : fOne j f j = f := if_pos rfl
            have fk : ∀ k, k ≠ j → fOne j f k = [] := fun k h => if_neg h
            have kp : ∀ a o, H₁ a = some o → a ∉ f → H' a = some o := fun a o e n => t'.k a o e fun k z => by
              by_cases ek : k = j
              · rw [ek, fj] at z; exact n z
              · rw [fk k ek] at z; cases z
            have Bc : ∀ a, Bs (fun a => Bs A₁ fp₂ a ∧ a ∉ q ∧ a ∉ f) (fOne j f) a → Bs A₁ fp₂ a ∧ a ∉ q := fun a b => by
              rcases b with b | ⟨k, b⟩
              · exact ⟨b.1, b.2.1⟩
              · by_cases ek : k = j
                · rw [ek, fj] at b
                  exact ⟨.inr ⟨i, inF a b⟩, fun z => nA a b (hq a z).1⟩
                · rw [fk k ek] at b; cases b
            have new : ∀ a, Bs A' fp' a → a ∉ f → (Bs A₁ fp₂ a ∧ a ∉ q ∧ a ∉ f) ∨ H₁ a = none := fun a b n => by
              rcases t'.b a b with y | y
              · exact .inl ⟨(Bc a y).1, (Bc a y).2, n⟩
              · exact .inr y
            -- what has become of the thing
            have sj := S'.sl j
            have hl : look (vs.map some) j = some vj := by unfold look; rw [List.getElem?_map, hvj] <;> rfl
            rw [retE_one hj1 huniq, hl] at sj
            obtain ⟨v1, hv1, rj⟩ := sj
            cases hv1
            have fj' : ∀ a ∈ fp' j, a ∈ f ∨ H₁ a = none := fun a z => by
              by_cases hf : a ∈ f
              · exact .inl hf
              · rcases new a (.inr ⟨j, z⟩) hf with y | y
                · exact (S'.na j a z (S'.sub a y)).elim
                · exact .inr y
            have qrn : ∀ a ∈ qr, a ∈ f ∨ H₁ a = none := fun a z => by
              by_cases hf : a ∈ f
              · exact .inl hf
              · rcases new a (.inl (hqr a z).1) hf with y | y
                · exact ((hqr a z).2 y).elim
                · exact .inr y
            have AxA : ∀ a, Ax a → A' a := fun a h => S'.sub a ⟨.inl (hAx a h).1, (hAx a h).2, fun z => nA a z (hAx a h).1⟩
            have toB : ∀ a, Bs (fun a => Ax a ∨ a ∈ qr) (fup fp₂ i (pre ++ (fp' j ++ post))) a → Bs A' fp' a := fun a b => by
              have old : ∀ k, a ∈ fp₂ k → a ∉ f → Bs A' fp' a := fun k z n => .inl (S'.sub a ⟨.inr ⟨k, z⟩, fun x => S₂.na k a z (hq a x).1, n⟩)
              rcases b with (b | b) | ⟨k, b⟩
              · exact .inl (AxA a b)
              · exact .inl (hqr a b).1
              · by_cases ek : k = i
                · rw [ek, fup_same] at b
                  have b' : a ∈ pre ∨ a ∈ fp' j ∨ a ∈ post := by simpa using b
                  rcases b' with z | z | z
                  · exact old i (by rw [c1]; simp [z]) fun x => ndi'.2.2 a z a (List.mem_append_left _ x) rfl
                  · exact .inr ⟨j, z⟩
                  · exact old i (by rw [c1]; simp [z]) fun x => ndi2.2.2 a x a z rfl
                · rw [fup_ne ek] at b
                  exact old k b fun x => ek (S₂.dj k i a b (inF a x))
            refine ⟨fup fp₂ i (pre ++ (fp' j ++ post)), ?_, toB, fun a b => ?_, fun a o e n => kp a o e fun z => n i (inF a z), fun a z => (qrn a z).imp (fun y => ⟨i, inF a y⟩) id⟩
            · exact c3 (A₁ := fun a => Ax a ∨ a ∈ qr) (H₁ := H') (f' := fp' j) (fun a h => .inl (hA0 a h)) (fun a h => h.elim (fun z => .inl (hAx a z).1) fun z => .inr (qrn a z)) (fun a h => h.elim (fun z => S'.tr a (AxA a z)) fun z => S'.tr a (hqr a z).1) (S'.nd j)
                (fun a z => (fj' a z).elim .inl fun y => .inr (.inr y)) (fun a z hA => S'.na j a z (hA.elim (AxA a) fun y => (hqr a y).1)) kp (rj.mono (fun _ _ e _ => e) fun a b => .inl (toB a b))
            · have old : ∀ k, a ∈ fp₂ k → Bs A₁ fp₂ a ∨ H₁ a = none := fun k z => .inl (.inr ⟨k, z⟩)
              rcases b with (b | b) | ⟨k, b⟩
              · exact .inl (.inl (hAx a b).1)
              · exact (qrn a b).imp (fun y => .inr ⟨i, inF a y⟩) id
              · by_cases ek : k = i
                · rw [ek, fup_same] at b
                  have b' : a ∈ pre ∨ a ∈ fp' j ∨ a ∈ post := by simpa using b
                  rcases b' with z | z | z
                  · exact old i (by rw [c1]; simp [z])
                  · exact (fj' a z).imp (fun y => .inr ⟨i, inF a y⟩) id
                  · exact old i (by rw [c1]; simp [z])
                · rw [fup_ne ek] at b
                  exact old k b
          have trk : ∀ a o, H a = some o → (∀ k, a ∉ fp k) → ∀ k, a ∉ fp₂ k := fun a o e n k z => by
            rcases g₂.tr.b a (.inr ⟨k, z⟩) with (y | ⟨k', y⟩) | y
            · exact S₂.na k a z (g₂.tr.a a y)
            · exact n k' y
            · rw [e] at y; cases y
          have trb : ∀ {a}, Bs A₁ fp₂ a ∨ H₁ a = none → Bs A fp a ∨ H a = none := fun {a} b => by
            rcases b with b | b
            · exact g₂.tr.b a b
            · by_cases hO : ∃ i, a ∈ fp i
              · exact .inl (.inr hO)
              · right
                cases e : H a with
                | none => rfl
                | some o =>
                  have := g₂.tr.k a o e fun i hi => hO ⟨i, hi⟩
                  rw [b] at this; cases this
          cases hr : m ds with
          | stuck => rw [hr] at h; exact h.elim
          | rt d mus =>
            rw [hr] at h
            match mus, h with
            | [], h => exact h.elim
            | _ :: _ :: _, h => exact h.elim
            | [e], h =>
              dsimp only at h
              split at h
              · rename_i ρ₃ hset
                obtain ⟨f', k1, k2, k3, bk⟩ := back hset
                refine ⟨_, ds, _, k1, k2, k3, ?_⟩
                rw [hr]
                intro v H' A' fp' S' t' ok'
                obtain ⟨qr, rr, ndr, hqr⟩ := ok'
                obtain ⟨fp₃, S3, b1, b2, b3, b4⟩ := bk A' fp' H' qr (fun a => A₁ a ∧ a ∉ q) S' t' hqr (fun a h => ⟨S₂.sub a h, fun z => (hq0 a z).2 h⟩) (fun _ h => h)
                refine h v H' _ fp₃ ⟨S3, ⟨fun a hA => .inl ⟨g₂.tr.a a hA, fun z => (hq a z).2 hA⟩, fun a o e n => b3 a o (g₂.tr.k a o e n) (trk a o e n), fun a b => trb (b2 a b)⟩, fun z => nomatch z⟩ ⟨qr, ?_, ndr, fun a z => ⟨.inr z, fun hA => ?_⟩⟩
                · unfold opd at rr ⊢
                  split
                  · rename_i hf
                    rw [if_pos hf] at rr
                    exact ⟨rr.1, rr.2.mono (fun _ _ e _ => e) fun a b => .inl (b1 a b)⟩
                  · rename_i hf
                    rw [if_neg hf] at rr
                    exact Rp.mono (fun _ _ e _ => e) (fun a b => .inl (b1 a b)) rr
                · rcases b4 a z with ⟨k, y⟩ | y
                  · exact S₂.na k a y (g₂.tr.a a hA)
                  · obtain ⟨o, e⟩ := S₂.tr a (g₂.tr.a a hA)
                    rw [e] at y; cases y
              · exact h.elim
          | exc x mus =>
            rw [hr] at h
            match mus, h with
            | [], h => exact h.elim
            | _ :: _ :: _, h => exact h.elim
            | [e], h =>
              dsimp only at h
              split at h
              · rename_i ρ₃ hset
                obtain ⟨f', k1, k2, k3, bk⟩ := back hset
                refine ⟨_, ds, _, k1, k2, k3, ?_⟩
                rw [hr]
                intro cls dx H' fp' S' t' xa
                obtain ⟨fp₃, S3, b1, b2, b3, b4⟩ := bk _ fp' H' [] (fun a => A a) S' t' (fun _ z => nomatch z) S.sub (fun a hA => ⟨g₂.tr.a a hA, fun z => (hq a z).2 hA⟩)
                exact h cls dx H' fp₃ (S3.drop S.sub fun a h => .inl h) ⟨fun _ h => h, fun a o e n => b3 a o (g₂.tr.k a o e n) (trk a o e n), fun a b => trb (b2 a (b.elim (fun z => .inl (.inl z)) .inr))⟩ xa
              · exact h.elim
      · exact h.elim
theorem rd_call {f : Str} {es : List Ex} {ms : List Mode} (hm : F.modes f = some ms) : ∀ σ H Q, tE K mg W F (.call f es) σ H Q → tCallS (spD K mg ms (F.run f)) (WE W) (tEs K mg W F es) σ H Q := fun σ H Q ⟨A₀, A, ρ, fp, S, h⟩ => by
  rw [evE] at h
  refine ⟨A₀, A, ρ, fp, S, h.seq.imp (fun os ρ₁ _ h => ?_) fun _ _ h => h⟩
  rw [hm] at h
  dsimp only at h
  split at h
  · exact h.elim
  · rename_i os' ρ₂ ha
    obtain ⟨hk, ha⟩ := if_some ha
    exact ⟨hk, fun vs H₁ A₁ fp₁ q g rs nd hq => call_core S g rs nd hq ha h⟩

/-- o.m(..): P says which promise a class's method keeps -/
def tMc (m : Str) (P : Addr → Sp → Prop) (W : WX) (ta : TE) (t : TA) : TE := fun σ H Q => ta σ H fun x H1 => ∃ a dx fs C sp, x = .ref a ∧ H1 a = some (.ins C dx fs) ∧ P C sp ∧ fs.lookup m = none ∧ t σ H1 fun vs H2 => sp (x :: vs) H2 Q (WE W σ)
theorem rd_mcall {m : String} {gs : List (String × Str)} {a : Ex} {es : List Ex} {P : Addr → Sp → Prop} (hP : ∀ c g ms, gs.lookup c = some g → F.modes g = some ms → P (He.ga K (Str.ofString c)) (spD K mg ms (F.run g))) :
    ∀ σ H Q, tE K mg W F (.mcall m gs a es) σ H Q → tMc (Str.ofString m) P W (tE K mg W F a) (tEs K mg W F es) σ H Q := fun σ H Q ⟨A₀, A, ρ, fp, S, h⟩ => by
  rw [evE] at h
  refine tE.first S h fun o ρ₁ h x H₁ A₁ fp₁ g₁ ok₁ => ?_
  split at h
  · rename_i oo c fs c1
    split at h
    · rename_i g hg hm
      obtain ⟨q0, r0, _⟩ := con_ok g₁.si ok₁ c1
      obtain ⟨p, dx, vs0, f0, rfl, hp, hn, _, _⟩ := r0.obj
      obtain ⟨_, hl, _⟩ := fld_new hn hm
      split at h
      · exact h.elim
      · rename_i ms hms
        refine ⟨p, dx, vs0, _, _, rfl, hp, hP c g ms hg hms, hl, ?_⟩
        refine ⟨A₀, A₁, ρ₁, fp₁, g₁.si, h.seq.imp (fun os ρ₂ _ h => ?_) fun _ _ h => XPost.later h S g₁.si g₁.tr⟩
        split at h
        · exact h.elim
        · rename_i os' ρ₃ ha
          obtain ⟨hk, ha⟩ := if_some ha
          unfold okPts at hk
          rw [List.all_cons, Bool.or_eq_true, Bool.and_eq_true] at hk
          refine ⟨?_, fun vs H₂ A₂ fp₂ q g₂ rs nd hq => ?_⟩
          · unfold okPts
            rw [Bool.or_eq_true]
            refine hk.imp (·.2) fun z => ?_
            rw [pureEs, Bool.and_eq_true] at z
            exact z.2
          · obtain ⟨q1, r1', nd1, hq1⟩ := ok₁
            have r1 := r1'.later (fun a z => (hq1 a z).1) g₁.si g₂.tr (hk.elim (fun z => .inl (noPl_of z.1)) fun z => .inr (g₂.kp (by rw [pureEs, Bool.and_eq_true] at z; exact z.2)))
            refine call_core S (g₁.trans S g₂ (r := false) fun z => nomatch z) (.cons r1 rs) (q := q1 ++ q) ?_ (fun a z => ?_) ha h
            · rw [List.nodup_append]
              exact ⟨nd1, nd, fun a h1 b h2 e => (hq b h2).2 (hq1 b (by rw [← e]; exact h1)).1⟩
            · rcases List.mem_append.mp z with z | z
              · exact ⟨g₂.tr.a a (hq1 a z).1, (hq1 a z).2⟩
              · exact ⟨(hq a z).1, fun hA => (hq a z).2 (g₁.tr.a a hA)⟩
    · exact h.elim
  · exact h.elim

/-! ### new objects -/
theorem look_app {u : Option V} {j : Nat} (h : j ≠ σ.length) : look (σ ++ [u]) j = look σ j := by
  unfold look
  by_cases c : j < σ.length
  · rw [List.getElem?_append_left c]
  · rw [List.getElem?_eq_none_iff.mpr (by simp; omega), List.getElem?_eq_none_iff.mpr (by omega)]
theorem look_last {u : Option V} : look (σ ++ [u]) σ.length = u := by
  unfold look
  simp
theorem slot_app {ρ : Env} {s : Slot} {j : Nat} (h : j ≠ ρ.length) : slot (ρ ++ [s]) j = slot ρ j := by
  unfold slot
  by_cases c : j < ρ.length
  · rw [List.getElem?_append_left c]
  · rw [List.getElem?_eq_none_iff.mpr (by simp; omega), List.getElem?_eq_none_iff.mpr (by omega)]
theorem slot_last {ρ : Env} {s : Slot} : slot (ρ ++ [s]) ρ.length = s := by
  unfold slot
  simp
theorem slot_take {ρ : Env} {n j : Nat} (h : j < n) : slot (ρ.take n) j = slot ρ j := by
  unfold slot
  rw [List.getElem?_take, if_pos h]
theorem look_some_lt {j : Nat} {w : V} (h : look σ j = some w) : j < σ.length := by
  by_cases c : j < σ.length
  · exact c
  · unfold look at h
    rw [List.getElem?_eq_none_iff.mpr (by omega)] at h
    cases h
/-- a name more, that owns a new thing -/
theorem SI.push (S : SI K A₀ A σ H ρ fp) {x : Addr} {d : D} {H₁ : Hp} (hx : H x = none) (hk : ∀ a o, H a = some o → H₁ a = some o) (hr : Rp K H₁ (Bs A (fup fp ρ.length [x])) (.ref x) d [x]) :
    SI K A₀ A (σ ++ [some (.ref x)]) H₁ (ρ ++ [.ow d]) (fup fp ρ.length [x]) :=
  S.chg ρ.length (by simp [S.len]) (fun j hj => look_app (by rw [S.len]; exact hj)) (fun j hj => slot_app hj) S.sub (fun a h => .inl h) (fun a h => (S.tr a h).elim fun o e => ⟨o, hk a o e⟩) (by simp)
    (fun a z => by have : a = x := by simpa using z
                   rw [this]; exact .inr (.inr hx))
    (fun a z hA => by
      have : a = x := by simpa using z
      rw [this] at hA
      obtain ⟨o, e⟩ := S.tr x hA
      rw [hx] at e; cases e) (fun a o e _ => hk a o e) (by
      rw [slot_last, ← S.len, look_last]
      exact ⟨_, rfl, by rw [S.len]; exact hr⟩)
/-- the last name is let go of -/
theorem SI.cutLast {ρ₃ : Env} {u : Option V} (S : SI K A₀ A (σ ++ [u]) H ρ₃ fp) : SI K A₀ (fun a => A a ∨ a ∈ fp σ.length) σ H (ρ₃.take σ.length) (fup fp σ.length []) ∧ (∀ a, Bs (fun a => A a ∨ a ∈ fp σ.length) (fup fp σ.length []) a → Bs A fp a) := by
  have hl : ρ₃.length = σ.length + 1 := by have := S.len; simp at this; omega
  have sub : ∀ a, Bs (fun a => A a ∨ a ∈ fp σ.length) (fup fp σ.length []) a → Bs A fp a := fun a b => by
    rcases b with (b | b) | ⟨j, b⟩
    · exact .inl b
    · exact .inr ⟨_, b⟩
    · by_cases e : j = σ.length
      · rw [e, fup_same] at b; cases b
      · rw [fup_ne e] at b; exact .inr ⟨j, b⟩
  refine ⟨⟨by rw [List.length_take]; omega, fun a h => .inl (S.sub a h), fun j => ?_, fun i j a h1 h2 => ?_, fun i a h1 h2 => ?_, fun a h => h.elim (S.tr a) fun z => (S.sl _).there a z, fun j => ?_⟩, sub⟩
  · unfold fup; split
    · exact .nil
    · exact S.nd j
  · unfold fup at h1 h2
    split at h1
    · cases h1
    · split at h2
      · cases h2
      · exact S.dj i j a h1 h2
  · unfold fup at h1
    split at h1
    · cases h1
    · rename_i ne
      rcases h2 with h2 | h2
      · exact S.na i a h1 h2
      · exact ne (S.dj i σ.length a h1 h2)
  · by_cases c : j < σ.length
    · rw [slot_take c, fup_ne (by omega), ← look_app (u := u) (by omega)]
      exact (S.sl j).mono (fun _ _ e _ => e) fun a b => .inl (sub a b)
    · rw [slot_out (by rw [List.length_take]; omega)]
      unfold fup
      split
      · exact rfl
      · have so := S.sl j
        rw [slot_out (by omega)] at so
        exact so
theorem alPass_idem : ∀ {ms : List Mode} {os os' : List Opd} {ρ ρ' ρ'' : Env}, alPass ρ ms os = some (os', ρ') → alPass ρ'' ms os' = some (os', ρ'')
  | [], [], os', ρ, ρ', ρ'', h => by
    have e : some ([], ρ) = some (os', ρ') := h
    cases e
    rfl
  | [], _ :: _, os', ρ, ρ', ρ'', h => by cases h
  | m :: ms, [], os', ρ, ρ', ρ'', h => by cases m <;> cases h
  | m :: ms, o :: os, os', ρ, ρ', ρ'', h => by
    have rest : ∀ {o' : Opd} {ρ1 : Env}, (alPass ρ1 ms os).map (fun (os', ρ'') => (o' :: os', ρ'')) = some (os', ρ') → (∀ os2 ρ2, alPass ρ'' ms os2 = some (os2, ρ2) → alPass ρ'' (m :: ms) (o' :: os2) = some (o' :: os2, ρ2)) → alPass ρ'' (m :: ms) os' = some (os', ρ'') := by
      intro o' ρ1 h k
      cases e2 : alPass ρ1 ms os with
      | none => rw [e2] at h; cases h
      | some y =>
        obtain ⟨os2, ρ2⟩ := y
        rw [e2] at h
        simp only [Option.map_some, Option.some.injEq, Prod.mk.injEq] at h
        obtain ⟨rfl, rfl⟩ := h
        exact k _ _ (alPass_idem e2)
    cases m with
    | al =>
      rw [alPass] at h
      cases e1 : alias_ ρ o with
      | none => rw [e1] at h; cases h
      | some x =>
        obtain ⟨o', ρ1⟩ := x
        rw [e1] at h
        refine rest h fun os2 ρ2 e => ?_
        have : alias_ ρ'' o' = some (o', ρ'') := by
          cases o with
          | fz d => cases e1; rfl
          | ow d => cases e1; rfl
          | pt i p =>
            cases p with
            | nil =>
              rw [alias_] at e1
              split at e1
              · cases e1; rfl
              · cases e1
            | cons s p =>
              rw [alias_] at e1
              split at e1
              · rename_i d hd
                cases e2 : setP ρ i (s :: p) (freeze d) with
                | none => rw [e2] at e1; cases e1
                | some ρ2 => rw [e2] at e1; cases e1; rfl
              · cases e1
        rw [alPass, this]
        dsimp only
        rw [e]
        rfl
    | bw => exact rest h fun os2 ρ2 e => by rw [alPass, e] <;> first | rfl | (intro z; cases z)
    | mu => exact rest h fun os2 ρ2 e => by rw [alPass, e] <;> first | rfl | (intro z; cases z)
/-- C(..) -/
def tMkX (C : Addr) (sp : Sp) (W : WX) (t : TA) : TE := fun σ H Q => t σ H fun vs H1 => ∀ x dx, H1 x = none → H1 dx = none → dx ≠ x →
  sp (.ref x :: vs) (upd (upd H1 dx (.own x)) x (.ins C dx [])) (fun v H2 => v = .non ∧ Q (.ref x) H2) (WE W σ)
theorem rd_mk {c : String} {g : Str} {es : List Ex} {ms : List Mode} (hm : F.modes g = some (.mu :: ms)) :
    ∀ σ H Q, tE K mg W F (.mk c g es) σ H Q → tMkX (He.ga K (Str.ofString c)) (spD K mg (.mu :: ms) (F.run g)) W (tEs K mg W F es) σ H Q := fun σ H Q ⟨A₀, A, ρ, fp, S, h⟩ => by
  rw [evE] at h
  refine ⟨A₀, A, ρ, fp, S, h.seq.imp (fun os ρ₁ _ h => ?_) fun _ _ h => h⟩
  rw [hm] at h
  dsimp only at h
  split at h
  · exact h.elim
  · rename_i os' ρ₂ ha
    obtain ⟨hk, ha⟩ := if_some ha
    refine ⟨hk, fun vs H₁ A₁ fp₁ q g₁ rs nd hq x dx hx hdx hne => ?_⟩
    obtain ⟨fp₂, S₂, sub, rs', lo, hal⟩ := alPass_ok g₁.si rs ha
    have kp : ∀ a o, H₁ a = some o → upd (upd H₁ dx (.own x)) x (.ins (He.ga K (Str.ofString c)) dx []) a = some o := fun a o e => by
      rw [upd_ne (ne_of_none e hx), upd_ne (ne_of_none e hdx)]; exact e
    have S₃ := S₂.push (d := .obj true c []) hx kp (.oo upd_same rfl .nil)
    generalize hH : upd (upd H₁ dx (.own x)) x (.ins (He.ga K (Str.ofString c)) dx []) = H₂ at *
    have nl : ρ₂.length = σ.length := S₂.len.symm
    have Bsub : ∀ a, Bs A₁ (fup fp₂ ρ₂.length [x]) a → Bs A₁ fp₂ a ∨ H₁ a = none := fun a b => by
      rcases bs_fup b with z | z
      · exact .inl z
      · have : a = x := by simpa using z
        rw [this]; exact .inr hx
    have t23 : Tr A₁ fp₂ H₁ A₁ (fup fp₂ ρ₂.length [x]) H₂ := ⟨fun _ h => h, fun a o e _ => kp a o e, Bsub⟩
    -- the operands, later
    have rs3 : ∀ {vs : List V} {os : List Opd} {q : List Addr}, OpdsR K H₁ (Bs A₁ fp₂) σ vs os q → (∀ a ∈ q, A₁ a) → OpdsR K H₂ (Bs A₁ (fup fp₂ ρ₂.length [x])) (σ ++ [some (.ref x)]) vs os q := by
      intro vs os q r
      induction r with
      | nil => exact fun _ => .nil
      | cons r t ih =>
        intro hq
        refine .cons ?_ (ih fun a z => hq a (List.mem_append_right _ z))
        have := r.later (fun a z => hq a (List.mem_append_left _ z)) S₂ t23 (.inr kp)
        rename_i v o q0 _ _ _
        cases o with
        | fz d => exact this
        | ow d => exact this
        | pt i p =>
          obtain ⟨h1, w, h2, h3⟩ := this
          exact ⟨h1, w, by rw [look_app (by have := look_some_lt h2; omega)]; exact h2, h3⟩
    have rsx : OpdsR K H₂ (Bs A₁ (fup fp₂ ρ₂.length [x])) (σ ++ [some (.ref x)]) (.ref x :: vs) (.pt ρ₂.length [] :: os') ([] ++ q) :=
      .cons ⟨rfl, .ref x, by rw [nl]; exact look_last, rfl⟩ (rs3 rs' fun a z => (hq a z).1)
    -- the exceptions' wish
    let W' : WX := fun cls d _ H => W cls d σ H
    have main : (callR (ρ₂ ++ [.ow (.obj true c [])]) (.mu :: ms) (.pt ρ₂.length [] :: os') (F.run g)).all (fun o ρ' => ∀ v H' A' fp', EOk K A₀ A fp (σ ++ [some (.ref x)]) H false ρ' H' A' fp' → OpdOk K H' A A' (Bs A' fp') (σ ++ [some (.ref x)]) v o → v = .non ∧ Q (.ref x) H') (XPost K mg A₀ A fp (σ ++ [some (.ref x)]) H W') := by
      cases hr : callR (ρ₂ ++ [.ow (.obj true c [])]) (.mu :: ms) (.pt ρ₂.length [] :: os') (F.run g) with
      | stuck => rw [hr] at h; exact h.elim
      | exc x0 ρ3 =>
        rw [hr] at h
        have h : XPost K mg A₀ A fp σ H W x0 (ρ3.take ρ₂.length) := h
        intro cls d H' fp' S' t' xa
        obtain ⟨S4, s4⟩ := S'.cutLast
        rw [nl] at h
        exact h cls d H' _ (S4.drop S.sub fun a z => .inl z) ⟨fun _ z => z, t'.k, fun a b => t'.b a (s4 a (b.imp .inl id))⟩ xa
      | ok o ρ3 =>
        rw [hr] at h
        intro v H' A' fp' EO ok
        replace h : (Rr.cutX (match o, ρ3[ρ₂.length]? with
          | .fz .non, some (.ow e) => Rr.ok (opd e) (ρ3.take ρ₂.length)
          | _, _ => .stuck) ρ₂.length).all _ _ := h
        split at h
        · rename_i e he
          replace h : ∀ v H' A' fp', EOk K A₀ A fp σ H (pureE (.mk c g es)) (ρ3.take ρ₂.length) H' A' fp' → OpdOk K H' A A' (Bs A' fp') σ v (opd e) → Q v H' := h
          obtain ⟨q0, r0, _⟩ := ok
          have ev : v = .non := r0.2.nonI
          refine ⟨ev, ?_⟩
          obtain ⟨S4, s4⟩ := EO.si.cutLast
          have so := EO.si.sl σ.length
          rw [nl] at he h
          rw [slot_get he, look_last] at so
          obtain ⟨v', hv', r'⟩ := so
          cases hv'
          refine h (.ref x) H' _ _ ⟨S4, ⟨fun a z => .inl (EO.tr.a a z), EO.tr.k, fun a b => EO.tr.b a (s4 a b)⟩, fun z => by cases z⟩ ?_
          unfold opd
          split
          · rename_i hf
            rw [r'.fr hf] at r'
            exact .fz (r'.mono (fun _ _ e _ => e) fun a b => .inl (s4 a b))
          · exact ⟨fp' σ.length, Rp.mono (fun _ _ e _ => e) (fun a b => .inl (s4 a b)) r', EO.si.nd _, fun a z => ⟨.inr z, fun hA => EO.si.na _ a z (EO.tr.a a hA)⟩⟩
        · exact h.elim
    have hxA : Bs A fp x ∨ H x = none := by
      cases e : H x with
      | none => exact .inr rfl
      | some o =>
        by_cases hO : ∃ i, x ∈ fp i
        · exact .inl (.inr hO)
        · have := g₁.tr.k x o e fun i hi => hO ⟨i, hi⟩
          rw [hx] at this; cases this
    have S0 : SI K A₀ A (σ ++ [some (.ref x)]) H (ρ ++ [.un]) fp := by
      have hρ : ρ.length = σ.length := S.len.symm
      refine ⟨by simp [S.len], S.sub, S.nd, S.dj, S.na, S.tr, fun j => ?_⟩
      by_cases c : j = σ.length
      · subst c
        rw [← hρ, slot_last, S.out (Nat.le_refl _)]
        exact rfl
      · rw [look_app c, slot_app (by rw [hρ]; exact c)]
        exact S.sl j
    have EO : EOk K A₀ A fp (σ ++ [some (.ref x)]) H false (ρ₂ ++ [.ow (.obj true c [])]) H₂ A₁ (fup fp₂ ρ₂.length [x]) := ⟨S₃, ⟨g₁.tr.a, fun a o e n => kp a o (g₁.tr.k a o e n), fun a b => by
      rcases bs_fup b with z | z
      · exact g₁.tr.b a (sub a z)
      · have : a = x := by simpa using z
        rw [this]; exact hxA⟩, fun z => by cases z⟩
    refine call_core (W := W') S0 EO rsx (by simpa using nd) (fun a z => hq a (by simpa using z)) ?_ main
    exact alPass_idem (ms := .mu :: ms) (os := .pt ρ₂.length [] :: os) (os' := .pt ρ₂.length [] :: os') (ρ := ρ₁) (ρ' := ρ₂) (by rw [alPass, ha] <;> first | rfl | (intro z; cases z))

end
end Rw

set_option Elab.async false
set_option linter.all false
set_option maxRecDepth 100000
/-! RwI: targets, what is walked, list comprehensions. -/
namespace Rw
open PySem PySem.Spec PyProof.Rows L2
/-! ### pinned names -/
/-- pinned names stay -/
def Pin (ρ ρ' : Env) : Prop := ρ'.length = ρ.length ∧ ∀ j, (∀ d, slot ρ j = .bw d ↔ slot ρ' j = .bw d) ∧ (∀ d, slot ρ j = .mw d → ∃ d', slot ρ' j = .mw d')
theorem Pin.refl {ρ : Env} : Pin ρ ρ := ⟨rfl, fun j => ⟨fun _ => .rfl, fun d h => ⟨d, h⟩⟩⟩
theorem Pin.trans {ρ ρ' ρ'' : Env} (h : Pin ρ ρ') (g : Pin ρ' ρ'') : Pin ρ ρ'' := ⟨g.1.trans h.1, fun j => ⟨fun d => ((h.2 j).1 d).trans ((g.2 j).1 d), fun d e => by
  obtain ⟨d', e'⟩ := (h.2 j).2 d e
  exact (g.2 j).2 d' e'⟩⟩
theorem Pin.set {ρ : Env} {i : Nat} {s : Slot} (h : (slot ρ i).pin = false) (hs : s.pin = false := by rfl) : Pin ρ (ρ.set i s) := by
  refine ⟨by simp, fun j => ?_⟩
  by_cases e : j = i
  · subst e
    constructor
    · intro d
      constructor
      · intro hd; rw [hd] at h; cases h
      · intro hd
        by_cases hj : j < ρ.length
        · rw [slot_set_same hj] at hd
          rw [hd] at hs; cases hs
        · rw [slot_out (by simpa using hj)] at hd; cases hd
    · intro d hd; rw [hd] at h; cases h
  · rw [slot_set e]
    exact ⟨fun _ => .rfl, fun d h => ⟨d, h⟩⟩
theorem Pin.setM {ρ : Env} {i : Nat} {d d' : D} (h : slot ρ i = .mw d) (hi : i < ρ.length) : Pin ρ (ρ.set i (.mw d')) := by
  refine ⟨by simp, fun j => ?_⟩
  by_cases e : j = i
  · subst e
    rw [slot_set_same hi, h]
    exact ⟨fun d => ⟨(fun z => by cases z), fun z => by cases z⟩, fun _ _ => ⟨d', rfl⟩⟩
  · rw [slot_set e]
    exact ⟨fun _ => .rfl, fun d h => ⟨d, h⟩⟩
theorem slotOf_pin {b : Bool} {d : D} : (slotOf b d).pin = false := by unfold slotOf; split <;> rfl
theorem Pin.setP {ρ ρ' : Env} {i : Nat} {p : List Stp} {e : D} (h : setP ρ i p e = some ρ') : Pin ρ ρ' := by
  unfold Rw.setP at h
  split at h
  · rename_i d hd
    cases hs : setAt d p e with
    | none => rw [hs] at h; cases h
    | some d' =>
      rw [hs] at h
      cases h
      exact .set (by rw [slot_get hd] <;> rfl)
  · rename_i d hd
    cases hs : setAt d p e with
    | none => rw [hs] at h; cases h
    | some d' =>
      rw [hs] at h
      cases h
      exact .setM (slot_get hd) (lt_of_get hd)
  · cases h
theorem Pin.alias {ρ ρ' : Env} {o o' : Opd} (h : alias_ ρ o = some (o', ρ')) : Pin ρ ρ' := by
  cases o with
  | fz d => cases h; exact .refl
  | ow d => cases h; exact .refl
  | pt i p =>
    cases p with
    | nil =>
      rw [alias_] at h
      split at h
      · rename_i d hd
        cases h
        exact .set (by rw [slot_get hd] <;> rfl)
      · cases h
    | cons s p =>
      rw [alias_] at h
      split at h
      · rename_i d hd
        cases hs : Rw.setP ρ i (s :: p) (freeze d) with
        | none => rw [hs] at h; cases h
        | some ρ2 =>
          rw [hs] at h
          cases h
          exact .setP hs
      · cases h
/-! ### targets -/
mutual
theorem asgT_pin : ∀ (t : Tg) {b : Bool} {d : D} {ρ ρ' : Env}, asgT t b d ρ = some ρ' → Pin ρ ρ'
  | .nm i, b, d, ρ, ρ', h => by
    rw [asgT] at h
    split at h
    · rename_i s hs
      split at h
      · cases h
      · rename_i hp
        cases h
        exact .set (by rw [slot_get hs]; simpa using hp) slotOf_pin
    · cases h
  | .tp ts, b, d, ρ, ρ', h => by
    cases d with
    | tup xs => rw [asgT] at h; exact asgTs_pin ts h
    | _ => cases h
theorem asgTs_pin : ∀ (ts : List Tg) {b : Bool} {ds : List D} {ρ ρ' : Env}, asgTs ts b ds ρ = some ρ' → Pin ρ ρ'
  | [], b, ds, ρ, ρ', h => by
    cases ds with
    | nil => cases h; exact .refl
    | cons _ _ => cases h
  | t :: ts, b, ds, ρ, ρ', h => by
    cases ds with
    | nil => cases h
    | cons d ds =>
      rw [asgTs] at h
      split at h
      · rename_i ρ1 h1
        exact (asgT_pin t h1).trans (asgTs_pin ts h)
      · cases h
end
mutual
def gT (K : KW) : Tg → TG
  | .nm i => gName i
  | .tp ts => gTup K ts.length (gTs K ts)
def gTs (K : KW) : List Tg → TGs
  | [] => gNil
  | t :: ts => gCons (gT K t) (gTs K ts)
end
section
variable {K : KW} {mg : Str → Option Value} {A₀ A A' A₁ : Addr → Prop} {σ : L2.St} {H H' H₁ : Hp} {ρ ρ' ρ₁ : Env} {fp fp' fp₁ : Nat → List Addr}
theorem look_set {σ : L2.St} {i j : Nat} {v : Option V} (h : j ≠ i) : look (σ.set i v) j = look σ j := by
  unfold look
  rw [List.getElem?_set_ne (Ne.symm h)]
theorem look_set_same {σ : L2.St} {i : Nat} {v : Option V} (h : i < σ.length) : look (σ.set i v) i = v := by
  unfold look
  rw [List.getElem?_set_self h]
  rfl
/-- behind a target's store -/
structure TgOk (K : KW) (A₀ A : Addr → Prop) (fp : Nat → List Addr) (σ : L2.St) (H : Hp) (ρ : Env) (q : List Addr) (σ' : L2.St) (ρ' : Env) (fp' : Nat → List Addr) : Prop where
  si : SI K A₀ (fun a => A a ∧ a ∉ q) σ' H ρ' fp'
  b : ∀ a, Bs (fun a => A a ∧ a ∉ q) fp' a → Bs A fp a
  pin : ∀ j, (slot ρ j).pin = true → look σ' j = look σ j
mutual
theorem gT_ok : ∀ (t : Tg) {b : Bool} {d : D} {v : V} {q : List Addr} {σ : L2.St} {ρ ρ' : Env} {fp : Nat → List Addr} {A : Addr → Prop} {Q : L2.St → Hp → Prop}, SI K A₀ A σ H ρ fp → Rp K H (Bs A fp) v d q → q.Nodup → (∀ a ∈ q, A a ∧ ¬ A₀ a) → (b = true → q = []) → asgT t b d ρ = some ρ' →
    (∀ σ' fp', TgOk K A₀ A fp σ H ρ q σ' ρ' fp' → Q σ' H) → gT K t v σ H Q
  | .nm i, b, d, v, q, σ, ρ, ρ', fp, A, Q, S, r, nd, hq, hb, h, k => by
    rw [asgT] at h
    split at h
    · rename_i s hs
      split at h
      · cases h
      · rename_i hp
        cases h
        have hi := lt_of_get hs
        have hiσ : i < σ.length := by rw [S.len]; exact hi
        refine k _ (fup fp i q) ⟨?_, ?_, fun j hj => look_set fun e => ?_⟩
        · refine S.chg i (by rw [List.length_set, List.length_set]; exact S.len) (fun j hj => look_set hj) (fun j hj => slot_set hj) (fun a h => ⟨S.sub a h, fun z => (hq a z).2 h⟩) (fun a h => .inl h.1) (fun a h => S.tr a h.1) nd (fun a h => .inr (.inl (hq a h).1)) (fun a h z => z.2 h) (fun _ _ e _ => e) ?_
          have r' : Rp K H (Bs (fun a => A a ∧ a ∉ q) (fup fp i q)) v d q := r.mono (fun _ _ e _ => e) fun a b => .inl (by
            rcases b with b | ⟨j, b⟩
            · exact .inl b.1
            · by_cases e : j = i
              · rw [e, fup_same] at b; exact .inl (hq a b).1
              · rw [fup_ne e] at b; exact .inr ⟨j, b⟩)
          rw [look_set_same hiσ, slot_set_same hi]
          unfold slotOf
          split
          · rename_i hf
            have e : q = [] := by
              rw [Bool.or_eq_true] at hf
              exact hf.elim hb fun z => r.fr z
            subst e
            exact ⟨rfl, v, rfl, r'⟩
          · exact ⟨v, rfl, r'⟩
        · intro a b
          rcases b with b | ⟨j, b⟩
          · exact .inl b.1
          · by_cases e : j = i
            · rw [e, fup_same] at b; exact .inl (hq a b).1
            · rw [fup_ne e] at b; exact .inr ⟨j, b⟩
        · rw [e, slot_get hs] at hj
          exact hp hj
    · cases h
  | .tp ts, b, d, v, q, σ, ρ, ρ', fp, A, Q, S, r, nd, hq, hb, h, k => by
    cases r with
    | tup t l =>
      rw [asgT] at h
      have hl : ∀ {ts : List Tg} {ds : List D} {ρ ρ' : Env}, asgTs ts b ds ρ = some ρ' → ds.length = ts.length := by
        intro ts
        induction ts with
        | nil => intro ds ρ ρ' h; cases ds with
          | nil => rfl
          | cons _ _ => cases h
        | cons t ts ih => intro ds ρ ρ' h; cases ds with
          | nil => cases h
          | cons d ds =>
            rw [asgTs] at h
            split at h
            · rw [List.length_cons, List.length_cons, ih h]
            · cases h
      exact ⟨_, _, rfl, t.sq, by rw [l.len, hl h], gTs_ok ts S l nd hq hb h k⟩
    | _ => cases h
theorem gTs_ok : ∀ (ts : List Tg) {b : Bool} {ds : List D} {vs : List V} {q : List Addr} {σ : L2.St} {ρ ρ' : Env} {fp : Nat → List Addr} {A : Addr → Prop} {Q : L2.St → Hp → Prop}, SI K A₀ A σ H ρ fp → RpL K H (Bs A fp) vs ds q → q.Nodup → (∀ a ∈ q, A a ∧ ¬ A₀ a) → (b = true → q = []) → asgTs ts b ds ρ = some ρ' →
    (∀ σ' fp', TgOk K A₀ A fp σ H ρ q σ' ρ' fp' → Q σ' H) → gTs K ts vs σ H Q
  | [], b, ds, vs, q, σ, ρ, ρ', fp, A, Q, S, l, nd, hq, hb, h, k => by
    cases l with
    | nil =>
      cases h
      exact ⟨rfl, k σ fp ⟨S.drop (fun a h => ⟨S.sub a h, List.not_mem_nil⟩) fun a h => h.1, fun a b => b.imp (·.1) id, fun _ _ => rfl⟩⟩
    | cons r l => cases h
  | t :: ts, b, ds, vs, q, σ, ρ, ρ', fp, A, Q, S, l, nd, hq, hb, h, k => by
    cases l with
    | nil => cases h
    | cons r l =>
      rename_i v d f vs ds fs
      rw [asgTs] at h
      split at h
      · rename_i ρ1 h1
        have nd' := List.nodup_append.mp nd
        have hb1 : b = true → f = [] := fun z => (List.append_eq_nil_iff.mp (hb z)).1
        have hb2 : b = true → fs = [] := fun z => (List.append_eq_nil_iff.mp (hb z)).2
        refine ⟨v, vs, rfl, gT_ok t S r nd'.1 (fun a z => hq a (List.mem_append_left _ z)) hb1 h1 fun σ1 fp1 T1 => ?_⟩
        have hq1 : ∀ a ∈ fs, (A a ∧ a ∉ f) ∧ ¬ A₀ a := fun a z => ⟨⟨(hq a (List.mem_append_right _ z)).1, fun y => nd'.2.2 a y a z rfl⟩, (hq a (List.mem_append_right _ z)).2⟩
        refine gTs_ok ts T1.si (l.mono (fun _ _ e _ => e) fun a b => .inl (T1.b a b)) nd'.2.1 hq1 hb2 h fun σ2 fp2 T2 => k σ2 fp2 ⟨?_, ?_, ?_⟩
        · exact T2.si.drop (fun a h => ⟨S.sub a h, fun z => (hq a z).2 h⟩) fun a h => ⟨⟨h.1, fun z => h.2 (List.mem_append_left _ z)⟩, fun z => h.2 (List.mem_append_right _ z)⟩
        · exact fun a b => T1.b a (T2.b a (b.imp (fun h => ⟨⟨h.1, fun z => h.2 (List.mem_append_left _ z)⟩, fun z => h.2 (List.mem_append_right _ z)⟩) id))
        · intro j hj
          rw [T2.pin j ?_, T1.pin j hj]
          have p1 := asgT_pin t h1
          cases es : slot ρ j with
          | bw d0 => rw [((p1.2 j).1 d0).mp es] <;> rfl
          | mw d0 => obtain ⟨d1, e1⟩ := (p1.2 j).2 d0 es; rw [e1] <;> rfl
          | un => rw [es] at hj; cases hj
          | fz d0 => rw [es] at hj; cases hj
          | ow d0 => rw [es] at hj; cases hj
      · cases h
end
end
end Rw

set_option Elab.async false
set_option linter.all false
set_option maxRecDepth 100000
/-! RwJ: an evaluation keeps the pinned names. -/
namespace Rw
open PySem PySem.Spec PyProof.Rows L2
/-- pinned names but those in X stay -/
def PinX (X : Nat → Prop) (ρ ρ' : Env) : Prop := ρ'.length = ρ.length ∧ ∀ j, ¬ X j → (∀ d, slot ρ j = .bw d ↔ slot ρ' j = .bw d) ∧ (∀ d, slot ρ j = .mw d → ∃ d', slot ρ' j = .mw d')
section
variable {X : Nat → Prop} {ρ ρ' ρ'' : Env}
theorem Pin.x (h : Pin ρ ρ') : PinX X ρ ρ' := ⟨h.1, fun j _ => h.2 j⟩
theorem PinX.refl : PinX X ρ ρ := Pin.refl.x
theorem PinX.trans (h : PinX X ρ ρ') (g : PinX X ρ' ρ'') : PinX X ρ ρ'' := ⟨g.1.trans h.1, fun j n => ⟨fun d => ((h.2 j n).1 d).trans ((g.2 j n).1 d), fun d e => by
  obtain ⟨d', e'⟩ := (h.2 j n).2 d e
  exact (g.2 j n).2 d' e'⟩⟩
theorem PinX.set {i : Nat} {s : Slot} (h : X i) : PinX X ρ (ρ.set i s) := ⟨by simp, fun j n => by
  rw [slot_set (fun e => n (by rw [e]; exact h))]
  exact ⟨fun _ => .rfl, fun d h => ⟨d, h⟩⟩⟩
theorem PinX.wipe : ∀ {vs : List Nat}, (∀ v ∈ vs, X v) → PinX X ρ (wipeE ρ vs)
  | [], _ => .refl
  | v :: vs, h => PinX.trans (PinX.wipe fun u hu => h u (List.mem_cons_of_mem _ hu)) (.set (h v List.mem_cons_self))
theorem PinX.lock {k : Option Nat} (h : ∀ i, k = some i → ((∃ d, slot ρ i = .ow d) ∨ ∃ d, slot ρ i = .mw d) → X i) : PinX X ρ (Rw.lock ρ k) := by
  cases k with
  | none => exact .refl
  | some i =>
    unfold Rw.lock
    dsimp only
    split
    · rename_i d hd
      exact .set (h i rfl (.inl ⟨d, slot_get hd⟩))
    · rename_i d hd
      exact .set (h i rfl (.inr ⟨d, slot_get hd⟩))
    · exact .refl
/-- what an evaluation's end says of pinned names -/
def Rr.pin {α : Type} (X : Nat → Prop) (ρ : Env) : Rr α → Prop
  | .ok _ ρ' => PinX X ρ ρ'
  | .exc _ ρ' => PinX X ρ ρ'
  | .stuck => True
theorem Rr.pin_bind {α β : Type} {r : Rr α} {f : α → Env → Rr β} (h : r.pin X ρ) (k : ∀ a ρ', r = .ok a ρ' → (f a ρ').pin X ρ') : (r.bind f).pin X ρ := by
  cases r with
  | ok a ρ' =>
    have g := k a ρ' rfl
    show (f a ρ').pin X ρ
    cases e : f a ρ' with
    | ok b ρ'' => rw [e] at g; exact PinX.trans h g
    | exc x ρ'' => rw [e] at g; exact PinX.trans h g
    | stuck => trivial
  | exc x ρ' => exact h
  | stuck => trivial
theorem Rr.pin_of {α : Type} {r : Rr α} (h : r.pin (fun _ => False) ρ) : r.pin X ρ := by
  cases r with
  | ok a ρ' => exact ⟨h.1, fun j _ => h.2 j id⟩
  | exc x ρ' => exact ⟨h.1, fun j _ => h.2 j id⟩
  | stuck => trivial
theorem Rr.pin_pre {α : Type} {r : Rr α} (h : PinX X ρ ρ') (g : r.pin X ρ') : r.pin X ρ := by
  cases r with
  | ok a ρ2 => exact PinX.trans h g
  | exc a ρ2 => exact PinX.trans h g
  | stuck => trivial
theorem ofOpt_pin {α : Type} {o : Option α} : (ofOpt ρ o).pin X ρ := by
  cases o with
  | none => trivial
  | some a => exact PinX.refl
theorem tst_pin {r : Rr Opd} (h : r.pin X ρ) : (tst r).pin X ρ := Rr.pin_bind h fun a ρ' _ => ofOpt_pin
theorem alPass_pin : ∀ {ms : List Mode} {os os' : List Opd} {ρ ρ' : Env}, alPass ρ ms os = some (os', ρ') → Pin ρ ρ'
  | [], [], os', ρ, ρ', h => by cases h; exact .refl
  | [], _ :: _, os', ρ, ρ', h => by cases h
  | m :: ms, [], os', ρ, ρ', h => by cases m <;> cases h
  | m :: ms, o :: os, os', ρ, ρ', h => by
    have rest : ∀ {ρ1 : Env} {f : Opd}, (alPass ρ1 ms os).map (fun (os', ρ'') => (f :: os', ρ'')) = some (os', ρ') → Pin ρ1 ρ' := fun {ρ1 f} h => by
      cases e : alPass ρ1 ms os with
      | none => rw [e] at h; cases h
      | some y =>
        obtain ⟨os2, ρ2⟩ := y
        rw [e] at h
        cases h
        exact alPass_pin e
    cases m with
    | al =>
      rw [alPass] at h
      split at h
      · rename_i o' ρ1 h1
        exact (Pin.alias h1).trans (rest h)
      · cases h
    | bw => exact rest h
    | mu => exact rest h
theorem aliases_pin : ∀ {os : List Opd} {ds : List D} {b : Bool} {ρ ρ' : Env}, aliases ρ os = some (ds, b, ρ') → Pin ρ ρ'
  | [], ds, b, ρ, ρ', h => by cases h; exact .refl
  | o :: os, ds, b, ρ, ρ', h => by
    rw [aliases] at h
    split at h
    · cases h
    · rename_i o' ρ1 h1
      split at h
      · cases h
      · rename_i ds1 b1 ρ2 h2
        simp only [Option.some.injEq, Prod.mk.injEq] at h
        obtain ⟨_, _, rfl⟩ := h
        exact (Pin.alias h1).trans (aliases_pin h2)
theorem callR_pin {ms : List Mode} {os : List Opd} {m : List D → FRes} : (callR ρ ms os m).pin X ρ := by
  unfold callR
  split
  · trivial
  · split
    · split
      · exact PinX.refl
      · exact PinX.refl
      · trivial
    · split
      · trivial
      · split
        · split
          · rename_i h; exact (Pin.setP h).x
          · trivial
        · split
          · rename_i h; exact (Pin.setP h).x
          · trivial
        · trivial
    · trivial
theorem lcL_pin {f : D → Env → Rr (Option D)} {own : List Nat} (ho : ∀ v ∈ own, X v) (hf : ∀ x ρ, (f x ρ).pin X ρ) : ∀ (xs acc : List D) (ρ : Env), (lcL f own xs acc ρ).pin X ρ
  | [], acc, ρ => PinX.refl
  | x :: xs, acc, ρ => by
    rw [lcL]
    refine Rr.pin_bind ?_ fun o ρ' _ => ?_
    · have h := hf x (wipeE ρ own)
      cases e : f x (wipeE ρ own) with
      | ok a ρ' => rw [e] at h; exact PinX.trans (.wipe ho) h
      | exc a ρ' => rw [e] at h; exact PinX.trans (.wipe ho) h
      | stuck => trivial
    · cases o with
      | none => exact lcL_pin ho hf xs acc ρ'
      | some y =>
        dsimp only
        split
        · exact lcL_pin ho hf xs _ ρ'
        · trivial
theorem lc2L_pin {f : D → List D → Env → Rr (List D)} {own : List Nat} (ho : ∀ v ∈ own, X v) (hf : ∀ x acc ρ, (f x acc ρ).pin X ρ) : ∀ (xs acc : List D) (ρ : Env), (lc2L f own xs acc ρ).pin X ρ
  | [], acc, ρ => PinX.refl
  | x :: xs, acc, ρ => by
    rw [lc2L]
    exact Rr.pin_bind (Rr.pin_pre (PinX.wipe ho) (hf x acc (wipeE ρ own))) fun o ρ' _ => lc2L_pin ho hf xs o ρ'
theorem dcL_pin {f : D → Env → Rr (Option (D × D))} {own : List Nat} (ho : ∀ v ∈ own, X v) (hf : ∀ x ρ, (f x ρ).pin X ρ) : ∀ (xs : List D) (acc : List (D × D)) (ρ : Env), (dcL f own xs acc ρ).pin X ρ
  | [], acc, ρ => PinX.refl
  | x :: xs, acc, ρ => by
    rw [dcL]
    refine Rr.pin_bind (Rr.pin_pre (PinX.wipe ho) (hf x (wipeE ρ own))) fun o ρ' _ => ?_
    cases o with
    | none => exact dcL_pin ho hf xs acc ρ'
    | some y =>
      dsimp only
      split
      · exact dcL_pin ho hf xs _ ρ'
      · trivial
theorem lcT_pin0 {t : Tg} {b : Bool} {fc : Env → Rr Bool} {fe : Env → Rr Opd} (hc : ∀ ρ, (fc ρ).pin X ρ) (he : ∀ ρ, (fe ρ).pin X ρ) {x : D} {ρ : Env} : (lcT t b fc fe x ρ).pin X ρ := by
  unfold lcT
  split
  · trivial
  · rename_i ρ' ha
    refine Rr.pin_pre (asgT_pin t ha).x (Rr.pin_bind (hc ρ') fun b ρ2 _ => ?_)
    split
    · refine Rr.pin_bind (he ρ2) fun o ρ3 _ => ?_
      split
      · rename_i hal; exact (Pin.alias hal).x
      · trivial
    · exact PinX.refl
theorem lc2T_pin0 {t : Tg} {b : Bool} {fc : Env → Rr Bool} {fi : Env → Rr (List D × Bool × Option Nat)} {f1 : Bool → D → Env → Rr (Option D)} {own1 : List Nat} (ho : ∀ v ∈ own1, X v) (hc : ∀ ρ, (fc ρ).pin X ρ) (hi : ∀ ρ, (fi ρ).pin X ρ) (hf : ∀ b x ρ, (f1 b x ρ).pin X ρ) {x : D} {acc : List D} {ρ : Env} : (lc2T t b fc fi f1 own1 x acc ρ).pin X ρ := by
  unfold lc2T
  split
  · trivial
  · rename_i ρ' ha
    refine Rr.pin_pre (asgT_pin t ha).x (Rr.pin_bind (hc ρ') fun b ρ2 _ => ?_)
    split
    · refine Rr.pin_bind (hi ρ2) fun y ρ3 _ => ?_
      split
      · exact lcL_pin ho (hf y.2.1) _ _ _
      · trivial
    · exact PinX.refl
theorem dcT_pin0 {t : Tg} {b : Bool} {fc : Env → Rr Bool} {fk fv : Env → Rr Opd} (hc : ∀ ρ, (fc ρ).pin X ρ) (hk : ∀ ρ, (fk ρ).pin X ρ) (he : ∀ ρ, (fv ρ).pin X ρ) {x : D} {ρ : Env} : (dcT t b fc fk fv x ρ).pin X ρ := by
  unfold dcT
  split
  · trivial
  · rename_i ρ' ha
    refine Rr.pin_pre (asgT_pin t ha).x (Rr.pin_bind (hc ρ') fun b ρ2 _ => ?_)
    split
    · refine Rr.pin_bind (hk ρ2) fun o ρ3 _ => ?_
      split
      · refine Rr.pin_bind (he ρ3) fun u ρ4 _ => ?_
        split
        · rename_i hal; exact (Pin.alias hal).x
        · trivial
      · trivial
    · exact PinX.refl
theorem backE_pin : ∀ {own : List Nat} {ρ₀ ρ ρ' : Env}, backE ρ₀ ρ own = some ρ' → ρ'.length = ρ.length ∧ (∀ j, j ∉ own → slot ρ' j = slot ρ j) ∧ ∀ j ∈ own, (slot ρ₀ j = .un ∨ ∃ d, slot ρ₀ j = .fz d) ∧ (j < ρ.length → slot ρ' j = slot ρ₀ j)
  | [], ρ₀, ρ, ρ', h => by cases h; exact ⟨rfl, fun _ _ => rfl, fun _ z => nomatch z⟩
  | v :: vs, ρ₀, ρ, ρ', h => by
    rw [backE] at h
    have go : ∀ {s : Slot}, slot ρ₀ v = s → (s = .un ∨ ∃ d, s = .fz d) → (backE ρ₀ ρ vs).map (fun ρ' => ρ'.set v s) = some ρ' → ρ'.length = ρ.length ∧ (∀ j, j ∉ v :: vs → slot ρ' j = slot ρ j) ∧ ∀ j ∈ v :: vs, (slot ρ₀ j = .un ∨ ∃ d, slot ρ₀ j = .fz d) ∧ (j < ρ.length → slot ρ' j = slot ρ₀ j) := fun {s} hs hp h => by
      cases e : backE ρ₀ ρ vs with
      | none => rw [e] at h; cases h
      | some ρ2 =>
        rw [e] at h
        cases h
        obtain ⟨h1, h2, h3⟩ := backE_pin e
        refine ⟨by simp [h1], fun j hj => ?_, fun j hj => ?_⟩
        · rw [slot_set (fun z => hj (by rw [z]; exact List.mem_cons_self))]
          exact h2 j fun z => hj (List.mem_cons_of_mem _ z)
        · by_cases ej : j = v
          · subst ej
            rw [hs]
            exact ⟨hp, fun hl => slot_set_same (by rw [h1]; exact hl)⟩
          · rw [slot_set ej]
            exact h3 j ((List.mem_cons.mp hj).resolve_left ej)
    split at h
    · rename_i hs; exact go (slot_get hs) (.inl rfl) h
    · rename_i d hs; exact go (slot_get hs) (.inr ⟨d, rfl⟩) h
    · cases h
theorem unlock_slot {ρ₀ ρ ρ' : Env} {k : Option Nat} (h : unlock ρ₀ k ρ = some ρ') : ρ'.length = ρ.length ∧ (∀ j, k ≠ some j → slot ρ' j = slot ρ j) ∧ ∀ i, k = some i → (∀ d, slot ρ₀ i = .ow d → ρ' = ρ.set i (.ow d)) ∧ (∀ d, slot ρ₀ i = .mw d → ρ' = ρ.set i (.mw d)) ∧ ((∀ d, slot ρ₀ i ≠ .ow d) → (∀ d, slot ρ₀ i ≠ .mw d) → ρ' = ρ) := by
  unfold unlock at h
  cases k with
  | none => cases h; exact ⟨rfl, fun _ _ => rfl, fun i z => nomatch z⟩
  | some i =>
    dsimp only at h
    split at h
    · rename_i d hd
      cases h
      refine ⟨by simp, fun j hj => slot_set (fun e => hj (by rw [e])), fun i' e => ?_⟩
      cases e
      rw [slot_get hd]
      exact ⟨(fun d' e => by cases e; rfl), (fun d' e => by cases e), fun h => (h d rfl).elim⟩
    · rename_i d hd
      cases h
      refine ⟨by simp, fun j hj => slot_set (fun e => hj (by rw [e])), fun i' e => ?_⟩
      cases e
      rw [slot_get hd]
      exact ⟨(fun d' e => by cases e), (fun d' e => by cases e; rfl), fun _ h => (h d rfl).elim⟩
    · rename_i h1 h2
      cases h
      refine ⟨rfl, fun j hj => rfl, fun i' e => ?_⟩
      cases e
      have hn : ∀ s, slot ρ₀ i = s → s ≠ .un → ρ₀[i]? = some s := fun s e ne => by rw [← e]; exact get_slot (by rw [e]; exact ne)
      exact ⟨fun d' e => (h1 d' (hn _ e (by intro z; cases z))).elim, fun d' e => (h2 d' (hn _ e (by intro z; cases z))).elim, fun _ _ => rfl⟩
/-- behind a walk: pinned names are as they were -/
theorem back_pin {own : List Nat} {k : Option Nat} {ρ₁ ρ₂ ρ₃ : Env} (h : PinX (fun j => j ∈ own ∨ (k = some j ∧ ((∃ d, slot ρ₁ j = .ow d) ∨ ∃ d, slot ρ₁ j = .mw d))) ρ₁ ρ₂) (e : (backE ρ₁ ρ₂ own).bind (unlock ρ₁ k) = some ρ₃) : Pin ρ₁ ρ₃ := by
  cases e1 : backE ρ₁ ρ₂ own with
  | none => rw [e1] at e; cases e
  | some ρ' =>
    rw [e1] at e
    obtain ⟨b1, b2, b3⟩ := backE_pin e1
    obtain ⟨u1, u2, u3⟩ := unlock_slot (show unlock ρ₁ k ρ' = some ρ₃ from e)
    refine ⟨by rw [u1, b1, h.1], fun j => ?_⟩
    have len : ρ'.length = ρ₁.length := by rw [b1, h.1]
    by_cases ho : j ∈ own
    · -- a name of the walk's own
      obtain ⟨c1, c2⟩ := b3 j ho
      have e3 : slot ρ₃ j = slot ρ₁ j := by
        have e2 : slot ρ' j = slot ρ₁ j := by
          by_cases hl : j < ρ₂.length
          · exact c2 hl
          · rw [slot_out (by rw [b1]; simpa using hl), slot_out (by rw [← h.1]; simpa using hl)]
        by_cases hk : k = some j
        · obtain ⟨v1, v2, v3⟩ := u3 j hk
          rw [v3 (fun d z => by rcases c1 with c | ⟨d', c⟩ <;> rw [c] at z <;> cases z) (fun d z => by rcases c1 with c | ⟨d', c⟩ <;> rw [c] at z <;> cases z)]
          exact e2
        · rw [u2 j hk]; exact e2
      rw [e3]
      exact ⟨fun _ => .rfl, fun d h => ⟨d, h⟩⟩
    · by_cases hk : k = some j
      · obtain ⟨v1, v2, v3⟩ := u3 j hk
        have lt : ∀ s, slot ρ₁ j = s → s ≠ .un → j < ρ'.length := fun s hs hn => by
          rw [len]
          exact lt_of_get (get_slot (by rw [hs]; exact hn))
        have rest : ∀ {s}, slot ρ₁ j = s → (∀ d, s ≠ .ow d) → (∀ d, s ≠ .mw d) → (∀ d, s = .bw d ↔ slot ρ₃ j = .bw d) ∧ ∀ d, s = .mw d → ∃ d', slot ρ₃ j = .mw d' := fun {s} es n1 n2 => by
          rw [v3 (fun d z => n1 d (by rw [← es, z])) (fun d z => n2 d (by rw [← es, z])), b2 j ho]
          have := h.2 j fun z => z.elim ho fun y => y.2.elim (fun ⟨d, z⟩ => n1 d (by rw [← es, z])) fun ⟨d, z⟩ => n2 d (by rw [← es, z])
          rw [es] at this
          exact this
        cases es : slot ρ₁ j with
        | ow d =>
          rw [v1 d es, slot_set_same (lt _ es (by intro z; cases z))]
          exact ⟨fun d => ⟨(fun z => by cases z), fun z => by cases z⟩, fun d z => by cases z⟩
        | mw d =>
          rw [v2 d es, slot_set_same (lt _ es (by intro z; cases z))]
          exact ⟨fun d => ⟨(fun z => by cases z), fun z => by cases z⟩, fun d' _ => ⟨d, rfl⟩⟩
        | bw d => exact rest es (fun d z => by cases z) fun d z => by cases z
        | un => exact rest es (fun d z => by cases z) fun d z => by cases z
        | fz d => exact rest es (fun d z => by cases z) fun d z => by cases z
      · rw [u2 j hk, b2 j ho]
        exact h.2 j fun z => z.elim ho fun y => hk y.1
mutual
theorem evE_pin (F : Fn) : ∀ (e : Ex) {X : Nat → Prop} (ρ : Env), (evE F e ρ).pin X ρ
  | .var i, X, ρ => by
    rw [evE]
    split <;> first | exact PinX.refl | trivial
  | .mv i, X, ρ => by
    rw [evE]
    split
    · exact PinX.refl
    · rename_i d hd
      exact (Pin.set (by rw [slot_get hd] <;> rfl)).x
    · trivial
  | .lit d, X, ρ => by rw [evE]; exact PinX.refl
  | .dct0, X, ρ => by rw [evE]; exact PinX.refl
  | .dctN, X, ρ => by rw [evE]; exact PinX.refl
  | .bop op a b, X, ρ => by
    rw [evE]
    refine Rr.pin_bind (evE_pin F a ρ) fun _ ρ1 _ => Rr.pin_bind (evE_pin F b ρ1) fun _ ρ2 _ => ?_
    split
    · split
      · exact ofOpt_pin
      · trivial
    · trivial
  | .neg a, X, ρ => by
    rw [evE]
    refine Rr.pin_bind (evE_pin F a ρ) fun _ ρ1 _ => ?_
    split <;> first | exact PinX.refl | trivial
  | .cmp op a b, X, ρ => by
    rw [evE]
    refine Rr.pin_bind (evE_pin F a ρ) fun _ ρ1 _ => Rr.pin_bind (evE_pin F b ρ1) fun _ ρ2 _ => ?_
    split
    · split
      · exact ofOpt_pin
      · trivial
    · trivial
  | .cmp2 op op' a b c, X, ρ => by
    rw [evE]
    refine Rr.pin_bind (evE_pin F a ρ) fun _ ρ1 _ => Rr.pin_bind (evE_pin F b ρ1) fun _ ρ2 _ => ?_
    split
    · split
      · split
        · refine Rr.pin_bind (evE_pin F c ρ2) fun _ ρ3 _ => ?_
          split
          · exact ofOpt_pin
          · trivial
        · exact PinX.refl
        · trivial
      · trivial
    · trivial
  | .band a b, X, ρ => by
    rw [evE]
    refine Rr.pin_bind (evE_pin F a ρ) fun _ ρ1 _ => ?_
    split
    · exact evE_pin F b ρ1
    · exact PinX.refl
    · trivial
  | .bor a b, X, ρ => by
    rw [evE]
    refine Rr.pin_bind (evE_pin F a ρ) fun _ ρ1 _ => ?_
    split
    · exact PinX.refl
    · exact evE_pin F b ρ1
    · trivial
  | .bnot a, X, ρ => by
    rw [evE]
    refine Rr.pin_bind (evE_pin F a ρ) fun _ ρ1 _ => ?_
    split <;> first | exact PinX.refl | trivial
  | .ife c a b, X, ρ => by
    rw [evE]
    refine Rr.pin_bind (tst_pin (evE_pin F c ρ)) fun _ ρ1 _ => ?_
    split
    · exact evE_pin F a ρ1
    · exact evE_pin F b ρ1
  | .tup es, X, ρ => by
    rw [evE]
    refine Rr.pin_bind (evEs_pin F es ρ) fun _ ρ1 _ => ?_
    split
    · rename_i ha
      split
      · exact (aliases_pin (if_some ha).2).x
      · trivial
    · trivial
  | .lst es, X, ρ => by
    rw [evE]
    refine Rr.pin_bind (evEs_pin F es ρ) fun _ ρ1 _ => ?_
    split
    · rename_i ha
      split
      · exact (aliases_pin (if_some ha).2).x
      · trivial
    · trivial
  | .sub a i, X, ρ => by
    rw [evE]
    refine Rr.pin_bind (evE_pin F a ρ) fun x ρ1 _ => Rr.pin_bind (evE_pin F i ρ1) fun _ ρ2 _ => ?_
    split
    · split
      · split
        · cases x with
          | fz d => exact PinX.refl
          | ow d => dsimp only; split <;> first | exact PinX.refl | trivial
          | pt j p =>
            dsimp only
            split
            · exact PinX.refl
            · split <;> first | exact PinX.refl | trivial
        · trivial
      · trivial
    · trivial
  | .slc a lo hi, X, ρ => by
    rw [evE]
    refine Rr.pin_bind (evE_pin F a ρ) fun x ρ1 _ => Rr.pin_bind (evO_pin F lo ρ1) fun _ ρ2 _ => Rr.pin_bind (evO_pin F hi ρ2) fun _ ρ3 _ => ?_
    split
    · split
      · exact ofOpt_pin
      · trivial
    · trivial
  | .call f es, X, ρ => by
    rw [evE]
    refine Rr.pin_bind (evEs_pin F es ρ) fun _ ρ1 _ => ?_
    split
    · trivial
    · split
      · trivial
      · rename_i ha
        exact Rr.pin_pre (alPass_pin (if_some ha).2).x callR_pin
  | .dget a i, X, ρ => by
    rw [evE]
    refine Rr.pin_bind (evE_pin F a ρ) fun x ρ1 _ => ?_
    split
    · refine Rr.pin_bind (evE_pin F i ρ1) fun y ρ2 _ => ?_
      split
      · split
        · split <;> first | exact PinX.refl | trivial
        · trivial
      · trivial
    · trivial
  | .fld a f, X, ρ => by
    rw [evE]
    refine Rr.pin_bind (evE_pin F a ρ) fun x ρ1 _ => ?_
    split
    · split
      · split
        · cases x with
          | fz d => exact PinX.refl
          | ow d => dsimp only; split <;> first | exact PinX.refl | trivial
          | pt j p => dsimp only; split <;> exact PinX.refl
        · trivial
      · trivial
    · trivial
  | .mk c g es, X, ρ => by
    rw [evE]
    refine Rr.pin_bind (evEs_pin F es ρ) fun _ ρ1 _ => ?_
    split
    · rename_i ms _
      split
      · trivial
      · rename_i os' ρ2 ha
        refine Rr.pin_pre (alPass_pin (if_some ha).2).x ?_
        have cp : (callR (ρ2 ++ [.ow (.obj true c [])]) (.mu :: ms) (.pt ρ2.length [] :: os') (F.run g)).pin X (ρ2 ++ [.ow (.obj true c [])]) := callR_pin
        have cut : ∀ {ρ3 : Env}, PinX X (ρ2 ++ [.ow (.obj true c [])]) ρ3 → PinX X ρ2 (ρ3.take ρ2.length) := fun {ρ3} h => by
          have hl := h.1
          simp at hl
          refine ⟨by rw [List.length_take]; omega, fun j hj => ?_⟩
          by_cases z : j < ρ2.length
          · have := h.2 j hj
            rw [slot_app (by omega)] at this
            rw [slot_take z]
            exact this
          · rw [slot_out (ρ := ρ2) (by omega), slot_out (ρ := ρ3.take ρ2.length) (by rw [List.length_take]; omega)]
            exact ⟨fun _ => .rfl, fun d z => by cases z⟩
        cases hr : callR (ρ2 ++ [.ow (.obj true c [])]) (.mu :: ms) (.pt ρ2.length [] :: os') (F.run g) with
        | stuck => trivial
        | exc x ρ3 => rw [hr] at cp; exact cut cp
        | ok o ρ3 =>
          rw [hr] at cp
          show (Rr.cutX (match o, ρ3[ρ2.length]? with
            | .fz .non, some (.ow e) => Rr.ok (opd e) (ρ3.take ρ2.length)
            | _, _ => .stuck) ρ2.length).pin X ρ2
          split
          · exact cut cp
          · trivial
    · trivial
  | .mcall m gs a es, X, ρ => by
    rw [evE]
    refine Rr.pin_bind (evE_pin F a ρ) fun x ρ1 _ => ?_
    split
    · split
      · split
        · trivial
        · refine Rr.pin_bind (evEs_pin F es ρ1) fun _ ρ2 _ => ?_
          split
          · trivial
          · rename_i ha
            exact Rr.pin_pre (alPass_pin (if_some ha).2).x callR_pin
      · trivial
    · trivial
  | .bi f es, X, ρ => by
    rw [evE]
    refine Rr.pin_bind (evEs_pin F es ρ) fun _ ρ1 _ => ?_
    split
    · split
      · split
        · split <;> first | exact PinX.refl | trivial
        · trivial
      · trivial
    · trivial
  | .isi a t, X, ρ => by
    rw [evE]
    refine Rr.pin_bind (evE_pin F a ρ) fun _ ρ1 _ => ?_
    split
    · exact ofOpt_pin
    · trivial
  | .mth m o es, X, ρ => by
    rw [evE]
    refine Rr.pin_bind (evE_pin F o ρ) fun x ρ1 _ => ?_
    split
    · refine Rr.pin_bind (evEs_pin F es ρ1) fun _ ρ2 _ => ?_
      split
      · split
        · cases x with
          | fz d => trivial
          | ow d => trivial
          | pt i p =>
            dsimp only
            split
            · rename_i ha
              split
              · split
                · split
                  · rename_i hs
                    exact ((aliases_pin ha).trans (Pin.setP hs)).x
                  · trivial
                · trivial
              · trivial
            · trivial
        · split
          · split
            · split <;> first | exact PinX.refl | trivial
            · trivial
          · trivial
      · trivial
    · trivial
  | .lc own t it c e, X, ρ => by
    rw [evE]
    refine Rr.pin_bind (evI_pin F it ρ) fun x ρ1 _ => ?_
    obtain ⟨xs, bz, k⟩ := x
    dsimp only
    have hL := lcL_pin (X := fun j => j ∈ own ∨ (k = some j ∧ ((∃ d, slot ρ1 j = .ow d) ∨ ∃ d, slot ρ1 j = .mw d))) (own := own) (f := lcT t bz (fun ρ => evC F c ρ) fun ρ => evE F e ρ) (fun v hv => .inl hv) (fun x ρ => by
        unfold lcT
        split
        · trivial
        · rename_i ρ' ha
          refine Rr.pin_pre (asgT_pin t ha).x (Rr.pin_bind (evC_pin F c ρ') fun b ρ2 _ => ?_)
          split
          · refine Rr.pin_bind (evE_pin F e ρ2) fun o ρ3 _ => ?_
            split
            · rename_i hal; exact (Pin.alias hal).x
            · trivial
          · exact PinX.refl) xs [] (lock ρ1 k)
    have hL' := Rr.pin_pre (PinX.lock (k := k) (ρ := ρ1) fun i h1 h2 => .inr ⟨h1, h2⟩) hL
    generalize hr : lcL (lcT t bz (fun ρ => evC F c ρ) fun ρ => evE F e ρ) own xs [] (lock ρ1 k) = r at hL'
    cases r with
    | stuck => trivial
    | exc x ρ2 => trivial
    | ok ys ρ2 =>
      dsimp only [Rr.bind, Rr.calm]
      split
      · rename_i hb; exact (back_pin hL' hb).x
      · trivial
  | .lc2 own t it c own1 t1 it1 c1 e, X, ρ => by
    rw [evE]
    split
    · rename_i ho1
      have ho1 : ∀ v ∈ own1, v ∈ own := fun v hv => by simpa using List.all_eq_true.mp ho1 v hv
      refine Rr.pin_bind (evI_pin F it ρ) fun x ρ1 _ => ?_
      obtain ⟨xs, bz, k⟩ := x
      dsimp only
      have hL := lc2L_pin (X := fun j => j ∈ own ∨ (k = some j ∧ ((∃ d, slot ρ1 j = .ow d) ∨ ∃ d, slot ρ1 j = .mw d))) (own := own) (f := lc2T t bz (fun ρ => evC F c ρ) (fun ρ => evI F it1 ρ) (fun bz1 => lcT t1 bz1 (fun ρ => evC F c1 ρ) fun ρ => evE F e ρ) own1) (fun v hv => .inl hv)
        (fun x acc ρ => lc2T_pin0 (fun v hv => .inl (ho1 v hv)) (fun ρ => evC_pin F c ρ) (fun ρ => evI_pin F it1 ρ) (fun b x ρ => lcT_pin0 (fun ρ => evC_pin F c1 ρ) fun ρ => evE_pin F e ρ)) xs [] (lock ρ1 k)
      have hL' := Rr.pin_pre (PinX.lock (k := k) (ρ := ρ1) fun i h1 h2 => .inr ⟨h1, h2⟩) hL
      generalize hr : lc2L (lc2T t bz (fun ρ => evC F c ρ) (fun ρ => evI F it1 ρ) (fun bz1 => lcT t1 bz1 (fun ρ => evC F c1 ρ) fun ρ => evE F e ρ) own1) own xs [] (lock ρ1 k) = r at hL'
      cases r with
      | stuck => trivial
      | exc x ρ2 => trivial
      | ok ys ρ2 =>
        dsimp only [Rr.bind, Rr.calm]
        split
        · rename_i hb; exact (back_pin hL' hb).x
        · trivial
    · trivial
  | .dc own t it c ek ev, X, ρ => by
    rw [evE]
    refine Rr.pin_bind (evI_pin F it ρ) fun x ρ1 _ => ?_
    obtain ⟨xs, bz, k⟩ := x
    dsimp only
    have hL := dcL_pin (X := fun j => j ∈ own ∨ (k = some j ∧ ((∃ d, slot ρ1 j = .ow d) ∨ ∃ d, slot ρ1 j = .mw d))) (own := own) (f := dcT t bz (fun ρ => evC F c ρ) (fun ρ => evE F ek ρ) fun ρ => evE F ev ρ) (fun v hv => .inl hv)
      (fun x ρ => dcT_pin0 (fun ρ => evC_pin F c ρ) (fun ρ => evE_pin F ek ρ) fun ρ => evE_pin F ev ρ) xs [] (lock ρ1 k)
    have hL' := Rr.pin_pre (PinX.lock (k := k) (ρ := ρ1) fun i h1 h2 => .inr ⟨h1, h2⟩) hL
    generalize hr : dcL (dcT t bz (fun ρ => evC F c ρ) (fun ρ => evE F ek ρ) fun ρ => evE F ev ρ) own xs [] (lock ρ1 k) = r at hL'
    cases r with
    | stuck => trivial
    | exc x ρ2 => trivial
    | ok ys ρ2 =>
      dsimp only [Rr.bind, Rr.calm]
      split
      · rename_i hb; exact (back_pin hL' hb).x
      · trivial
theorem evEs_pin (F : Fn) : ∀ (es : List Ex) {X : Nat → Prop} (ρ : Env), (evEs F es ρ).pin X ρ
  | [], X, ρ => by rw [evEs]; exact PinX.refl
  | e :: es, X, ρ => by
    rw [evEs]
    exact Rr.pin_bind (evE_pin F e ρ) fun _ ρ1 _ => Rr.pin_bind (evEs_pin F es ρ1) fun _ ρ2 _ => PinX.refl
theorem evC_pin (F : Fn) : ∀ (c : Option Ex) {X : Nat → Prop} (ρ : Env), (evC F c ρ).pin X ρ
  | none, X, ρ => by rw [evC]; exact PinX.refl
  | some e, X, ρ => by rw [evC]; exact tst_pin (evE_pin F e ρ)
theorem evO_pin (F : Fn) : ∀ (c : Option Ex) {X : Nat → Prop} (ρ : Env), (evO F c ρ).pin X ρ
  | none, X, ρ => by rw [evO]; exact PinX.refl
  | some e, X, ρ => by
    rw [evO]
    refine Rr.pin_bind (evE_pin F e ρ) fun _ ρ1 _ => ?_
    split <;> first | exact PinX.refl | trivial
theorem evI_pin (F : Fn) : ∀ (it : It) {X : Nat → Prop} (ρ : Env), (evI F it ρ).pin X ρ
  | .seq e, X, ρ => by
    rw [evI]
    refine Rr.pin_bind (evE_pin F e ρ) fun _ ρ1 _ => ?_
    split
    · split
      · split <;> first | exact PinX.refl | trivial
      · trivial
    · trivial
  | .rng a, X, ρ => by
    rw [evI]
    refine Rr.pin_bind (evE_pin F a ρ) fun _ ρ1 _ => ?_
    split
    · split <;> first | exact PinX.refl | trivial
    · trivial
  | .rng2 a b, X, ρ => by
    rw [evI]
    refine Rr.pin_bind (evE_pin F a ρ) fun _ ρ1 _ => Rr.pin_bind (evE_pin F b ρ1) fun _ ρ2 _ => ?_
    split
    · split <;> first | exact PinX.refl | trivial
    · trivial
  | .enm e, X, ρ => by
    rw [evI]
    refine Rr.pin_bind (evE_pin F e ρ) fun _ ρ1 _ => ?_
    split
    · split <;> first | exact PinX.refl | trivial
    · trivial
end
end
end Rw

set_option Elab.async false
set_option linter.all false
set_option maxRecDepth 100000
/-! RwK: what is walked; locking; list comprehensions. -/
namespace Rw
open PySem PySem.Spec PyProof.Rows L2
section
variable {K : KW} {mg : Str → Option Value} {A₀ A A' A₁ : Addr → Prop} {σ σ' : L2.St} {H H' H₁ : Hp} {ρ ρ' ρ₁ : Env} {fp fp' fp₁ : Nat → List Addr} {W : WX} {F : Fn} {e : Ex} {Q : VK} {p : Bool}
/-- J walks the data xs, as long as what P says stands -/
def ItOk (K : KW) (H : Hp) (B P : Addr → Prop) (J : L2.It) (xs : List D) : Prop :=
  ∀ (H1 : Hp) (B1 : Addr → Prop), (∀ a o, H a = some o → P a → H1 a = some o) → (∀ a o, H a = some o → ¬ B a → H1 a = some o) → (∀ a, B1 a → B a ∨ H a = none) → (∀ a, B1 a → H1 a ≠ none) →
    (∀ i, i < xs.length → J.go i H1) ∧ J.stop xs.length H1 ∧ ∀ i v H2 (hi : i < xs.length), J.yld i H1 v H2 → Keep H1 H2 ∧ Rp K H2 B1 v xs[i] []
theorem ItOk.of {B P : Addr → Prop} {J : L2.It} {vs : List V} {xs : List D} (l : RpL K H B vs xs []) (h : ∀ H1, (∀ a o, H a = some o → P a → H1 a = some o) →
    (∀ i, i < xs.length → J.go i H1) ∧ J.stop xs.length H1 ∧ ∀ i v H2, i < xs.length → J.yld i H1 v H2 → H2 = H1 ∧ vs[i]? = some v) : ItOk K H B P J xs := fun H1 B1 kp kb hb _ => by
  obtain ⟨k1, k2, k3⟩ := h H1 kp
  refine ⟨k1, k2, fun i v H2 hi y => ?_⟩
  obtain ⟨rfl, hv⟩ := k3 i v H2 hi y
  have l' : RpL K H2 B1 vs xs [] := l.mono (fun a o e n => kb a o e (n.elim id fun z => nomatch z)) hb
  obtain ⟨w, hw, r⟩ := l'.get0 (List.getElem?_eq_getElem hi)
  rw [hv] at hw
  cases hw
  exact ⟨fun _ _ e => e, r⟩
theorem enumF_len : ∀ (n : Nat) (xs : List D), (enumF n xs).length = xs.length
  | _, [] => rfl
  | n, x :: t => by rw [enumF, List.length_cons, List.length_cons, enumF_len]
theorem enumF_get : ∀ (n : Nat) (xs : List D) (i : Nat) (h : i < (enumF n xs).length) (h' : i < xs.length), (enumF n xs)[i] = .tup [.int ((n + i : Nat) : Int), xs[i]]
  | _, [], i, _, h => nomatch h
  | n, x :: t, 0, _, _ => rfl
  | n, x :: t, i + 1, h, h' => by
    have h1 : i < t.length := Nat.lt_of_succ_lt_succ h'
    have := enumF_get (n + 1) t i (by rw [enumF_len]; exact h1) h1
    show (enumF (n + 1) t)[i]'(by rw [enumF_len]; exact h1) = _
    rw [this, Nat.add_right_comm]
    rfl
/-- no other name's thing -/
def Prot (fp : Nat → List Addr) (k : Option Nat) (a : Addr) : Prop := ∀ j, a ∈ fp j → k = some j
def tI (K : KW) (mg : Str → Option Value) (W : WX) (F : Fn) (it : It) : TI := fun σ H R => ∃ A₀ A ρ fp, SI K A₀ A σ H ρ fp ∧
  (evI F it ρ).all (fun x ρ' => ∀ J H' A' fp', EOk K A₀ A fp σ H (pureI it) ρ' H' A' fp' → ItOk K H' (Bs A' fp') (fun a => Prot fp' x.2.2 a ∧ (A a → A₀ a)) J x.1 → R J H') (XPost K mg A₀ A fp σ H W)
theorem ItOk.list {B P : Addr → Prop} {a : Addr} {vs : List V} {xs : List D} (l : RpL K H B vs xs []) (h : ∀ H1, (∀ a o, H a = some o → P a → H1 a = some o) → SqL K H1 a vs) : ItOk K H B P (Itl K a) xs :=
  .of l (fun H1 k => ⟨fun i hi => by
    have hl : i < vs.length := by rw [l.len]; exact hi
    exact ⟨vs, vs[i], h H1 k, List.getElem?_eq_getElem hl⟩, ⟨vs, h H1 k, by rw [l.len]; exact Nat.le_refl _⟩, fun i v H2 _ y => ⟨y.1, y.2 vs (h H1 k)⟩⟩)
theorem ItOk.tup {B P : Addr → Prop} {a : Addr} {vs : List V} {xs : List D} (l : RpL K H B vs xs []) (h : ∀ H1, (∀ a o, H a = some o → P a → H1 a = some o) → SqT K H1 a vs) : ItOk K H B P (Itt K a) xs :=
  .of l (fun H1 k => ⟨fun i hi => by
    have hl : i < vs.length := by rw [l.len]; exact hi
    exact ⟨vs, vs[i], h H1 k, List.getElem?_eq_getElem hl⟩, ⟨vs, h H1 k, by rw [l.len]; exact Nat.le_refl _⟩, fun i v H2 _ y => ⟨y.1, y.2 vs (h H1 k)⟩⟩)
theorem RpL.strs1 {B : Addr → Prop} : ∀ x : Sg, RpL K H B (x.map fun c => V.str ⟨#[c]⟩) (x.map fun c => D.str [c]) []
  | [] => .nil
  | c :: x => RpL.cons (f := []) (fs := []) (.str [c]) (RpL.strs1 x)
theorem ItOk.str {B P : Addr → Prop} {x : Sg} : ItOk K H B P (Its ⟨x.toArray⟩) (x.map fun c => D.str [c]) := by
  refine .of (RpL.strs1 x) fun H1 _ => ⟨fun i hi => ?_, ?_, fun i v H2 _ y => ⟨y.1, ?_⟩⟩
  · show i < x.toArray.size
    simpa using hi
  · show x.toArray.size ≤ _
    simp
  · obtain ⟨_, c, hc, rfl⟩ := y
    have : x[i]? = some c := by simpa using hc
    simp [this]
theorem RpL.rng {B : Addr → Prop} (lo : Int) : ∀ l : List Nat, RpL K H B (l.map fun (k : Nat) => V.int (lo + (k : Int))) (l.map fun (k : Nat) => D.int (lo + (k : Int))) []
  | [] => .nil
  | c :: x => RpL.cons (f := []) (fs := []) (.int _) (RpL.rng lo x)
theorem ItOk.rng {B P : Addr → Prop} {lo hi : Int} : ItOk K H B P (Itr lo (hi - lo).toNat) (rangeD lo hi) := by
  refine .of (RpL.rng lo _) fun H1 _ => ⟨fun i h => ?_, ?_, fun i v H2 h y => ⟨y.1, ?_⟩⟩
  · show i < _
    simpa [rangeD] using h
  · show _ ≤ _
    simp [rangeD]
  · obtain ⟨_, rfl⟩ := y
    have : i < (hi - lo).toNat := by simpa [rangeD] using h
    rw [List.getElem?_map, List.getElem?_range this]
    rfl
theorem ItOk.enum {B P : Addr → Prop} {a : Addr} {vs : List V} {xs : List D} (l : RpL K H B vs xs []) (h : ∀ H1, (∀ a o, H a = some o → P a → H1 a = some o) → SqL K H1 a vs) : ItOk K H B P (Ite K a) (enumF 0 xs) := fun H1 B1 kp kb hb hn => by
  have sq := h H1 kp
  have el := enumF_len 0 xs
  refine ⟨fun i hi => ?_, ⟨vs, sq, by rw [l.len, el]; exact Nat.le_refl _⟩, fun i v H2 hi y => ?_⟩
  · have hl : i < vs.length := by rw [l.len, ← el]; exact hi
    exact ⟨vs, vs[i], sq, List.getElem?_eq_getElem hl⟩
  · obtain ⟨T, x, rfl, hT, rfl, hx⟩ := y
    have hi' : i < xs.length := by rw [← el]; exact hi
    have l' : RpL K H1 B1 vs xs [] := l.mono (fun a o e n => kb a o e (n.elim id fun z => nomatch z)) hb
    obtain ⟨w, hw, r⟩ := l'.get0 (List.getElem?_eq_getElem hi')
    rw [hx vs sq] at hw
    cases hw
    have kk : Keep H1 (upd H1 T (.tup [.int ((i : Nat) : Int), x])) := upd_keep hT
    refine ⟨kk, ?_⟩
    rw [enumF_get 0 xs i hi hi', Nat.zero_add]
    refine .tup (.inl ⟨.inl upd_same, fun b => hn T b hT⟩) (RpL.cons (f := []) (fs := []) (.int _) (RpL.one (r.mono (fun a o e _ => kk a o e) fun a b => .inl b)))
def iSeq (K : KW) (te : TE) : TI := fun σ H R => iList K te σ H R ∨ iTup K te σ H R ∨ iStr te σ H R
/-- an owned list's place -/
theorem list_prot {o : Opd} {v : V} {o' : Bool} {ds : List D} (g : EOk K A₀ A fp σ H p ρ₁ H₁ A₁ fp₁) (ok : OpdOk K H₁ A A₁ (Bs A₁ fp₁) σ v o) (c1 : con ρ₁ o = some (.lst o' ds)) (hs : shr o (.lst o' ds) = true) :
    ∃ a vs, v = .ref a ∧ H₁ a = some (.lst vs) ∧ RpL K H₁ (Bs A₁ fp₁) vs ds [] ∧ Prot fp₁ (isPt o) a ∧ (A a → A₀ a) := by
  have fin : ∀ {q : List Addr}, Rp K H₁ (Bs A₁ fp₁) v (.lst o' ds) q → (q = [] ∨ isFrL ds = true) → (∀ a ∈ q, Prot fp₁ (isPt o) a ∧ (A a → A₀ a)) → ∃ a vs, v = .ref a ∧ H₁ a = some (.lst vs) ∧ RpL K H₁ (Bs A₁ fp₁) vs ds [] ∧ Prot fp₁ (isPt o) a ∧ (A a → A₀ a) := by
    intro q r hq hp
    cases r with
    | lf t l => exact ⟨_, _, rfl, t.1, l, fun j z => (t.2 (.inr ⟨j, z⟩)).elim, fun z => (t.2 (.inl (g.tr.a _ z))).elim⟩
    | lo t l =>
      rcases hq with z | z
      · cases z
      · have e0 := l.fr z
        subst e0
        exact ⟨_, _, rfl, t, l, hp _ List.mem_cons_self⟩
  unfold shr at hs
  rw [Bool.or_eq_true] at hs
  cases o with
  | fz d0 =>
    cases c1
    obtain ⟨q, r, _⟩ := ok
    exact fin r.2 (.inl rfl) fun _ z => nomatch z
  | ow d0 =>
    cases c1
    obtain ⟨q, r, _, hq⟩ := ok
    exact fin r (.inr (hs.resolve_left (by simp [Opd.isFz]))) fun a z => ⟨fun j y => (g.si.na j a y (hq a z).1).elim, fun y => ((hq a z).2 y).elim⟩
  | pt i pl =>
    obtain ⟨_, ⟨_, w, hw, va⟩, _⟩ := ok
    obtain ⟨q, r, hq⟩ := g.si.con2 (show getP ρ₁ i pl = some _ from c1) hw va
    refine fin r (.inr (hs.resolve_left (by simp [Opd.isFz]))) fun a z => ⟨fun j y => ?_, fun hA => ?_⟩
    · rcases hq a z with x | x
      · rw [g.si.dj j i a y x] <;> rfl
      · exact (g.si.na j a y (g.si.sub a x)).elim
    · rcases hq a z with x | x
      · exact (g.si.na i a x (g.tr.a a hA)).elim
      · exact x
theorem rd_seq {e : Ex} : ∀ σ H R, tI K mg W F (.seq e) σ H R → iSeq K (tE K mg W F e) σ H R := fun σ H R ⟨A₀, A, ρ, fp, S, h⟩ => by
  rw [evI] at h
  cases he : evE F e ρ with
  | stuck => rw [he] at h; exact h.elim
  | exc x ρ₁ =>
    rw [he] at h
    exact .inl ⟨A₀, A, ρ, fp, S, by rw [he]; exact h⟩
  | ok o ρ₁ =>
    rw [he] at h
    dsimp only [Rr.bind] at h
    split at h
    · rename_i d c1
      split at h
      · rename_i xs hx
        obtain ⟨hs, h⟩ := Rr.if_all h
        have go : ∀ {P : V → Hp → Prop}, (∀ v H₁ A₁ fp₁, EOk K A₀ A fp σ H (pureE e) ρ₁ H₁ A₁ fp₁ → OpdOk K H₁ A A₁ (Bs A₁ fp₁) σ v o → P v H₁) → tE K mg W F e σ H P := fun k => ⟨A₀, A, ρ, fp, S, by rw [he]; exact k⟩
        have prot : ∀ {v : V} {H₁ A₁ fp₁} {o' : Bool} {ds : List D}, EOk K A₀ A fp σ H (pureE e) ρ₁ H₁ A₁ fp₁ → OpdOk K H₁ A A₁ (Bs A₁ fp₁) σ v o → d = .lst o' ds → ∃ a vs, v = .ref a ∧ H₁ a = some (.lst vs) ∧ RpL K H₁ (Bs A₁ fp₁) vs ds [] ∧ Prot fp₁ (isPt o) a ∧ (A a → A₀ a) := fun g ok hd => list_prot g ok (by rw [← hd]; exact c1) (by rw [← hd]; exact hs)
        unfold items at hx
        split at hx
        · cases hx
          refine .inl (go fun v H₁ A₁ fp₁ g ok => ?_)
          obtain ⟨a, vs, rfl, t, l, hp, hp2⟩ := prot g ok rfl
          exact ⟨a, rfl, ⟨vs, .of t⟩, h _ H₁ A₁ fp₁ ⟨g.si, g.tr, fun z => g.kp (by simpa [pureI] using z)⟩ (.list l fun H1 k => .of (k _ _ t ⟨hp, hp2⟩))⟩
        · cases hx
          rename_i ds
          refine .inr (.inl (go fun v H₁ A₁ fp₁ g ok => ?_))
          obtain ⟨q, r, sh⟩ := sh_of g.si ok c1 hs
          have r0 := r.shT sh
          cases r0 with
          | tup t l =>
            refine ⟨_, rfl, ⟨_, t.sq⟩, h _ H₁ A₁ fp₁ ⟨g.si, g.tr, fun z => g.kp (by simpa [pureI] using z)⟩ (.tup l fun H1 k => ?_)⟩
            rcases t with ⟨t, nb⟩ | t
            · exact .inl (Rd_kept t fun o e => k _ _ e ⟨fun j z => (nb (.inr ⟨j, z⟩)).elim, fun z => (nb (.inl (g.tr.a _ z))).elim⟩)
            · exact .inr t
        · cases hx
          refine .inr (.inr (go fun v H₁ A₁ fp₁ g ok => ?_))
          obtain ⟨q, r, _⟩ := con_ok g.si ok c1
          exact ⟨_, r.strI, h _ H₁ A₁ fp₁ ⟨g.si, g.tr, fun z => g.kp (by simpa [pureI] using z)⟩ .str⟩
        · cases hx
      · exact h.elim
    · exact h.elim
theorem rOk_ok {i : Int} (h : rOk i = true) : -(2 ^ 62) ≤ i ∧ i < 2 ^ 62 := of_decide_eq_true h
theorem rd_rng {a : Ex} : ∀ σ H R, tI K mg W F (.rng a) σ H R → iRng1 (tCons (tE K mg W F a) tNil) σ H R := fun σ H R ⟨A₀, A, ρ, fp, S, h⟩ => by
  rw [evI] at h
  refine tE.first S h fun o ρ₁ h x H₁ A₁ fp₁ g₁ ok₁ => ?_
  split at h
  · rename_i n
    obtain ⟨hn, h⟩ := Rr.if_all h
    obtain ⟨q, r, _⟩ := ok₁
    have e := r.2.intI
    subst e
    have := ItOk.rng (K := K) (H := H₁) (B := Bs A₁ fp₁) (P := fun a => Prot fp₁ none a ∧ (A a → A₀ a)) (lo := 0) (hi := n)
    refine ⟨n, rfl, (rOk_ok hn).1, (rOk_ok hn).2, h _ H₁ A₁ fp₁ ⟨g₁.si, g₁.tr, fun z => g₁.kp (by simpa [pureI] using z)⟩ ?_⟩
    rw [Int.sub_zero] at this
    exact this
  · exact h.elim
theorem rd_rng2 {a b : Ex} : ∀ σ H R, tI K mg W F (.rng2 a b) σ H R → iRng2 (tCons (tE K mg W F a) (tCons (tE K mg W F b) tNil)) σ H R := fun σ H R ⟨A₀, A, ρ, fp, S, h⟩ => by
  rw [evI] at h
  refine tE.first S h fun o ρ₁ h x H₁ A₁ fp₁ g₁ ok₁ => ?_
  refine tE.first g₁.si (Xmatch h S g₁.si g₁.tr) fun u ρ₂ h y H₂ A₂ fp₂ g₂ ok₂ => ?_
  split at h
  · rename_i m n _
    obtain ⟨hn, h⟩ := Rr.if_all h
    rw [Bool.and_eq_true] at hn
    obtain ⟨q, r, _⟩ := ok₁
    obtain ⟨q2, r2, _⟩ := ok₂
    exact ⟨m, n, by rw [r.2.intI, r2.2.intI], ⟨(rOk_ok hn.1).1, (rOk_ok hn.1).2, (rOk_ok hn.2).1, (rOk_ok hn.2).2⟩, h _ H₂ A₂ fp₂ (g₁.trans S g₂ fun z => by simpa [pureI] using z) .rng⟩
  · exact h.elim
theorem rd_enm {e : Ex} : ∀ σ H R, tI K mg W F (.enm e) σ H R → iEnum K (tCons (tE K mg W F e) tNil) σ H R := fun σ H R ⟨A₀, A, ρ, fp, S, h⟩ => by
  rw [evI] at h
  refine tE.first S h fun o ρ₁ h x H₁ A₁ fp₁ g₁ ok₁ => ?_
  split at h
  · rename_i b xs c1
    obtain ⟨hs, h⟩ := Rr.if_all h
    obtain ⟨a, vs, rfl, t, l, hp, hp2⟩ := list_prot g₁ ok₁ c1 hs
    exact ⟨a, vs, rfl, .of t, h _ H₁ A₁ fp₁ ⟨g₁.si, g₁.tr, fun z => g₁.kp (by simpa [pureI] using z)⟩ (.enum l fun H1 k => .of (k _ _ t ⟨hp, hp2⟩))⟩
  · exact h.elim
/-! ### locking -/
/-- what is locked: the thing of an owned name -/
def lockL (ρ : Env) (fp : Nat → List Addr) (k : Option Nat) : List Addr := match k with
  | some i => (match slot ρ i with
    | .ow _ | .mw _ => fp i
    | _ => [])
  | none => []
def lockF (ρ : Env) (fp : Nat → List Addr) (k : Option Nat) : Nat → List Addr := match k with
  | some i => (match slot ρ i with
    | .ow _ | .mw _ => fup fp i []
    | _ => fp)
  | none => fp
def plusL (A : Addr → Prop) (L : List Addr) : Addr → Prop := fun a => A a ∨ a ∈ L
theorem plusL_nil : plusL A [] = A := by funext a; simp [plusL]
theorem SlotOk.more {B : Addr → Prop} {x : Option V} {s : Slot} {f : List Addr} (h : SlotOk K H A₀ B x s f) (g : ∀ a, A₀ a → A' a) : SlotOk K H A' B x s f := by
  cases s with
  | bw d => obtain ⟨h1, v, q, h2, r, h3⟩ := h; exact ⟨h1, v, q, h2, r, fun a z => g a (h3 a z)⟩
  | un => exact h
  | fz d => exact h
  | ow d => exact h
  | mw d => exact h
theorem lock_core (S : SI K A₀ A σ H ρ fp) {i : Nat} {d : D} (hs : slot ρ i = .ow d ∨ slot ρ i = .mw d) : SI K (plusL A₀ (fp i)) (plusL A (fp i)) σ H (ρ.set i (.bw d)) (fup fp i []) ∧ ∀ a, Bs (plusL A (fp i)) (fup fp i []) a → Bs A fp a := by
  have hi : i < ρ.length := by rcases hs with h | h <;> exact lt_of_get (get_slot (by rw [h]; intro z; cases z))
  have sub : ∀ a, Bs (plusL A (fp i)) (fup fp i []) a → Bs A fp a := fun a b => by
    rcases b with (b | b) | ⟨j, b⟩
    · exact .inl b
    · exact .inr ⟨i, b⟩
    · by_cases e : j = i
      · rw [e, fup_same] at b; cases b
      · rw [fup_ne e] at b; exact .inr ⟨j, b⟩
  refine ⟨⟨by rw [List.length_set]; exact S.len, fun a h => h.imp (S.sub a) id, fun j => ?_, fun j k a h1 h2 => ?_, fun j a h1 h2 => ?_, fun a h => h.elim (S.tr a) fun z => (S.sl i).there a z, fun j => ?_⟩, sub⟩
  · unfold fup; split
    · exact .nil
    · exact S.nd j
  · unfold fup at h1 h2
    split at h1
    · cases h1
    · split at h2
      · cases h2
      · exact S.dj j k a h1 h2
  · unfold fup at h1
    split at h1
    · cases h1
    · rename_i ne
      rcases h2 with h2 | h2
      · exact S.na j a h1 h2
      · exact ne (S.dj j i a h1 h2)
  · by_cases e : j = i
    · subst e
      rw [slot_set_same hi, fup_same]
      have so := S.sl j
      have : ∃ v, look σ j = some v ∧ Rp K H (Bs A fp) v d (fp j) := by
        rcases hs with h | h <;> rw [h] at so <;> exact so
      obtain ⟨v, hv, r⟩ := this
      exact ⟨rfl, v, fp j, hv, r.mono (fun _ _ e _ => e) fun a b => .inl (sub a b), fun a z => .inr z⟩
    · rw [slot_set e, fup_ne e]
      exact ((S.sl j).mono (fun _ _ e _ => e) fun a b => .inl (sub a b)).more fun a h => .inl h
theorem SI.lock (S : SI K A₀ A σ H ρ fp) (k : Option Nat) : SI K (plusL A₀ (lockL ρ fp k)) (plusL A (lockL ρ fp k)) σ H (Rw.lock ρ k) (lockF ρ fp k) ∧ ∀ a, Bs (plusL A (lockL ρ fp k)) (lockF ρ fp k) a → Bs A fp a := by
  have none' : lockL ρ fp k = [] → lockF ρ fp k = fp → Rw.lock ρ k = ρ → SI K (plusL A₀ (lockL ρ fp k)) (plusL A (lockL ρ fp k)) σ H (Rw.lock ρ k) (lockF ρ fp k) ∧ ∀ a, Bs (plusL A (lockL ρ fp k)) (lockF ρ fp k) a → Bs A fp a := fun h1 h2 h3 => by
    rw [h1, h2, h3, plusL_nil, plusL_nil]
    exact ⟨S, fun _ b => b⟩
  cases k with
  | none => exact none' rfl rfl rfl
  | some i =>
    cases es : slot ρ i with
    | ow d =>
      have e := get_slot (ρ := ρ) (i := i) (by rw [es]; intro z; cases z)
      rw [es] at e
      have h1 : lockL ρ fp (some i) = fp i := by unfold lockL; simp only [es]
      have h2 : lockF ρ fp (some i) = fup fp i [] := by unfold lockF; simp only [es]
      have h3 : Rw.lock ρ (some i) = ρ.set i (.bw d) := by unfold Rw.lock; simp only [e]
      rw [h1, h2, h3]
      exact lock_core S (.inl es)
    | mw d =>
      have e := get_slot (ρ := ρ) (i := i) (by rw [es]; intro z; cases z)
      rw [es] at e
      have h1 : lockL ρ fp (some i) = fp i := by unfold lockL; simp only [es]
      have h2 : lockF ρ fp (some i) = fup fp i [] := by unfold lockF; simp only [es]
      have h3 : Rw.lock ρ (some i) = ρ.set i (.bw d) := by unfold Rw.lock; simp only [e]
      rw [h1, h2, h3]
      exact lock_core S (.inr es)
    | un => exact none' (by unfold lockL; simp only [es]) (by unfold lockF; simp only [es]) (by
        unfold Rw.lock
        dsimp only
        split
        · rename_i d hd; rw [slot_get hd] at es; cases es
        · rename_i d hd; rw [slot_get hd] at es; cases es
        · rfl)
    | fz d => exact none' (by unfold lockL; simp only [es]) (by unfold lockF; simp only [es]) (by
        unfold Rw.lock
        dsimp only
        split
        · rename_i d hd; rw [slot_get hd] at es; cases es
        · rename_i d hd; rw [slot_get hd] at es; cases es
        · rfl)
    | bw d => exact none' (by unfold lockL; simp only [es]) (by unfold lockF; simp only [es]) (by
        unfold Rw.lock
        dsimp only
        split
        · rename_i d hd; rw [slot_get hd] at es; cases es
        · rename_i d hd; rw [slot_get hd] at es; cases es
        · rfl)
/-- the walk is over: the thing is its name's again -/
theorem SI.unlock (S : SI K A₀ A σ H ρ fp) {k : Option Nat} {ρ₂ ρ₃ : Env} (S' : SI K (plusL A₀ (lockL ρ fp k)) (plusL A' (lockL ρ fp k)) σ' H' ρ₂ fp') (t : Tr (plusL A (lockL ρ fp k)) (lockF ρ fp k) H (plusL A' (lockL ρ fp k)) fp' H') (hAA : ∀ a, A a → A' a) (hnL : ∀ a ∈ lockL ρ fp k, ¬ A' a)
    (hp : ∀ j, (slot (Rw.lock ρ k) j).pin = true → look σ' j = look σ j) (hb : ∀ j d, slot (Rw.lock ρ k) j = .bw d ↔ slot ρ₂ j = .bw d) (hu : Rw.unlock ρ k ρ₂ = some ρ₃) : ∃ fp₃, SI K A₀ A' σ' H' ρ₃ fp₃ ∧ Tr A fp H A' fp₃ H' ∧ ∀ a, Bs A' fp₃ a → Bs (plusL A' (lockL ρ fp k)) fp' a := by
  obtain ⟨u1, u2, u3⟩ := unlock_slot hu
  have none' : lockL ρ fp k = [] → lockF ρ fp k = fp → ρ₃ = ρ₂ → ∃ fp₃, SI K A₀ A' σ' H' ρ₃ fp₃ ∧ Tr A fp H A' fp₃ H' ∧ ∀ a, Bs A' fp₃ a → Bs (plusL A' (lockL ρ fp k)) fp' a := fun h1 h2 h3 => by
    rw [h1, plusL_nil, plusL_nil] at S'
    rw [h1, h2, plusL_nil, plusL_nil] at t
    rw [h3]
    exact ⟨fp', S', t, fun a b => by rw [h1, plusL_nil]; exact b⟩
  have main : ∀ {i : Nat} {d : D} {s : Slot}, k = some i → slot ρ i = s → (s = .ow d ∨ s = .mw d) → lockL ρ fp k = fp i → lockF ρ fp k = fup fp i [] → Rw.lock ρ k = ρ.set i (.bw d) → ρ₃ = ρ₂.set i s → ∃ fp₃, SI K A₀ A' σ' H' ρ₃ fp₃ ∧ Tr A fp H A' fp₃ H' ∧ ∀ a, Bs A' fp₃ a → Bs (plusL A' (lockL ρ fp k)) fp' a := by
    intro i d s hk hsl hs h1 h2 h3 h4
    have hi : i < ρ.length := by rcases hs with h | h <;> exact lt_of_get (get_slot (by rw [hsl, h]; intro z; cases z))
    have h1' := h1
    rw [h1] at S' t ⊢
    rw [h2] at t
    have nA : ∀ a ∈ fp i, ¬ A' a := fun a z => hnL a (by rw [h1]; exact z)
    have nF : ∀ j a, a ∈ fp' j → a ∉ fp i := fun j a h z => S'.na j a h (.inr z)
    have tb' : ∀ a, Bs A' (fup fp' i (fp i)) a → Bs (plusL A' (fp i)) fp' a := fun a b => by
      rcases b with b | ⟨j, b⟩
      · exact .inl (.inl b)
      · by_cases e : j = i
        · rw [e, fup_same] at b; exact .inl (.inr b)
        · rw [fup_ne e] at b; exact .inr ⟨j, b⟩
    have tb : ∀ a, Bs A' (fup fp' i (fp i)) a → Bs A fp a ∨ H a = none := fun a b => by
      rcases t.b a (tb' a b) with ((z | z) | ⟨j, z⟩) | z
      · exact .inl (.inl z)
      · exact .inl (.inr ⟨i, z⟩)
      · by_cases e : j = i
        · rw [e, fup_same] at z; cases z
        · rw [fup_ne e] at z; exact .inl (.inr ⟨j, z⟩)
      · exact .inr z
    have tk : ∀ a o, H a = some o → (∀ j, a ∉ fp j ∨ j = i) → H' a = some o := fun a o e n => t.k a o e fun j z => by
      by_cases ej : j = i
      · rw [ej, fup_same] at z; cases z
      · rw [fup_ne ej] at z; exact (n j).elim (fun x => x z) ej
    have hi2 : i < ρ₂.length := by
      rw [← S'.len]
      by_cases hl : i < σ'.length
      · exact hl
      · exfalso
        have e1 := (hb i d).mp (by rw [h3, slot_set_same hi])
        rw [slot_out (by rw [← S'.len]; omega)] at e1
        cases e1
    refine ⟨fup fp' i (fp i), ⟨by rw [h4, List.length_set]; exact S'.len, fun a h => hAA a (S.sub a h), fun j => ?_, fun j l a x y => ?_, fun j a x y => ?_, fun a h => S'.tr a (.inl h), fun j => ?_⟩, ⟨hAA, fun a o e n => tk a o e fun j => .inl (n j), tb⟩, tb'⟩
    · unfold fup; split
      · exact S.nd i
      · exact S'.nd j
    · unfold fup at x y
      split at x
      · split at y
        · rename_i e1 e2; rw [e1, e2]
        · exact (nF l a y x).elim
      · split at y
        · exact (nF j a x y).elim
        · exact S'.dj j l a x y
    · unfold fup at x
      split at x
      · exact nA a x y
      · exact S'.na j a x (.inl y)
    · by_cases e : j = i
      · subst e
        rw [h4, slot_set_same hi2, fup_same]
        have so := S.sl j
        rw [hsl] at so
        have : ∃ v, look σ j = some v ∧ Rp K H (Bs A fp) v d (fp j) := by rcases hs with h | h <;> rw [h] at so <;> exact so
        obtain ⟨v, hv, r⟩ := this
        have r' : Rp K H' (Bs A' (fup fp' j (fp j))) v d (fp j) := r.mono (fun a o e n => tk a o e fun l => by
          by_cases hl : l = j
          · exact .inr hl
          · refine .inl fun z => ?_
            rcases n with n | n
            · exact n (.inr ⟨l, z⟩)
            · exact hl (S.dj l j a z n)) tb
        have hv' : look σ' j = some v := by rw [hp j (by rw [h3, slot_set_same hi] <;> rfl), hv]
        rcases hs with h | h <;> rw [h] <;> exact ⟨v, hv', r'⟩
      · rw [h4, slot_set e, fup_ne e]
        have so := S'.sl j
        have mono : ∀ {B : Addr → Prop}, B = Bs A' (fup fp' i (fp i)) → ∀ a, B a → Bs (plusL A' (fp i)) fp' a := fun hB a b => by
          rw [hB] at b
          rcases b with b | ⟨l, b⟩
          · exact .inl (.inl b)
          · by_cases el : l = i
            · rw [el, fup_same] at b; exact .inl (.inr b)
            · rw [fup_ne el] at b; exact .inr ⟨l, b⟩
        cases es : slot ρ₂ j with
        | bw d' =>
          have e0 := (hb j d').mpr es
          have e1 := e0
          rw [h3, slot_set e] at e1
          have so0 := S.sl j
          rw [e1] at so0
          obtain ⟨_, v, q, hv, r, hq⟩ := so0
          rw [es] at so
          refine ⟨so.1, v, q, by rw [hp j (by rw [e0] <;> rfl)]; exact hv, r.mono (fun a o e n => tk a o e fun l => .inl fun z => ?_) tb, hq⟩
          rcases n with n | n
          · exact n (.inr ⟨l, z⟩)
          · exact S.na l a z (S.sub a (hq a n))
        | un => rw [es] at so; exact so
        | fz d' =>
          rw [es] at so
          obtain ⟨x, v, y, r⟩ := so
          exact ⟨x, v, y, r.mono (fun _ _ e _ => e) fun a b => .inl (mono rfl a b)⟩
        | ow d' =>
          rw [es] at so
          obtain ⟨v, y, r⟩ := so
          exact ⟨v, y, r.mono (fun _ _ e _ => e) fun a b => .inl (mono rfl a b)⟩
        | mw d' =>
          rw [es] at so
          obtain ⟨v, y, r⟩ := so
          exact ⟨v, y, r.mono (fun _ _ e _ => e) fun a b => .inl (mono rfl a b)⟩
  cases k with
  | none => exact none' rfl rfl (by cases hu; rfl)
  | some i =>
    obtain ⟨v1, v2, v3⟩ := u3 i rfl
    cases es : slot ρ i with
    | ow d =>
      have e := get_slot (ρ := ρ) (i := i) (by rw [es]; intro z; cases z)
      rw [es] at e
      exact main rfl es (.inl rfl) (by unfold lockL; simp only [es]) (by unfold lockF; simp only [es]) (by unfold Rw.lock; simp only [e]) (v1 d es)
    | mw d =>
      have e := get_slot (ρ := ρ) (i := i) (by rw [es]; intro z; cases z)
      rw [es] at e
      exact main rfl es (.inr rfl) (by unfold lockL; simp only [es]) (by unfold lockF; simp only [es]) (by unfold Rw.lock; simp only [e]) (v2 d es)
    | un => exact none' (by unfold lockL; simp only [es]) (by unfold lockF; simp only [es]) (v3 (fun d z => by rw [es] at z; cases z) fun d z => by rw [es] at z; cases z)
    | fz d => exact none' (by unfold lockL; simp only [es]) (by unfold lockF; simp only [es]) (v3 (fun d z => by rw [es] at z; cases z) fun d z => by rw [es] at z; cases z)
    | bw d => exact none' (by unfold lockL; simp only [es]) (by unfold lockF; simp only [es]) (v3 (fun d z => by rw [es] at z; cases z) fun d z => by rw [es] at z; cases z)
end
end Rw

set_option Elab.async false
set_option linter.all false
set_option maxRecDepth 100000
/-! RwL: list comprehensions. -/
namespace Rw
open PySem PySem.Spec PyProof.Rows L2
mutual
/-- the names that a target stores to -/
def tgN : Tg → List Nat
  | .nm i => [i]
  | .tp ts => tgNs ts
def tgNs : List Tg → List Nat
  | [] => []
  | t :: ts => tgN t ++ tgNs ts
end
def NoW : WX := fun _ _ _ _ => False
section
variable {K : KW} {mg : Str → Option Value} {A₀ A A' A₁ : Addr → Prop} {σ σ' : L2.St} {H H' H₁ : Hp} {ρ ρ' ρ₁ : Env} {fp fp' fp₁ : Nat → List Addr} {W : WX} {F : Fn} {e : Ex} {Q : VK} {p : Bool}
mutual
/-- a target changes its names alone -/
theorem gT_only : ∀ (t : Tg) {v : V} {σ : L2.St} {H : Hp} {Q : L2.St → Hp → Prop}, gT K t v σ H Q → gT K t v σ H fun σ' H' => Q σ' H' ∧ H' = H ∧ σ'.length = σ.length ∧ ∀ j, j ∉ tgN t → σ'[j]? = σ[j]?
  | .nm i, v, σ, H, Q, h => ⟨h, rfl, by simp, fun j hj => List.getElem?_set_ne (fun e => hj (by simp [tgN, e]))⟩
  | .tp ts, v, σ, H, Q, ⟨a, xs, h1, h2, h3, h4⟩ => ⟨a, xs, h1, h2, h3, gTs_only ts h4⟩
theorem gTs_only : ∀ (ts : List Tg) {vs : List V} {σ : L2.St} {H : Hp} {Q : L2.St → Hp → Prop}, gTs K ts vs σ H Q → gTs K ts vs σ H fun σ' H' => Q σ' H' ∧ H' = H ∧ σ'.length = σ.length ∧ ∀ j, j ∉ tgNs ts → σ'[j]? = σ[j]?
  | [], vs, σ, H, Q, ⟨h1, h2⟩ => ⟨h1, h2, rfl, rfl, fun _ _ => rfl⟩
  | t :: ts, vs, σ, H, Q, ⟨v, r, h1, h2⟩ => ⟨v, r, h1, gT_mono t (gT_only t h2) fun σ1 H1 ⟨q, e1, l1, k1⟩ => gTs_mono ts (gTs_only ts q) fun σ2 H2 ⟨q2, e2, l2, k2⟩ => ⟨q2, by rw [e2, e1], by rw [l2, l1], fun j hj => by
      rw [tgNs] at hj
      rw [k2 j fun z => hj (List.mem_append_right _ z), k1 j fun z => hj (List.mem_append_left _ z)]⟩⟩
theorem gT_mono : ∀ (t : Tg) {v : V} {σ : L2.St} {H : Hp} {Q Q' : L2.St → Hp → Prop}, gT K t v σ H Q → (∀ σ' H', Q σ' H' → Q' σ' H') → gT K t v σ H Q'
  | .nm i, v, σ, H, Q, Q', h, k => k _ _ h
  | .tp ts, v, σ, H, Q, Q', ⟨a, xs, h1, h2, h3, h4⟩, k => ⟨a, xs, h1, h2, h3, gTs_mono ts h4 k⟩
theorem gTs_mono : ∀ (ts : List Tg) {vs : List V} {σ : L2.St} {H : Hp} {Q Q' : L2.St → Hp → Prop}, gTs K ts vs σ H Q → (∀ σ' H', Q σ' H' → Q' σ' H') → gTs K ts vs σ H Q'
  | [], vs, σ, H, Q, Q', ⟨h1, h2⟩, k => ⟨h1, k _ _ h2⟩
  | t :: ts, vs, σ, H, Q, Q', ⟨v, r, h1, h2⟩, k => ⟨v, r, h1, gT_mono t h2 fun σ1 H1 q => gTs_mono ts q k⟩
end
theorem wipe_get {σ : L2.St} {i : Nat} : ∀ {vs : List Nat}, i ∈ vs → (wipe σ vs)[i]? = (if i < σ.length then some none else none)
  | v :: vs, h => by
    unfold wipe
    by_cases e : v = i
    · subst e
      by_cases hl : v < σ.length
      · rw [List.getElem?_set_self (by rw [wipe_length]; exact hl), if_pos hl]
      · rw [if_neg hl, List.getElem?_eq_none_iff]
        rw [List.length_set, wipe_length]; omega
    · rw [List.getElem?_set_ne e]
      exact wipe_get ((List.mem_cons.mp h).resolve_left (Ne.symm e))
theorem wipe_eq {σ σ' : L2.St} {vs : List Nat} (hl : σ'.length = σ.length) (h : ∀ j, j ∉ vs → σ'[j]? = σ[j]?) : wipe σ' vs = wipe σ vs := by
  apply List.ext_getElem?
  intro i
  by_cases hi : i ∈ vs
  · rw [wipe_get hi, wipe_get hi, hl]
  · rw [wipe_out hi, wipe_out hi, h i hi]
theorem wipe_wipe {σ : L2.St} {vs : List Nat} : wipe (wipe σ vs) vs = wipe σ vs := wipe_eq (wipe_length _ _) fun j hj => wipe_out hj
theorem slot_wipe {vs : List Nat} {j : Nat} : slot (wipeE ρ vs) j = if j ∈ vs then .un else slot ρ j := by
  induction vs with
  | nil => simp [wipeE]
  | cons v vs ih =>
    unfold wipeE
    by_cases e : j = v
    · subst e
      rw [if_pos List.mem_cons_self]
      by_cases hl : j < (wipeE ρ vs).length
      · exact slot_set_same hl
      · exact slot_out (by simpa using hl)
    · rw [slot_set e, ih]
      simp [List.mem_cons, e]
theorem wipeE_length : ∀ {vs : List Nat}, (wipeE ρ vs).length = ρ.length
  | [] => rfl
  | v :: vs => by unfold wipeE; rw [List.length_set, wipeE_length]
theorem look_wipe {vs : List Nat} {j : Nat} (h : j ∉ vs) : look (wipe σ vs) j = look σ j := by unfold look; rw [wipe_out h]
theorem SI.wipe (S : SI K A₀ A σ H ρ fp) : ∀ vs : List Nat, ∃ fp', SI K A₀ A (L2.wipe σ vs) H (wipeE ρ vs) fp' ∧ ∀ a, Bs A fp' a → Bs A fp a
  | [] => ⟨fp, S, fun _ b => b⟩
  | v :: vs => by
    obtain ⟨fp1, S1, b1⟩ := S.wipe vs
    have sub : ∀ a, Bs A (fup fp1 v []) a → Bs A fp1 a := fun a b => by
      rcases b with b | ⟨j, b⟩
      · exact .inl b
      · by_cases e : j = v
        · rw [e, fup_same] at b; cases b
        · rw [fup_ne e] at b; exact .inr ⟨j, b⟩
    refine ⟨fup fp1 v [], ?_, fun a b => b1 a (sub a b)⟩
    unfold L2.wipe wipeE
    refine S1.chg v (by rw [List.length_set, List.length_set]; exact S1.len) (fun j hj => look_set hj) (fun j hj => slot_set hj) S.sub (fun a h => .inl h) (fun a h => S.tr a h) .nil (fun _ z => nomatch z) (fun _ z => nomatch z) (fun _ _ e _ => e) ?_
    have : slot ((wipeE ρ vs).set v .un) v = .un := by
      by_cases hl : v < (wipeE ρ vs).length
      · exact slot_set_same hl
      · exact slot_out (by simpa using hl)
    rw [this]
    exact rfl
/-- a held thing may be changed -/
theorem SI.held (S : SI K A₀ A σ H ρ fp) {H₁ : Hp} (hk : ∀ a o, H a = some o → (¬ A a ∨ A₀ a) → H₁ a = some o) (hT : ∀ a, A a → ∃ o, H₁ a = some o) : SI K A₀ A σ H₁ ρ fp :=
  ⟨S.len, S.sub, S.nd, S.dj, S.na, hT, fun i => (S.sl i).mono (fun a o e n => hk a o e (by
    rcases n with n | n | n
    · exact .inl fun h => n (.inl h)
    · exact .inl (S.na i a n)
    · exact .inr n)) fun a b => .inl b⟩
theorem lock_slot {k : Option Nat} {j : Nat} (h : slot ρ j = .un ∨ ∃ d, slot ρ j = .fz d) : slot (Rw.lock ρ k) j = slot ρ j := by
  cases k with
  | none => rfl
  | some i =>
    unfold Rw.lock
    dsimp only
    split
    · rename_i d hd
      refine slot_set fun e => ?_
      rw [e, slot_get hd] at h
      rcases h with h | ⟨d, h⟩ <;> cases h
    · rename_i d hd
      refine slot_set fun e => ?_
      rw [e, slot_get hd] at h
      rcases h with h | ⟨d, h⟩ <;> cases h
    · rfl
/-- behind a comprehension: the names are as they were -/
theorem SI.back {own : List Nat} {k : Option Nat} {ρ₀ : Env} (S₁ : SI K A₀ A₁ σ H₁ (Rw.lock ρ₀ k) fp₁) (S' : SI K A₀ A' (L2.wipe σ own) H' (wipeE ρ own) fp') (t : Tr A₁ fp₁ H₁ A' fp' H') (e : backE ρ₀ ρ own = some ρ') : SI K A₀ A' σ H' ρ' fp' := by
  obtain ⟨b1, b2, b3⟩ := backE_pin e
  refine ⟨by rw [b1, ← wipeE_length (vs := own), ← S'.len, wipe_length], S'.sub, S'.nd, S'.dj, S'.na, S'.tr, fun j => ?_⟩
  have so := S'.sl j
  rw [slot_wipe] at so
  by_cases hj : j ∈ own
  · rw [if_pos hj] at so
    have ef : fp' j = [] := so
    obtain ⟨c1, c2⟩ := b3 j hj
    rw [ef]
    by_cases hl : j < ρ.length
    · rw [c2 hl]
      rcases c1 with c | ⟨d, c⟩
      · rw [c]; exact rfl
      · rw [c]
        have s1 := S₁.sl j
        rw [lock_slot (.inr ⟨d, c⟩), c] at s1
        obtain ⟨_, v, hv, r⟩ := s1
        exact ⟨rfl, v, hv, r.keep S₁ (fun _ z => nomatch z) t⟩
    · rw [slot_out (by rw [b1]; omega)]
      exact rfl
  · rw [if_neg hj, look_wipe hj] at so
    rw [b2 j hj]
    exact so
/-- its tests -/
def tC1 (K : KW) (mg : Str → Option Value) (F : Fn) : Option Ex → TT
  | none => tYes
  | some c => tT K mg NoW F c
theorem evC_none (ρ : Env) : evC F none ρ = .ok true ρ := by rw [evC]
theorem rd_cnd {c : Option Ex} {ρ₂ : Env} {b : Bool} {P : Bool → Hp → Prop} (S : SI K A₀ A σ H ρ fp) (h : evC F c ρ = .ok b ρ₂) (k : ∀ H' A' fp', EOk K A₀ A fp σ H (pureO c) ρ₂ H' A' fp' → P b H') : tC1 K mg F c σ H P := by
  cases c with
  | none =>
    rw [evC] at h
    cases h
    exact k H A fp (.refl S)
  | some c =>
    rw [evC] at h
    exact ⟨A₀, A, ρ, fp, S, by rw [h]; exact fun H' A' fp' g => k H' A' fp' g⟩
theorem lcT_ok {t : Tg} {bz : Bool} {fc : Env → Rr Bool} {fe : Env → Rr Opd} {x : Rw.D} {o : Option Rw.D} (h : lcT t bz fc fe x ρ = .ok o ρ') : ∃ ρ1 b ρ2, asgT t bz x ρ = some ρ1 ∧ fc ρ1 = .ok b ρ2 ∧ ((b = false ∧ o = none ∧ ρ' = ρ2) ∨ (b = true ∧ ∃ u ρ3 u', fe ρ2 = .ok u ρ3 ∧ alias_ ρ3 u = some (u', ρ') ∧ o = some u'.val)) := by
  unfold lcT at h
  split at h
  · cases h
  · rename_i ρ1 h1
    cases h2 : fc ρ1 with
    | stuck => rw [h2] at h; cases h
    | exc _ _ => rw [h2] at h; cases h
    | ok b ρ2 =>
      rw [h2] at h
      refine ⟨ρ1, b, ρ2, h1, h2, ?_⟩
      cases b with
      | false => cases h; exact .inl ⟨rfl, rfl, rfl⟩
      | true =>
        have h : ((fe ρ2).bind fun o ρ3 => (match alias_ ρ3 o with
          | some (o', ρ4) => .ok (some o'.val) ρ4
          | none => .stuck)) = .ok o ρ' := h
        cases h3 : fe ρ2 with
        | stuck => rw [h3] at h; cases h
        | exc _ _ => rw [h3] at h; cases h
        | ok u ρ3 =>
          rw [h3] at h
          dsimp only [Rr.bind] at h
          split at h
          · rename_i u' ρ4 h4
            cases h
            exact .inr ⟨rfl, u, ρ3, u', rfl, h4, rfl⟩
          · cases h
theorem lcT_pin {X : Nat → Prop} {t : Tg} {b : Bool} {c : Option Ex} {e : Ex} {x : Rw.D} {ρ : Env} : (lcT t b (fun ρ => evC F c ρ) (fun ρ => evE F e ρ) x ρ).pin X ρ := by
  unfold lcT
  split
  · trivial
  · rename_i ρ' ha
    refine Rr.pin_pre (asgT_pin t ha).x (Rr.pin_bind (evC_pin F c ρ') fun b ρ2 _ => ?_)
    split
    · refine Rr.pin_bind (evE_pin F e ρ2) fun o ρ3 _ => ?_
      split
      · rename_i hal; exact (Pin.alias hal).x
      · trivial
    · exact PinX.refl
theorem wipeE_get {i : Nat} : ∀ {vs : List Nat}, i ∈ vs → (wipeE ρ vs)[i]? = (if i < ρ.length then some .un else none)
  | v :: vs, h => by
    unfold wipeE
    by_cases e : v = i
    · subst e
      by_cases hl : v < ρ.length
      · rw [List.getElem?_set_self (by rw [wipeE_length]; exact hl), if_pos hl]
      · rw [if_neg hl, List.getElem?_eq_none_iff, List.length_set, wipeE_length]; omega
    · rw [List.getElem?_set_ne e]
      exact wipeE_get ((List.mem_cons.mp h).resolve_left (Ne.symm e))
theorem wipeE_out {i : Nat} : ∀ {vs : List Nat}, i ∉ vs → (wipeE ρ vs)[i]? = ρ[i]?
  | [], _ => rfl
  | v :: vs, h => by
    unfold wipeE
    rw [List.getElem?_set_ne fun e => h (by rw [e]; exact List.mem_cons_self)]
    exact wipeE_out fun m => h (List.mem_cons_of_mem _ m)
theorem wipeE_eq {vs : List Nat} (hl : ρ'.length = ρ.length) (h : ∀ j, j ∉ vs → ρ'[j]? = ρ[j]?) : wipeE ρ' vs = wipeE ρ vs := by
  apply List.ext_getElem?
  intro i
  by_cases hi : i ∈ vs
  · rw [wipeE_get hi, wipeE_get hi, hl]
  · rw [wipeE_out hi, wipeE_out hi, h i hi]
/-! ### what holds within a comprehension: its result d at Dr grows -/
structure Mid (K : KW) (A₀ Aq Ab : Addr → Prop) (Hb : Hp) (fpb : Nat → List Addr) (Dr : Addr) (pu : Bool) (d : Rw.D) (σ : L2.St) (H : Hp) (ρ : Env) (A : Addr → Prop) (fp : Nat → List Addr) (q : List Addr) : Prop where
  si : SI K A₀ A σ H ρ fp
  rp : Rp K H (Bs A fp) (.ref Dr) d (Dr :: q)
  own : A Dr
  a : ∀ x, Ab x → A x
  k : ∀ x o, Hb x = some o → x ≠ Dr → (∀ j, x ∉ fpb j) → H x = some o
  b : ∀ x, Bs A fp x → Bs Ab fpb x ∨ Hb x = none
  kp : pu = true → ∀ x o, Hb x = some o → x ≠ Dr → H x = some o
  nd : (Dr :: q).Nodup
  qa : ∀ x ∈ q, A x ∧ ¬ Aq x
  aq : ∀ x, Aq x → Ab x
  a0 : ∀ x, A₀ x → Ab x
  n0 : ¬ A₀ Dr
  nq : ¬ Aq Dr
section
variable {Aq Ab : Addr → Prop} {Hb : Hp} {fpb : Nat → List Addr} {Dr : Addr} {pu : Bool} {d d' : Rw.D} {q q' : List Addr}
theorem Mid.inA (M : Mid K A₀ Aq Ab Hb fpb Dr pu d σ H ρ A fp q) : ∀ x ∈ Dr :: q, A x := fun x h => (List.mem_cons.mp h).elim (fun e => by rw [e]; exact M.own) fun h => (M.qa x h).1
theorem Mid.nb (M : Mid K A₀ Aq Ab Hb fpb Dr pu d σ H ρ A fp q) {x : Addr} (h : H x = none) : Bs Ab fpb x ∨ Hb x = none := by
  cases e : Hb x with
  | none => exact .inr rfl
  | some o =>
    refine .inl ?_
    by_cases z : ∃ j, x ∈ fpb j
    · exact .inr z
    · have ne : x ≠ Dr := fun e => by
        obtain ⟨o, eo⟩ := M.si.tr Dr M.own
        rw [← e, h] at eo; cases eo
      have := M.k x o e ne fun j y => z ⟨j, y⟩
      rw [h] at this; cases this
theorem Mid.nf (M : Mid K A₀ Aq Ab Hb fpb Dr pu d σ H ρ A fp q) {x : Addr} {o : HO} (e : Hb x = some o) (n : ∀ j, x ∉ fpb j) : ∀ j, x ∉ fp j := fun j z => by
  rcases M.b x (.inr ⟨j, z⟩) with (y | ⟨i, y⟩) | y
  · exact M.si.na j x z (M.a x y)
  · exact n i y
  · rw [e] at y; cases y
theorem Mid.mv (M : Mid K A₀ Aq Ab Hb fpb Dr pu d σ H ρ A fp q) (S' : SI K A₀ A' σ' H' ρ' fp') (t : Tr A fp H A' fp' H') (kp : pu = true → Keep H H') : Mid K A₀ Aq Ab Hb fpb Dr pu d σ' H' ρ' A' fp' q where
  si := S'
  rp := M.rp.keep M.si M.inA t
  own := t.a _ M.own
  a := fun x h => t.a x (M.a x h)
  k := fun x o e ne n => t.k x o (M.k x o e ne n) (M.nf e n)
  b := fun x b => (t.b x b).elim (M.b x) M.nb
  kp := fun z x o e ne => kp z x o (M.kp z x o e ne)
  nd := M.nd
  qa := fun x z => ⟨t.a x (M.qa x z).1, (M.qa x z).2⟩
  aq := M.aq
  a0 := M.a0
  n0 := M.n0
  nq := M.nq
theorem Mid.trans (M : Mid K A₀ Aq Ab Hb fpb Dr pu d σ H ρ A fp q) (N : Mid K A₀ Aq A H fp Dr pu d' σ' H' ρ' A' fp' q') : Mid K A₀ Aq Ab Hb fpb Dr pu d' σ' H' ρ' A' fp' q' where
  si := N.si
  rp := N.rp
  own := N.own
  a := fun x h => N.a x (M.a x h)
  k := fun x o e ne n => N.k x o (M.k x o e ne n) ne (M.nf e n)
  b := fun x b => (N.b x b).elim (M.b x) M.nb
  kp := fun z x o e ne => N.kp z x o (M.kp z x o e ne) ne
  nd := N.nd
  qa := N.qa
  aq := M.aq
  a0 := M.a0
  n0 := M.n0
  nq := M.nq
/-- the inner loop's start -/
theorem Mid.base (M : Mid K A₀ Aq Ab Hb fpb Dr pu d σ H ρ A fp q) : Mid K A₀ Aq A H fp Dr pu d σ H ρ A fp q where
  si := M.si
  rp := M.rp
  own := M.own
  a := fun _ h => h
  k := fun _ _ e _ _ => e
  b := fun _ b => .inl b
  kp := fun _ _ _ e _ => e
  nd := M.nd
  qa := M.qa
  aq := fun x h => M.a x (M.aq x h)
  a0 := fun x h => M.a x (M.a0 x h)
  n0 := M.n0
  nq := M.nq
theorem Mid.wiped (M : Mid K A₀ Aq Ab Hb fpb Dr pu d σ H ρ A fp q) (own : List Nat) : ∃ fp', Mid K A₀ Aq Ab Hb fpb Dr pu d (L2.wipe σ own) H (wipeE ρ own) A fp' q := by
  obtain ⟨fp6, S6, b6⟩ := M.si.wipe own
  exact ⟨fp6, M.mv S6 ⟨fun _ h => h, fun _ _ e _ => e, fun a b => .inl (b6 a b)⟩ fun _ _ _ e => e⟩
theorem upd_oth {p a : Addr} {o u : HO} (e : H a = some o) (ne : a ≠ p) : upd H p u a = some o := by unfold upd; rw [if_neg ne]; exact e
theorem Mid.app {xs : List Rw.D} (M : Mid K A₀ Aq Ab Hb fpb Dr pu (.lst true xs) σ H ρ A fp q) {v : V} {w : Rw.D} {qv : List Addr} (r : Rp K H (Bs A fp) v w qv) (nd : qv.Nodup) (hq : ∀ x ∈ qv, A x ∧ ¬ Aq x ∧ x ∉ Dr :: q) :
    ∃ acc, H Dr = some (.lst acc) ∧ acc.length = xs.length ∧ Mid K A₀ Aq Ab Hb fpb Dr pu (.lst true (xs ++ [w])) σ (upd H Dr (.lst (acc ++ [v]))) ρ A fp (q ++ qv) := by
  obtain ⟨acc, hD, l⟩ : ∃ acc, H Dr = some (.lst acc) ∧ RpL K H (Bs A fp) acc xs q := by
    cases M.rp with
    | lo t l => exact ⟨_, t, l⟩
  have nDr : Dr ∉ q := (List.nodup_cons.mp M.nd).1
  have bD : Bs A fp Dr := .inl M.own
  have nD : Dr ∉ qv := fun z => (hq _ z).2.2 List.mem_cons_self
  have kk : ∀ {f : List Addr}, Dr ∉ f → ∀ a o, H a = some o → (¬ Bs A fp a ∨ a ∈ f) → upd H Dr (.lst (acc ++ [v])) a = some o := fun hf a o e n => upd_oth e fun z => by
    rw [z] at n
    exact n.elim (fun n => n bD) hf
  refine ⟨acc, hD, l.len, ⟨M.si.held (fun a o e n => upd_oth e fun z => ?_) fun a h => ?_, ?_, M.own, M.a, fun x o e ne n => upd_oth (M.k x o e ne n) ne, M.b, fun z x o e ne => upd_oth (M.kp z x o e ne) ne, ?_, fun x z => ?_, M.aq, M.a0, M.n0, M.nq⟩⟩
  · rw [z] at n
    exact n.elim (fun n => n M.own) M.n0
  · by_cases y : a = Dr
    · exact ⟨.lst (acc ++ [v]), by rw [y]; exact upd_same⟩
    · obtain ⟨o, eo⟩ := M.si.tr a h
      exact ⟨o, upd_oth eo y⟩
  · exact .lo upd_same (RpL.app (l.mono (kk nDr) fun a b => .inl b) (RpL.one (r.mono (kk nD) fun a b => .inl b)))
  · rw [← List.cons_append, List.nodup_append]
    refine ⟨M.nd, nd, fun a h1 b h2 e0 => ?_⟩
    rw [← e0] at h2
    exact (hq a h2).2.2 h1
  · rcases List.mem_append.mp z with z | z
    · exact M.qa x z
    · exact ⟨(hq x z).1, (hq x z).2.1⟩
theorem Mid.put {kvs kvs' : List (Rw.D × Rw.D)} (M : Mid K A₀ Aq Ab Hb fpb Dr pu (.dct true kvs) σ H ρ A fp []) {y v : V} {k w : Rw.D} {qv : List Addr} (rk : Rp K H (Bs A fp) y k []) (rv : Rp K H (Bs A fp) v w qv) (hq : ∀ x ∈ qv, ¬ Ab x ∧ x ≠ Dr ∧ A x) (hp : dPut kvs k (freeze w) = some kvs') :
    ∃ as vs, DctAt K H Dr (kD kvs) as vs ∧ RpL K H (Bs A fp) as (kD kvs) [] ∧ RpL K H (Bs A fp) vs (vD kvs) [] ∧ ∀ ob, DctAt K (upd H Dr ob) Dr (kD kvs') (stA k y kvs as) (stV k v kvs vs) → Mid K A₀ Aq Ab Hb fpb Dr pu (.dct true kvs') σ (upd H Dr ob) ρ (fun x => A x ∧ x ∉ qv) fp [] := by
  obtain ⟨as, vs, t, l, m⟩ : ∃ as vs, DctAt K H Dr (kD kvs) as vs ∧ RpL K H (Bs A fp) as (kD kvs) [] ∧ RpL K H (Bs A fp) vs (vD kvs) [] := by
    cases M.rp with
    | dw t l m => exact ⟨_, _, t, l, m⟩
  have hkv : kvs' = storeD k (freeze w) kvs := by
    unfold dPut at hp
    split at hp
    · split at hp
      · cases hp; rfl
      · cases hp
    · cases hp
  have bD : Bs A fp Dr := .inl M.own
  have sub : ∀ a, Bs (fun x => A x ∧ x ∉ qv) fp a → Bs A fp a := fun a b => b.imp (fun z => z.1) id
  have subq : ∀ a, Bs (fun x => A x ∧ x ∉ qv) fp a → a ∉ qv := fun a b z => by
    rcases b with b | ⟨j, b⟩
    · exact b.2 z
    · exact M.si.na j a b (hq a z).2.2
  refine ⟨as, vs, t, l, m, fun ob hob => ?_⟩
  have kk : ∀ a o, H a = some o → (¬ Bs A fp a ∨ a ∈ ([] : List Addr)) → upd H Dr ob a = some o := fun a o e n => upd_oth e fun z => by
    rw [z] at n
    exact n.elim (fun n => n bD) fun z => nomatch z
  have rk' : Rp K (upd H Dr ob) (Bs (fun x => A x ∧ x ∉ qv) fp) y k [] := rk.mono kk fun a b => .inl (sub a b)
  have rw0 : Rp K H (Bs (fun x => A x ∧ x ∉ qv) fp) v (freeze w) [] := rv.freeze fun a b => ⟨sub a b, subq a b⟩
  have own' : A Dr ∧ Dr ∉ qv := ⟨M.own, fun z => (hq _ z).2.1 rfl⟩
  have rw' : Rp K (upd H Dr ob) (Bs (fun x => A x ∧ x ∉ qv) fp) v (freeze w) [] := rw0.mono (fun a u eu n => upd_oth eu fun z => by
    rw [z] at n
    exact n.elim (fun n => n (.inl own')) fun z => nomatch z) fun a b => .inl b
  obtain ⟨c1, c2⟩ := store_parts (kvs := kvs) rk' rw' (l.mono kk fun a b => .inl (sub a b)) (m.mono kk fun a b => .inl (sub a b))
  rw [← hkv] at c1 c2
  have S1 := M.si.drop (A₁ := fun x => A x ∧ x ∉ qv) (fun a h => ⟨M.si.sub a h, fun z => (hq a z).1 (M.a0 a h)⟩) fun a h => h.1
  refine ⟨S1.held (fun a o e n => upd_oth e fun z => ?_) fun a h => ?_, .dw hob c1 c2, own', fun x h => ⟨M.a x h, fun z => (hq x z).1 h⟩, fun x o e ne n => upd_oth (M.k x o e ne n) ne, fun x b => M.b x (sub x b), fun z x o e ne => upd_oth (M.kp z x o e ne) ne, by simp, (fun x z => nomatch z), M.aq, M.a0, M.n0, M.nq⟩
  · rw [z] at n
    exact n.elim (fun n => n own') M.n0
  · by_cases y : a = Dr
    · exact ⟨ob, by rw [y]; exact upd_same⟩
    · obtain ⟨o, eo⟩ := M.si.tr a h.1
      exact ⟨o, upd_oth eo y⟩
/-- a turn of a list comprehension -/
theorem lc_turn {own : List Nat} {t : Tg} {bz : Bool} {c : Option Ex} {e : Ex} (ht : ∀ j ∈ tgN t, j ∈ own) {xs : List Rw.D} {x : Rw.D} {v : V} {o : Option Rw.D} {ρ₂ : Env} (M : Mid K A₀ Aq Ab Hb fpb Dr pu (.lst true xs) (L2.wipe σ own) H (wipeE ρ₂ own) A fp q) (rv : Rp K H (Bs A fp) v x [])
    (hpu : pu = true → pureO c = true ∧ pureE e = true) (hf : lcT t bz (fun ρ => evC F c ρ) (fun ρ => evE F e ρ) x (wipeE ρ₂ own) = .ok o ρ') (hl : o ≠ none → xs.length < line) {Nx : Hp → Prop}
    (hN : ∀ H5 A5 fp5 q5, Mid K A₀ Aq Ab Hb fpb Dr pu (.lst true (match o with | some y => xs ++ [y] | none => xs)) (L2.wipe σ own) H5 (wipeE ρ' own) A5 fp5 q5 → Nx H5) :
    gT K t v (L2.wipe σ own) H fun σ2 H2 => L2.wipe σ2 own = L2.wipe σ own ∧ tC1 K mg F c σ2 H2 fun b H3 => if b = true then tE K mg NoW F e σ2 H3 fun y H4 => ∃ acc, H4 Dr = some (.lst acc) ∧ acc.length < sizeLine ∧ Nx (upd H4 Dr (.lst (acc ++ [y]))) else Nx H3 := by
  obtain ⟨ρ3, b, ρ4, ha, hc, hb⟩ := lcT_ok hf
  refine gT_mono t (gT_only t (gT_ok (Q := fun σ' H3 => H3 = H ∧ ∃ fp3, TgOk K A₀ A fp (L2.wipe σ own) H (wipeE ρ₂ own) [] σ' ρ3 fp3) t M.si rv .nil (fun _ z => nomatch z) (fun _ => rfl) ha fun σ' fp3 T => ⟨rfl, fp3, T⟩)) ?_
  rintro σ3 H3 ⟨⟨rfl, fp3, T⟩, _, hl3, ho3⟩
  have hw3 : L2.wipe σ3 own = L2.wipe σ own := (wipe_eq hl3 fun j hj => ho3 j fun z => hj (ht j z)).trans wipe_wipe
  refine ⟨hw3, ?_⟩
  have eA : (fun a => A a ∧ a ∉ ([] : List Addr)) = A := by funext a; simp
  have S3 := T.si
  rw [eA] at S3
  have M3 := M.mv S3 ⟨fun _ h => h, fun _ _ e _ => e, fun a b => .inl (T.b a (by rw [eA]; exact b))⟩ fun _ _ _ e => e
  refine rd_cnd S3 hc fun H4 A4 fp4 g4 => ?_
  have M4 := M3.mv g4.si g4.tr fun z => g4.kp (hpu z).1
  rcases hb with ⟨rfl, rfl, rfl⟩ | ⟨rfl, u, ρ5, u', hu1, hu2, rfl⟩
  · rw [if_neg Bool.false_ne_true]
    obtain ⟨fp6, M6⟩ := M4.wiped own
    rw [hw3] at M6
    exact hN _ _ _ _ M6
  · rw [if_pos rfl]
    refine ⟨_, A4, ρ4, fp4, g4.si, ?_⟩
    have hu1 : evE F e ρ4 = .ok u ρ5 := hu1
    rw [hu1]
    intro v' H5 A5 fp5 g5 ok5
    obtain ⟨qv, ro, ndv, hqv⟩ := ok5
    obtain ⟨fp5', S5, s5, r5, n5⟩ := alias_ok g5.si ro hu2
    have M5 := (M4.mv g5.si g5.tr fun z => g5.kp (hpu z).2).mv S5 ⟨fun _ h => h, fun _ _ e _ => e, fun a b => .inl (s5 a b)⟩ fun _ _ _ e => e
    have rv5 : Rp K H5 (Bs A5 fp5') v' u'.val qv := by
      cases u' with
      | fz d => obtain ⟨e0, r0⟩ := r5; rw [e0]; exact r0
      | ow d => exact r5
      | pt i0 p0 => exact (n5 i0 p0 rfl).elim
    obtain ⟨acc, hacc, hlen, M6⟩ := M5.app rv5 ndv fun x z => ⟨(hqv x z).1, fun h => (hqv x z).2 (M4.a x (M4.aq x h)), fun h => (hqv x z).2 (M4.inA x h)⟩
    obtain ⟨fp7, M7⟩ := M6.wiped own
    rw [hw3] at M7
    exact ⟨acc, hacc, by rw [hlen, ← line_eq]; exact hl (fun z => by cases z), hN _ _ _ _ M7⟩
/-- the start -/
theorem Mid.start {ob : HO} {ρ₁ : Env} (Sl : SI K A₀ A σ H ρ₁ fp) (hD : H Dr = none) (r : ∀ B, Rp K (upd H Dr ob) B (.ref Dr) d [Dr]) (own : List Nat) : ∃ A' fp', Mid K A₀ A A H fp Dr pu d (L2.wipe σ own) (upd H Dr ob) (wipeE ρ₁ own) A' fp' [] := by
  have S2 := Sl.grow (A₁ := fun a => A a ∨ a = Dr) (H₁ := upd H Dr ob) (fun a h => .inl (Sl.sub a h)) (fun a h => h.imp id fun z => by rw [z]; exact hD) (fun a h => h.elim (fun h => (Sl.tr a h).elim fun o e => ⟨o, upd_keep hD a o e⟩) fun z => ⟨ob, by rw [z]; exact upd_same⟩) (upd_keep hD)
  obtain ⟨fp2, S3, b3⟩ := S2.wipe own
  have nA : ¬ A Dr := fun h => by
    obtain ⟨o, eo⟩ := Sl.tr Dr h
    rw [hD] at eo; cases eo
  refine ⟨_, fp2, S3, r _, .inr rfl, fun x h => .inl h, fun x o e _ _ => upd_keep hD x o e, fun x b => ?_, fun _ x o e _ => upd_keep hD x o e, by simp, (fun _ z => nomatch z), fun _ h => h, Sl.sub, fun h => nA (Sl.sub _ h), nA⟩
  rcases b3 x b with (b | b) | b
  · exact .inl (.inl b)
  · exact .inr (by rw [b]; exact hD)
  · exact .inl (.inr b)
/-- the end -/
theorem Mid.fin {own : List Nat} {k : Option Nat} {p pr : Bool} {ρ₁ ρ₂ ρ₃ ρ₄ : Env} (S : SI K A₀ A σ H ρ fp) (g₁ : EOk K A₀ A fp σ H p ρ₁ H₁ A₁ fp₁) (hD : H₁ Dr = none)
    (M : Mid K (plusL A₀ (lockL ρ₁ fp₁ k)) (plusL A₁ (lockL ρ₁ fp₁ k)) (plusL A₁ (lockL ρ₁ fp₁ k)) H₁ (lockF ρ₁ fp₁ k) Dr pu d (L2.wipe σ own) H' (wipeE ρ₂ own) A' fp' q)
    (hpin : PinX (fun j => j ∈ own) (Rw.lock ρ₁ k) ρ₂) (e1 : backE ρ₁ ρ₂ own = some ρ₃) (hu : Rw.unlock ρ₁ k ρ₃ = some ρ₄) (hp : pr = true → p = true ∧ pu = true) :
    ∃ A4 fp4, EOk K A₀ A fp σ H pr ρ₄ H' A4 fp4 ∧ OpdOk K H' A A4 (Bs A4 fp4) σ (.ref Dr) (.ow d) := by
  obtain ⟨Sl, subl⟩ := g₁.si.lock k
  have t2 : Tr (plusL A₁ (lockL ρ₁ fp₁ k)) (lockF ρ₁ fp₁ k) H₁ A' fp' H' := ⟨M.a, fun a o e n => M.k a o e (fun z => by rw [z, hD] at e; cases e) n, M.b⟩
  have S3 := SI.back Sl M.si t2 e1
  obtain ⟨b1, b2, b3⟩ := backE_pin e1
  -- names that were read-only still are
  have pin : ∀ j d, slot (Rw.lock ρ₁ k) j = .bw d ↔ slot ρ₃ j = .bw d := fun j d => by
    by_cases hj : j ∈ own
    · obtain ⟨c1, c2⟩ := b3 j hj
      rw [lock_slot c1]
      by_cases hl : j < ρ₂.length
      · rw [c2 hl]
      · rw [slot_out (ρ := ρ₃) (by rw [b1]; omega), ← lock_slot (k := k) c1, slot_out (ρ := Rw.lock ρ₁ k) (by rw [← hpin.1]; omega)]
    · rw [b2 j hj]
      exact (hpin.2 j hj).1 d
  have eA : plusL (fun a => A' a ∧ a ∉ lockL ρ₁ fp₁ k) (lockL ρ₁ fp₁ k) = A' := by
    funext a
    apply propext
    unfold plusL
    constructor
    · rintro (z | z)
      · exact z.1
      · exact t2.a a (.inr z)
    · intro z
      by_cases hL : a ∈ lockL ρ₁ fp₁ k
      · exact .inr hL
      · exact .inl ⟨z, hL⟩
  rw [← eA] at S3
  have t3 := t2
  rw [← eA] at t3
  have Ldj : ∀ a, A₁ a → a ∉ lockL ρ₁ fp₁ k := fun a y z => by
    unfold lockL at z
    split at z
    · split at z
      · exact g₁.si.na _ a z y
      · exact g₁.si.na _ a z y
      · cases z
    · cases z
  obtain ⟨fp4, S4, t4, b4⟩ := g₁.si.unlock S3 t3 (fun a h => ⟨t2.a a (.inl h), Ldj a h⟩) (fun a z y => y.2 z) (fun _ _ => rfl) pin hu
  have g4 : EOk K A₀ A fp σ H pr ρ₄ H' (fun a => A' a ∧ a ∉ lockL ρ₁ fp₁ k) fp4 := ⟨S4, g₁.tr.trans S g₁.si t4, fun z a o e => by
    obtain ⟨z1, z2⟩ := hp z
    have e1 := g₁.kp z1 a o e
    exact M.kp z2 a o e1 fun y => by rw [y, hD] at e1; cases e1⟩
  have hDL : Dr ∉ lockL ρ₁ fp₁ k := fun z => by
    obtain ⟨o, eo⟩ := Sl.tr Dr (.inr z)
    rw [hD] at eo; cases eo
  have hqL : ∀ a ∈ q, a ∉ lockL ρ₁ fp₁ k := fun a z y => (M.qa a z).2 (.inr y)
  have hB : ∀ a, Bs (fun a => A' a ∧ a ∉ lockL ρ₁ fp₁ k) fp4 a → Bs A' fp' a ∨ H' a = none := fun a b => .inl (by have := b4 a b; rw [eA] at this; exact this)
  refine ⟨_, fp4, g4, Dr :: q, M.rp.mono (fun _ _ e _ => e) hB, M.nd, fun a z => ?_⟩
  rcases List.mem_cons.mp z with z | z
  · rw [z]
    refine ⟨⟨M.own, hDL⟩, fun hA => ?_⟩
    obtain ⟨o, eo⟩ := g₁.si.tr Dr (g₁.tr.a Dr hA)
    rw [hD] at eo; cases eo
  · exact ⟨⟨(M.qa a z).1, hqL a z⟩, fun hA => (M.qa a z).2 (.inl (g₁.tr.a a hA))⟩
/-- what is walked stays, as long as its list is locked -/
theorem prot_mid {k : Option Nat} {ρ₁ : Env} (S₁ : SI K A₀ A₁ σ H₁ ρ₁ fp₁) (t : ∀ a o, H₁ a = some o → (∀ j, a ∉ lockF ρ₁ fp₁ k j) → H' a = some o) : ∀ a o, H₁ a = some o → Prot fp₁ k a → H' a = some o := fun a o eo pa => t a o eo fun j z => by
  unfold lockF at z
  cases k with
  | none => exact nomatch pa j z
  | some i0 =>
    dsimp only at z
    have key : a ∈ fp₁ j → j = i0 := fun z => (Option.some.inj (pa j z)).symm
    have out : slot ρ₁ i0 = .un ∨ (∃ d, slot ρ₁ i0 = .fz d) ∨ (∃ d, slot ρ₁ i0 = .bw d) → a ∉ fp₁ j := fun hs z => by
      have ej := key z
      rw [ej] at z
      have so := S₁.sl i0
      rcases hs with hs | ⟨d, hs⟩ | ⟨d, hs⟩ <;> rw [hs] at so
      · rw [show fp₁ i0 = [] from so] at z; cases z
      · rw [so.1] at z; cases z
      · rw [so.1] at z; cases z
    have ow : a ∈ fup fp₁ i0 [] j → False := fun z => by
      by_cases ej : j = i0
      · rw [ej, fup_same] at z; cases z
      · rw [fup_ne ej] at z; exact ej (key z)
    cases es : slot ρ₁ i0 with
    | un => rw [es] at z; exact out (.inl es) z
    | fz d => rw [es] at z; exact out (.inr (.inl ⟨d, es⟩)) z
    | bw d => rw [es] at z; exact out (.inr (.inr ⟨d, es⟩)) z
    | ow d => rw [es] at z; exact ow z
    | mw d => rw [es] at z; exact ow z
theorem rd_lc {own : List Nat} {t : Tg} {it : It} {c : Option Ex} {e : Ex} (ht : ∀ j ∈ tgN t, j ∈ own) : ∀ σ H Q, tE K mg W F (.lc own t it c e) σ H Q → tLc (tI K mg W F it) (gT K t) (tC1 K mg F c) (tE K mg NoW F e) own σ H Q := fun σ H Q ⟨A₀, A, ρ, fp, S, h⟩ => by
  rw [evE] at h
  refine ⟨A₀, A, ρ, fp, S, h.seq.imp (fun x ρ₁ _ h => ?_) fun _ _ h => h⟩
  obtain ⟨xs, bz, k⟩ := x
  dsimp only at h
  intro J H₁ A₁ fp₁ g₁ iok Dr hD
  obtain ⟨Sl, subl⟩ := g₁.si.lock k
  -- what the rest is to give
  let G : Rr (List Rw.D) → Prop := fun r => (r.calm.bind fun ys ρ2 => match (backE ρ₁ ρ2 own).bind (Rw.unlock ρ₁ k) with
    | some ρ3 => Rr.ok (Opd.ow (.lst true ys)) ρ3
    | none => .stuck).all (fun o ρ' => ∀ v H' A' fp', EOk K A₀ A fp σ H (pureE (.lc own t it c e)) ρ' H' A' fp' → OpdOk K H' A A' (Bs A' fp') σ v o → Q v H') (XPost K mg A₀ A fp σ H W)
  let f := lcT t bz (fun ρ => evC F c ρ) fun ρ => evE F e ρ
  let MI := fun (x : List Rw.D) (H : Hp) (ρ2 : Env) => ∃ A2 fp2 q, Mid K (plusL A₀ (lockL ρ₁ fp₁ k)) (plusL A₁ (lockL ρ₁ fp₁ k)) (plusL A₁ (lockL ρ₁ fp₁ k)) H₁ (lockF ρ₁ fp₁ k) Dr (pureO c && pureE e) (.lst true x) (L2.wipe σ own) H (wipeE ρ2 own) A2 fp2 q
  refine ⟨fun i m H => i ≤ xs.length ∧ m = xs.length - i ∧ ∃ x ρ2, MI x H ρ2 ∧ PinX (fun j => j ∈ own) (Rw.lock ρ₁ k) ρ2 ∧ G (lcL f own (xs.drop i) x ρ2), ⟨xs.length, Nat.zero_le _, rfl, [], Rw.lock ρ₁ k, ?_, .refl, h⟩, ?_⟩
  · obtain ⟨A2, fp2, M⟩ := Mid.start (pu := pureO c && pureE e) Sl hD (ob := .lst []) (d := .lst true []) (fun B => .lo upd_same .nil) own
    exact ⟨A2, fp2, [], M⟩
  · rintro i m H2 ⟨hi, hm, acc, ρ2, ⟨A2, fp2, q, M⟩, hpin, hG⟩
    have ne : ∀ {a o}, H₁ a = some o → a ≠ Dr := fun e z => by rw [z, hD] at e; cases e
    obtain ⟨k1, k2, k3⟩ := iok H2 (Bs A2 fp2) (fun a o e pa => prot_mid g₁.si (fun a o e n => M.k a o e (ne e) n) a o e pa.1) (fun a o e n => M.k a o e (ne e) fun j z => n (subl a (.inr ⟨j, z⟩))) (fun a b => (M.b a b).imp (subl a) id) fun a b => by
      obtain ⟨o, eo⟩ := M.si.bs b
      rw [eo]; exact fun z => nomatch z
    by_cases hie : i = xs.length
    · refine .inl ⟨by rw [hie]; exact k2, ?_⟩
      rw [hie, List.drop_length] at hG
      have hG : (match (backE ρ₁ ρ2 own).bind (Rw.unlock ρ₁ k) with
        | some ρ3 => Rr.ok (Opd.ow (.lst true acc)) ρ3
        | none => .stuck).all _ _ := hG
      split at hG
      · rename_i ρ3 hb
        cases e1 : backE ρ₁ ρ2 own with
        | none => rw [e1] at hb; cases hb
        | some ρ' =>
          rw [e1] at hb
          obtain ⟨A4, fp4, g4, ok⟩ := M.fin S g₁ hD hpin e1 hb (pr := pureE (.lc own t it c e)) fun z => by rw [pureE, Bool.and_eq_true] at z; exact z
          exact hG (.ref Dr) H2 A4 fp4 g4 ok
      · exact hG.elim
    · have hlt : i < xs.length := by omega
      refine .inr ⟨k1 i hlt, fun H' => ∃ x ρ2, MI x H' ρ2 ∧ PinX (fun j => j ∈ own) (Rw.lock ρ₁ k) ρ2 ∧ G (lcL f own (xs.drop (i + 1)) x ρ2), fun H' h' => ⟨xs.length - (i + 1), by omega, by omega, rfl, h'⟩, fun x H' hy => ?_⟩
      obtain ⟨kH, rv⟩ := k3 i x H' hlt hy
      rw [List.drop_eq_getElem_cons hlt, lcL] at hG
      have hok : ∃ o ρ', f xs[i] (wipeE ρ2 own) = .ok o ρ' := by
        cases hf : f xs[i] (wipeE ρ2 own) with
        | ok o ρ' => exact ⟨o, ρ', rfl⟩
        | exc x ρ' => rw [hf] at hG; exact hG.elim
        | stuck => rw [hf] at hG; exact hG.elim
      obtain ⟨o, ρ', hf⟩ := hok
      rw [hf] at hG
      have hpin' : PinX (fun j => j ∈ own) (Rw.lock ρ₁ k) ρ' := by
        have h1 := lcT_pin (X := fun j => j ∈ own) (F := F) (t := t) (b := bz) (c := c) (e := e) (x := xs[i]) (ρ := wipeE ρ2 own)
        have h2 : (f xs[i] (wipeE ρ2 own)).pin (fun j => j ∈ own) (wipeE ρ2 own) := h1
        rw [hf] at h2
        exact (hpin.trans (PinX.wipe fun v hv => hv)).trans h2
      have M' := M.mv (M.si.held (fun a o e _ => kH a o e) fun a h => by
        obtain ⟨o, eo⟩ := M.si.tr a h
        exact ⟨o, kH a o eo⟩) ⟨fun _ h => h, fun a o e _ => kH a o e, fun a b => .inl b⟩ fun _ => kH
      have hl : o ≠ none → acc.length < line := fun z => by
        cases o with
        | none => exact (z rfl).elim
        | some y =>
          have hG : G (if acc.length < line then lcL f own (xs.drop (i + 1)) (acc ++ [y]) ρ' else .stuck) := hG
          by_cases z : acc.length < line
          · exact z
          · rw [if_neg z] at hG; exact hG.elim
      refine lc_turn ht M' rv (fun z => by rw [Bool.and_eq_true] at z; exact z) hf hl fun H5 A5 fp5 q5 M5 => ⟨_, ρ', ⟨A5, fp5, q5, M5⟩, hpin', ?_⟩
      cases o with
      | none => exact hG
      | some y =>
        have hG : G (if acc.length < line then lcL f own (xs.drop (i + 1)) (acc ++ [y]) ρ' else .stuck) := hG
        rw [if_pos (hl fun z => by cases z)] at hG
        exact hG
theorem lc2T_ok {t : Tg} {bz : Bool} {fc : Env → Rr Bool} {fi : Env → Rr (List Rw.D × Bool × Option Nat)} {f1 : Bool → Rw.D → Env → Rr (Option Rw.D)} {own1 : List Nat} {x : Rw.D} {acc acc' : List Rw.D} (h : lc2T t bz fc fi f1 own1 x acc ρ = .ok acc' ρ') :
    ∃ ρ1 b ρ2, asgT t bz x ρ = some ρ1 ∧ fc ρ1 = .ok b ρ2 ∧ ((b = false ∧ acc' = acc ∧ ρ' = ρ2) ∨ (b = true ∧ ∃ y ρ3, fi ρ2 = .ok y ρ3 ∧ free1 ρ3 y.2.2 = true ∧ lcL (f1 y.2.1) own1 y.1 acc ρ3 = .ok acc' ρ')) := by
  unfold lc2T at h
  split at h
  · cases h
  · rename_i ρ1 h1
    cases h2 : fc ρ1 with
    | stuck => rw [h2] at h; cases h
    | exc _ _ => rw [h2] at h; cases h
    | ok b ρ2 =>
      rw [h2] at h
      refine ⟨ρ1, b, ρ2, h1, h2, ?_⟩
      cases b with
      | false => cases h; exact .inl ⟨rfl, rfl, rfl⟩
      | true =>
        have h : ((fi ρ2).bind fun y ρ3 => (if free1 ρ3 y.2.2 then lcL (f1 y.2.1) own1 y.1 acc ρ3 else .stuck)) = .ok acc' ρ' := h
        cases h3 : fi ρ2 with
        | stuck => rw [h3] at h; cases h
        | exc _ _ => rw [h3] at h; cases h
        | ok y ρ3 =>
          rw [h3] at h
          dsimp only [Rr.bind] at h
          split at h
          · rename_i hf
            exact .inr ⟨rfl, y, ρ3, rfl, hf, h⟩
          · cases h
theorem lcL_cons {f : Rw.D → Env → Rr (Option Rw.D)} {own : List Nat} {x : Rw.D} {xs acc acc' : List Rw.D} (h : lcL f own (x :: xs) acc ρ = .ok acc' ρ') : ∃ o ρ1, f x (wipeE ρ own) = .ok o ρ1 ∧ (o ≠ none → acc.length < line) ∧ lcL f own xs (match o with | some y => acc ++ [y] | none => acc) ρ1 = .ok acc' ρ' := by
  rw [lcL] at h
  cases hf : f x (wipeE ρ own) with
  | exc x ρ' => rw [hf] at h; cases h
  | stuck => rw [hf] at h; cases h
  | ok o ρ1 =>
    rw [hf] at h
    refine ⟨o, ρ1, rfl, ?_⟩
    cases o with
    | none => exact ⟨fun z => (z rfl).elim, h⟩
    | some y =>
      have h : (if acc.length < line then lcL f own xs (acc ++ [y]) ρ1 else .stuck) = .ok acc' ρ' := h
      split at h
      · rename_i hl; exact ⟨fun _ => hl, h⟩
      · cases h
theorem free1_fp (S : SI K A₀ A σ H ρ fp) {k : Option Nat} (h : free1 ρ k = true) {j : Nat} {a : Addr} (hj : k = some j) (ha : a ∈ fp j) : False := by
  subst hj
  have so := S.sl j
  unfold free1 at h
  dsimp only at h
  cases es : slot ρ j with
  | un => rw [es] at so; rw [show fp j = [] from so] at ha; cases ha
  | fz d => rw [es] at so; rw [so.1] at ha; cases ha
  | bw d => rw [es] at so; rw [so.1] at ha; cases ha
  | ow d =>
    have e := get_slot (ρ := ρ) (i := j) (by rw [es]; intro z; cases z)
    rw [es] at e
    rw [e] at h; cases h
  | mw d =>
    have e := get_slot (ρ := ρ) (i := j) (by rw [es]; intro z; cases z)
    rw [es] at e
    rw [e] at h; cases h
theorem rd_lc2 {own own1 : List Nat} {t t1 : Tg} {it it1 : It} {c c1 : Option Ex} {e : Ex} (ht : ∀ j ∈ tgN t, j ∈ own) (ht1 : ∀ j ∈ tgN t1, j ∈ own1) : ∀ σ H Q, tE K mg W F (.lc2 own t it c own1 t1 it1 c1 e) σ H Q →
    tLc2 (tI K mg W F it) (gT K t) (tC1 K mg F c) (tI K mg NoW F it1) (gT K t1) (tC1 K mg F c1) (tE K mg NoW F e) own own1 σ H Q := fun σ H Q ⟨A₀, A, ρ, fp, S, h⟩ => by
  rw [evE] at h
  split at h
  rotate_left
  · exact ⟨A₀, A, ρ, fp, S, h.elim⟩
  rename_i ho
  have ho : ∀ v ∈ own1, v ∈ own := fun v hv => by simpa using List.all_eq_true.mp ho v hv
  refine ⟨A₀, A, ρ, fp, S, h.seq.imp (fun x ρ₁ _ h => ?_) fun _ _ h => h⟩
  obtain ⟨xs, bz, k⟩ := x
  dsimp only at h
  intro J H₁ A₁ fp₁ g₁ iok Dr hD
  obtain ⟨Sl, subl⟩ := g₁.si.lock k
  let G : Rr (List Rw.D) → Prop := fun r => (r.calm.bind fun ys ρ2 => match (backE ρ₁ ρ2 own).bind (Rw.unlock ρ₁ k) with
    | some ρ3 => Rr.ok (Opd.ow (.lst true ys)) ρ3
    | none => .stuck).all (fun o ρ' => ∀ v H' A' fp', EOk K A₀ A fp σ H (pureE (.lc2 own t it c own1 t1 it1 c1 e)) ρ' H' A' fp' → OpdOk K H' A A' (Bs A' fp') σ v o → Q v H') (XPost K mg A₀ A fp σ H W)
  let f1 := fun (bz1 : Bool) => lcT t1 bz1 (fun ρ => evC F c1 ρ) fun ρ => evE F e ρ
  let f := lc2T t bz (fun ρ => evC F c ρ) (fun ρ => evI F it1 ρ) f1 own1
  let pu := pureO c && (pureI it1 && (pureO c1 && pureE e))
  have hpu : pu = true → pureO c = true ∧ pureI it1 = true ∧ pureO c1 = true ∧ pureE e = true := fun z => by
    have z : (pureO c && (pureI it1 && (pureO c1 && pureE e))) = true := z
    rw [Bool.and_eq_true, Bool.and_eq_true, Bool.and_eq_true] at z
    exact z
  let MI := fun (x : List Rw.D) (H : Hp) (ρ2 : Env) => ∃ A2 fp2 q, Mid K (plusL A₀ (lockL ρ₁ fp₁ k)) (plusL A₁ (lockL ρ₁ fp₁ k)) (plusL A₁ (lockL ρ₁ fp₁ k)) H₁ (lockF ρ₁ fp₁ k) Dr pu (.lst true x) (L2.wipe σ own) H (wipeE ρ2 own) A2 fp2 q
  refine ⟨fun i m H => i ≤ xs.length ∧ m = xs.length - i ∧ ∃ x ρ2, MI x H ρ2 ∧ PinX (fun j => j ∈ own) (Rw.lock ρ₁ k) ρ2 ∧ G (lc2L f own (xs.drop i) x ρ2), ⟨xs.length, Nat.zero_le _, rfl, [], Rw.lock ρ₁ k, ?_, .refl, h⟩, ?_⟩
  · obtain ⟨A2, fp2, M⟩ := Mid.start (pu := pu) Sl hD (ob := .lst []) (d := .lst true []) (fun B => .lo upd_same .nil) own
    exact ⟨A2, fp2, [], M⟩
  · rintro i m H2 ⟨hi, hm, acc, ρ2, ⟨A2, fp2, q, M⟩, hpin, hG⟩
    have ne : ∀ {a o}, H₁ a = some o → a ≠ Dr := fun e z => by rw [z, hD] at e; cases e
    obtain ⟨k1, k2, k3⟩ := iok H2 (Bs A2 fp2) (fun a o e pa => prot_mid g₁.si (fun a o e n => M.k a o e (ne e) n) a o e pa.1) (fun a o e n => M.k a o e (ne e) fun j z => n (subl a (.inr ⟨j, z⟩))) (fun a b => (M.b a b).imp (subl a) id) fun a b => by
      obtain ⟨o, eo⟩ := M.si.bs b
      rw [eo]; exact fun z => nomatch z
    by_cases hie : i = xs.length
    · refine .inl ⟨by rw [hie]; exact k2, ?_⟩
      rw [hie, List.drop_length] at hG
      have hG : (match (backE ρ₁ ρ2 own).bind (Rw.unlock ρ₁ k) with
        | some ρ3 => Rr.ok (Opd.ow (.lst true acc)) ρ3
        | none => .stuck).all _ _ := hG
      split at hG
      · rename_i ρ3 hb
        cases e1 : backE ρ₁ ρ2 own with
        | none => rw [e1] at hb; cases hb
        | some ρ' =>
          rw [e1] at hb
          obtain ⟨A4, fp4, g4, ok⟩ := M.fin S g₁ hD hpin e1 hb (pr := pureE (.lc2 own t it c own1 t1 it1 c1 e)) fun z => by rw [pureE, Bool.and_eq_true] at z; exact z
          exact hG (.ref Dr) H2 A4 fp4 g4 ok
      · exact hG.elim
    · have hlt : i < xs.length := by omega
      refine .inr ⟨k1 i hlt, fun H' => ∃ x ρ2, MI x H' ρ2 ∧ PinX (fun j => j ∈ own) (Rw.lock ρ₁ k) ρ2 ∧ G (lc2L f own (xs.drop (i + 1)) x ρ2), fun H' h' => ⟨xs.length - (i + 1), by omega, by omega, rfl, h'⟩, fun x H' hy => ?_⟩
      obtain ⟨kH, rv⟩ := k3 i x H' hlt hy
      rw [List.drop_eq_getElem_cons hlt, lc2L] at hG
      have hok : ∃ o ρ', f xs[i] acc (wipeE ρ2 own) = .ok o ρ' := by
        cases hf : f xs[i] acc (wipeE ρ2 own) with
        | ok o ρ' => exact ⟨o, ρ', rfl⟩
        | exc x ρ' => rw [hf] at hG; exact hG.elim
        | stuck => rw [hf] at hG; exact hG.elim
      obtain ⟨acc', ρ', hf⟩ := hok
      rw [hf] at hG
      have hG : G (lc2L f own (xs.drop (i + 1)) acc' ρ') := hG
      have hpin' : PinX (fun j => j ∈ own) (Rw.lock ρ₁ k) ρ' := by
        have h1 : (f xs[i] acc (wipeE ρ2 own)).pin (fun j => j ∈ own) (wipeE ρ2 own) := lc2T_pin0 ho (fun ρ => evC_pin F c ρ) (fun ρ => evI_pin F it1 ρ) (fun b x ρ => lcT_pin)
        rw [hf] at h1
        exact (hpin.trans (PinX.wipe fun v hv => hv)).trans h1
      have M' := M.mv (M.si.held (fun a o e _ => kH a o e) fun a h => by
        obtain ⟨o, eo⟩ := M.si.tr a h
        exact ⟨o, kH a o eo⟩) ⟨fun _ h => h, fun a o e _ => kH a o e, fun a b => .inl b⟩ fun _ => kH
      have hN : ∀ {H5 : Hp} {A5 : Addr → Prop} {fp5 : Nat → List Addr} {q5 : List Addr} {σ5 : L2.St} {ρ5 : Env}, L2.wipe σ5 own = L2.wipe σ own → wipeE ρ5 own = wipeE ρ' own →
          Mid K (plusL A₀ (lockL ρ₁ fp₁ k)) (plusL A₁ (lockL ρ₁ fp₁ k)) (plusL A₁ (lockL ρ₁ fp₁ k)) H₁ (lockF ρ₁ fp₁ k) Dr pu (.lst true acc') σ5 H5 ρ5 A5 fp5 q5 → ∃ x ρ2, MI x H5 ρ2 ∧ PinX (fun j => j ∈ own) (Rw.lock ρ₁ k) ρ2 ∧ G (lc2L f own (xs.drop (i + 1)) x ρ2) := fun es er M => by
        obtain ⟨fp6, M6⟩ := M.wiped own
        rw [es, er] at M6
        exact ⟨acc', ρ', ⟨_, fp6, _, M6⟩, hpin', hG⟩
      clear hG hpin' hpin h M
      obtain ⟨ρ3, b, ρ4, ha, hc, hb⟩ := lc2T_ok hf
      refine gT_mono t (gT_only t (gT_ok (Q := fun σ' H3 => H3 = H' ∧ ∃ fp3, TgOk K (plusL A₀ (lockL ρ₁ fp₁ k)) A2 fp2 (L2.wipe σ own) H' (wipeE ρ2 own) [] σ' ρ3 fp3) t M'.si rv .nil (fun _ z => nomatch z) (fun _ => rfl) ha fun σ' fp3 T => ⟨rfl, fp3, T⟩)) ?_
      rintro σ3 H3 ⟨⟨rfl, fp3, T⟩, _, hl3, ho3⟩
      have hw3 : L2.wipe σ3 own = L2.wipe σ own := (wipe_eq hl3 fun j hj => ho3 j fun z => hj (ht j z)).trans wipe_wipe
      refine ⟨hw3, ?_⟩
      have eA : (fun a => A2 a ∧ a ∉ ([] : List Addr)) = A2 := by funext a; simp
      have S3 := T.si
      rw [eA] at S3
      have M3 := M'.mv S3 ⟨fun _ h => h, fun _ _ e _ => e, fun a b => .inl (T.b a (by rw [eA]; exact b))⟩ fun _ _ _ e => e
      refine rd_cnd S3 hc fun H4 A4 fp4 g4 => ?_
      have M4 := M3.mv g4.si g4.tr fun z => g4.kp (hpu z).1
      rcases hb with ⟨rfl, rfl, rfl⟩ | ⟨rfl, ⟨ys, bz1, j1⟩, ρ5, hi1, hfree, hin⟩
      · rw [if_neg Bool.false_ne_true]
        exact hN hw3 rfl M4
      · rw [if_pos rfl]
        refine ⟨_, A4, ρ4, fp4, g4.si, ?_⟩
        have hi1 : evI F it1 ρ4 = .ok (ys, bz1, j1) ρ5 := hi1
        rw [hi1]
        intro J1 H5 A5 fp5 g5 iok1
        have M5 := M4.mv g5.si g5.tr fun z => g5.kp (hpu z).2.1
        have B5 := M5.base
        refine ⟨fun j m H => j ≤ ys.length ∧ m = ys.length - j ∧ ∃ x ρ6, (∃ A6 fp6 q6, Mid K (plusL A₀ (lockL ρ₁ fp₁ k)) (plusL A₁ (lockL ρ₁ fp₁ k)) A5 H5 fp5 Dr pu (.lst true x) (L2.wipe σ3 own1) H (wipeE ρ6 own1) A6 fp6 q6) ∧ lcL (f1 bz1) own1 (ys.drop j) x ρ6 = .ok acc' ρ', ⟨ys.length, Nat.zero_le _, rfl, acc, ρ5, ?_, hin⟩, ?_⟩
        · obtain ⟨fp6, M6⟩ := B5.wiped own1
          exact ⟨_, fp6, _, M6⟩
        · rintro j m H6 ⟨hj, hm, x6, ρ6, ⟨A6, fp6, q6, N⟩, hin6⟩
          have neD : A4 Dr ∧ ¬ plusL A₀ (lockL ρ₁ fp₁ k) Dr := ⟨M4.own, M4.n0⟩
          obtain ⟨l1, l2, l3⟩ := iok1 H6 (Bs A6 fp6) (fun a o e pa => N.k a o e (fun z => by rw [z] at pa; exact neD.2 (pa.2 neD.1)) fun j z => free1_fp g5.si hfree (pa.1 j z) z) (fun a o e n => N.k a o e (fun z => n (by rw [z]; exact .inl M5.own)) fun j z => n (.inr ⟨j, z⟩)) (fun a b => N.b a b) fun a b => by
            obtain ⟨o, eo⟩ := N.si.bs b
            rw [eo]; exact fun z => nomatch z
          by_cases hje : j = ys.length
          · refine .inl ⟨by rw [hje]; exact l2, ?_⟩
            rw [hje, List.drop_length, lcL] at hin6
            cases hin6
            exact hN ((wipe_eq (wipe_length _ _) fun j hj => wipe_out fun z => hj (ho j z)).trans hw3) (wipeE_eq wipeE_length fun j hj => wipeE_out fun z => hj (ho j z)) (M5.trans N)
          · have hjt : j < ys.length := by omega
            refine .inr ⟨l1 j hjt, fun H' => ∃ x ρ6, (∃ A6 fp6 q6, Mid K (plusL A₀ (lockL ρ₁ fp₁ k)) (plusL A₁ (lockL ρ₁ fp₁ k)) A5 H5 fp5 Dr pu (.lst true x) (L2.wipe σ3 own1) H' (wipeE ρ6 own1) A6 fp6 q6) ∧ lcL (f1 bz1) own1 (ys.drop (j + 1)) x ρ6 = .ok acc' ρ', fun H' h' => ⟨ys.length - (j + 1), by omega, by omega, rfl, h'⟩, fun x H' hy => ?_⟩
            obtain ⟨kH, rv⟩ := l3 j x H' hjt hy
            rw [List.drop_eq_getElem_cons hjt] at hin6
            obtain ⟨o, ρ7, hf7, hl7, hin7⟩ := lcL_cons hin6
            have N' := N.mv (N.si.held (fun a o e _ => kH a o e) fun a h => by
              obtain ⟨o, eo⟩ := N.si.tr a h
              exact ⟨o, kH a o eo⟩) ⟨fun _ h => h, fun a o e _ => kH a o e, fun a b => .inl b⟩ fun _ => kH
            exact lc_turn ht1 N' rv (fun z => (hpu z).2.2) hf7 hl7 fun H8 A8 fp8 q8 M8 => ⟨_, ρ7, ⟨A8, fp8, q8, M8⟩, hin7⟩
/-- {k: v for target in iter if ..}, keys of any class: D the new dict -/
def tDcX (K : KW) (wi : TI) (g : TG) (tt : TT) (tk tv : TE) (vs : List Nat) : TE := fun σ H Q => wi σ H fun J H1 => ∀ D, H1 D = none → ∃ P : Nat → Nat → Hp → Prop, (∃ m, P 0 m (upd H1 D (.dK []))) ∧ ∀ i m H, P i m H →
  (J.stop i H ∧ Q (.ref D) H) ∨ (J.go i H ∧ ∃ N : Hp → Prop, (∀ H', N H' → ∃ m', m' < m ∧ P (i + 1) m' H') ∧ ∀ x H', J.yld i H x H' → g x (L2.wipe σ vs) H' fun σ2 H2 => L2.wipe σ2 vs = L2.wipe σ vs ∧ tt σ2 H2 fun b H3 =>
    if b = true then tk σ2 H3 fun y H4 => tv σ2 H4 fun z H5 => rSetDc K (.ref D) y z H5 N else N H3)
theorem dcT_ok {t : Tg} {bz : Bool} {fc : Env → Rr Bool} {fk fv : Env → Rr Opd} {x : Rw.D} {o : Option (Rw.D × Rw.D)} (h : dcT t bz fc fk fv x ρ = .ok o ρ') : ∃ ρ1 b ρ2, asgT t bz x ρ = some ρ1 ∧ fc ρ1 = .ok b ρ2 ∧ ((b = false ∧ o = none ∧ ρ' = ρ2) ∨ (b = true ∧ ∃ k ρ3 u ρ4 u', fk ρ2 = .ok (.fz k) ρ3 ∧ fv ρ3 = .ok u ρ4 ∧ alias_ ρ4 u = some (u', ρ') ∧ o = some (k, freeze u'.val))) := by
  unfold dcT at h
  split at h
  · cases h
  · rename_i ρ1 h1
    cases h2 : fc ρ1 with
    | stuck => rw [h2] at h; cases h
    | exc _ _ => rw [h2] at h; cases h
    | ok b ρ2 =>
      rw [h2] at h
      refine ⟨ρ1, b, ρ2, h1, h2, ?_⟩
      cases b with
      | false => cases h; exact .inl ⟨rfl, rfl, rfl⟩
      | true =>
        have h : ((fk ρ2).bind fun o ρ3 => (match o with
          | .fz k => (fv ρ3).bind fun u ρ4 => (match alias_ ρ4 u with
            | some (u', ρ5) => .ok (some (k, freeze u'.val)) ρ5
            | none => .stuck)
          | _ => .stuck)) = .ok o ρ' := h
        cases h3 : fk ρ2 with
        | stuck => rw [h3] at h; cases h
        | exc _ _ => rw [h3] at h; cases h
        | ok k ρ3 =>
          rw [h3] at h
          cases k with
          | ow _ => cases h
          | pt _ _ => cases h
          | fz k =>
            have h : ((fv ρ3).bind fun u ρ4 => (match alias_ ρ4 u with
              | some (u', ρ5) => Rr.ok (some (k, freeze u'.val)) ρ5
              | none => .stuck)) = .ok o ρ' := h
            cases h4 : fv ρ3 with
            | stuck => rw [h4] at h; cases h
            | exc _ _ => rw [h4] at h; cases h
            | ok u ρ4 =>
              rw [h4] at h
              dsimp only [Rr.bind] at h
              split at h
              · rename_i u' ρ5 h5
                cases h
                exact .inr ⟨rfl, k, ρ3, u, ρ4, u', rfl, h4, h5, rfl⟩
              · cases h
theorem rd_dc {own : List Nat} {t : Tg} {it : It} {c : Option Ex} {ek ev : Ex} (ht : ∀ j ∈ tgN t, j ∈ own) : ∀ σ H Q, tE K mg W F (.dc own t it c ek ev) σ H Q → tDcX K (tI K mg W F it) (gT K t) (tC1 K mg F c) (tE K mg NoW F ek) (tE K mg NoW F ev) own σ H Q := fun σ H Q ⟨A₀, A, ρ, fp, S, h⟩ => by
  rw [evE] at h
  refine ⟨A₀, A, ρ, fp, S, h.seq.imp (fun x ρ₁ _ h => ?_) fun _ _ h => h⟩
  obtain ⟨xs, bz, k⟩ := x
  dsimp only at h
  intro J H₁ A₁ fp₁ g₁ iok Dr hD
  obtain ⟨Sl, subl⟩ := g₁.si.lock k
  let G : Rr (List (Rw.D × Rw.D)) → Prop := fun r => (r.calm.bind fun ys ρ2 => match (backE ρ₁ ρ2 own).bind (Rw.unlock ρ₁ k) with
    | some ρ3 => Rr.ok (Opd.ow (.dct true ys)) ρ3
    | none => .stuck).all (fun o ρ' => ∀ v H' A' fp', EOk K A₀ A fp σ H (pureE (.dc own t it c ek ev)) ρ' H' A' fp' → OpdOk K H' A A' (Bs A' fp') σ v o → Q v H') (XPost K mg A₀ A fp σ H W)
  let f := dcT t bz (fun ρ => evC F c ρ) (fun ρ => evE F ek ρ) fun ρ => evE F ev ρ
  let pu := pureO c && (pureE ek && pureE ev)
  have hpu : pu = true → pureO c = true ∧ pureE ek = true ∧ pureE ev = true := fun z => by
    have z : (pureO c && (pureE ek && pureE ev)) = true := z
    rw [Bool.and_eq_true, Bool.and_eq_true] at z
    exact z
  let MI := fun (x : List (Rw.D × Rw.D)) (H : Hp) (ρ2 : Env) => ∃ A2 fp2, Mid K (plusL A₀ (lockL ρ₁ fp₁ k)) (plusL A₁ (lockL ρ₁ fp₁ k)) (plusL A₁ (lockL ρ₁ fp₁ k)) H₁ (lockF ρ₁ fp₁ k) Dr pu (.dct true x) (L2.wipe σ own) H (wipeE ρ2 own) A2 fp2 []
  refine ⟨fun i m H => i ≤ xs.length ∧ m = xs.length - i ∧ ∃ x ρ2, MI x H ρ2 ∧ PinX (fun j => j ∈ own) (Rw.lock ρ₁ k) ρ2 ∧ G (dcL f own (xs.drop i) x ρ2), ⟨xs.length, Nat.zero_le _, rfl, [], Rw.lock ρ₁ k, ?_, .refl, h⟩, ?_⟩
  · obtain ⟨A2, fp2, M⟩ := Mid.start (pu := pu) Sl hD (ob := .dK []) (d := .dct true []) (fun B => .dw (as := []) (vs := []) (.inl ⟨upd_same, rfl, rfl, fun _ z => nomatch z⟩) .nil .nil) own
    exact ⟨A2, fp2, M⟩
  · rintro i m H2 ⟨hi, hm, acc, ρ2, ⟨A2, fp2, M⟩, hpin, hG⟩
    have ne : ∀ {a o}, H₁ a = some o → a ≠ Dr := fun e z => by rw [z, hD] at e; cases e
    obtain ⟨k1, k2, k3⟩ := iok H2 (Bs A2 fp2) (fun a o e pa => prot_mid g₁.si (fun a o e n => M.k a o e (ne e) n) a o e pa.1) (fun a o e n => M.k a o e (ne e) fun j z => n (subl a (.inr ⟨j, z⟩))) (fun a b => (M.b a b).imp (subl a) id) fun a b => by
      obtain ⟨o, eo⟩ := M.si.bs b
      rw [eo]; exact fun z => nomatch z
    by_cases hie : i = xs.length
    · refine .inl ⟨by rw [hie]; exact k2, ?_⟩
      rw [hie, List.drop_length] at hG
      have hG : (match (backE ρ₁ ρ2 own).bind (Rw.unlock ρ₁ k) with
        | some ρ3 => Rr.ok (Opd.ow (.dct true acc)) ρ3
        | none => .stuck).all _ _ := hG
      split at hG
      · rename_i ρ3 hb
        cases e1 : backE ρ₁ ρ2 own with
        | none => rw [e1] at hb; cases hb
        | some ρ' =>
          rw [e1] at hb
          obtain ⟨A4, fp4, g4, ok⟩ := M.fin S g₁ hD hpin e1 hb (pr := pureE (.dc own t it c ek ev)) fun z => by rw [pureE, Bool.and_eq_true] at z; exact z
          exact hG (.ref Dr) H2 A4 fp4 g4 ok
      · exact hG.elim
    · have hlt : i < xs.length := by omega
      refine .inr ⟨k1 i hlt, fun H' => ∃ x ρ2, MI x H' ρ2 ∧ PinX (fun j => j ∈ own) (Rw.lock ρ₁ k) ρ2 ∧ G (dcL f own (xs.drop (i + 1)) x ρ2), fun H' h' => ⟨xs.length - (i + 1), by omega, by omega, rfl, h'⟩, fun x H' hy => ?_⟩
      obtain ⟨kH, rv⟩ := k3 i x H' hlt hy
      rw [List.drop_eq_getElem_cons hlt, dcL] at hG
      have hok : ∃ o ρ', f xs[i] (wipeE ρ2 own) = .ok o ρ' := by
        cases hf : f xs[i] (wipeE ρ2 own) with
        | ok o ρ' => exact ⟨o, ρ', rfl⟩
        | exc x ρ' => rw [hf] at hG; exact hG.elim
        | stuck => rw [hf] at hG; exact hG.elim
      obtain ⟨o, ρ', hf⟩ := hok
      rw [hf] at hG
      have hpin' : PinX (fun j => j ∈ own) (Rw.lock ρ₁ k) ρ' := by
        have h1 : (f xs[i] (wipeE ρ2 own)).pin (fun j => j ∈ own) (wipeE ρ2 own) := dcT_pin0 (fun ρ => evC_pin F c ρ) (fun ρ => evE_pin F ek ρ) fun ρ => evE_pin F ev ρ
        rw [hf] at h1
        exact (hpin.trans (PinX.wipe fun v hv => hv)).trans h1
      have M' := M.mv (M.si.held (fun a o e _ => kH a o e) fun a h => by
        obtain ⟨o, eo⟩ := M.si.tr a h
        exact ⟨o, kH a o eo⟩) ⟨fun _ h => h, fun a o e _ => kH a o e, fun a b => .inl b⟩ fun _ => kH
      obtain ⟨ρ3, b, ρ4, ha, hc, hb⟩ := dcT_ok hf
      refine gT_mono t (gT_only t (gT_ok (Q := fun σ' H3 => H3 = H' ∧ ∃ fp3, TgOk K (plusL A₀ (lockL ρ₁ fp₁ k)) A2 fp2 (L2.wipe σ own) H' (wipeE ρ2 own) [] σ' ρ3 fp3) t M'.si rv .nil (fun _ z => nomatch z) (fun _ => rfl) ha fun σ' fp3 T => ⟨rfl, fp3, T⟩)) ?_
      rintro σ3 H3 ⟨⟨rfl, fp3, T⟩, _, hl3, ho3⟩
      have hw3 : L2.wipe σ3 own = L2.wipe σ own := (wipe_eq hl3 fun j hj => ho3 j fun z => hj (ht j z)).trans wipe_wipe
      refine ⟨hw3, ?_⟩
      have eA : (fun a => A2 a ∧ a ∉ ([] : List Addr)) = A2 := by funext a; simp
      have S3 := T.si
      rw [eA] at S3
      have M3 := M'.mv S3 ⟨fun _ h => h, fun _ _ e _ => e, fun a b => .inl (T.b a (by rw [eA]; exact b))⟩ fun _ _ _ e => e
      refine rd_cnd S3 hc fun H4 A4 fp4 g4 => ?_
      have M4 := M3.mv g4.si g4.tr fun z => g4.kp (hpu z).1
      rcases hb with ⟨rfl, rfl, rfl⟩ | ⟨rfl, kd, ρ5, u, ρ6, u', hk1, hu1, hu2, rfl⟩
      · rw [if_neg Bool.false_ne_true]
        obtain ⟨fp6, M6⟩ := M4.wiped own
        rw [hw3] at M6
        exact ⟨acc, ρ', ⟨_, fp6, M6⟩, hpin', hG⟩
      · rw [if_pos rfl]
        have hG : G (match dPut acc kd (freeze u'.val) with
          | some acc' => dcL f own (xs.drop (i + 1)) acc' ρ'
          | none => .stuck) := hG
        cases hp : dPut acc kd (freeze u'.val) with
        | none => rw [hp] at hG; exact hG.elim
        | some acc' =>
        rw [hp] at hG
        refine ⟨_, A4, ρ4, fp4, g4.si, ?_⟩
        have hk1 : evE F ek ρ4 = .ok (.fz kd) ρ5 := hk1
        rw [hk1]
        intro y H5 A5 fp5 g5 ok5
        obtain ⟨q5, ⟨e5, r5⟩, _⟩ := ok5
        have M5 := M4.mv g5.si g5.tr fun z => g5.kp (hpu z).2.1
        refine ⟨_, A5, ρ5, fp5, g5.si, ?_⟩
        have hu1 : evE F ev ρ5 = .ok u ρ6 := hu1
        rw [hu1]
        intro z H6 A6 fp6 g6 ok6
        obtain ⟨qv, ro, ndv, hqv⟩ := ok6
        obtain ⟨fp7, S7, s7, r7, n7⟩ := alias_ok g6.si ro hu2
        have M7 := (M5.mv g6.si g6.tr fun z => g6.kp (hpu z).2.2).mv S7 ⟨fun _ h => h, fun _ _ e _ => e, fun a b => .inl (s7 a b)⟩ fun _ _ _ e => e
        have rv7 : Rp K H6 (Bs A6 fp7) z u'.val qv := by
          cases u' with
          | fz d => obtain ⟨e0, r0⟩ := r7; rw [e0]; exact r0
          | ow d => exact r7
          | pt i0 p0 => exact (n7 i0 p0 rfl).elim
        have rk7 : Rp K H6 (Bs A6 fp7) y kd [] := (r5.keep g5.si (fun _ z => nomatch z) g6.tr).mono (fun _ _ e _ => e) fun a b => .inl (s7 a b)
        obtain ⟨as, vs, t1, l1, m1, fin⟩ := M7.put rk7 rv7 (fun x z => ⟨fun h => (hqv x z).2 (M5.a x h), fun h => (hqv x z).2 (by rw [h]; exact M5.own), (hqv x z).1⟩) hp
        refine ⟨Bs A6 fp7, Dr, acc, acc', as, vs, kd, freeze u'.val, [], rfl, t1, l1, m1, rk7, hp, fun ob hob => ?_⟩
        obtain ⟨fp8, M8⟩ := (fin ob hob).wiped own
        rw [hw3] at M8
        exact ⟨acc', ρ', ⟨_, fp8, M8⟩, hpin', hG⟩
end
end
end Rw

set_option Elab.async false
set_option linter.all false
set_option maxRecDepth 100000
/-! RwM: statements. -/
namespace Rw
open PySem PySem.Spec PyProof.Rows L2
theorem PinX.none {ρ ρ' : Env} (h : PinX (fun _ => False) ρ ρ') : Pin ρ ρ' := ⟨h.1, fun j => h.2 j id⟩
theorem Pin.keep {ρ ρ' : Env} (h : Pin ρ ρ') {j : Nat} (hj : (slot ρ j).pin = true) : (slot ρ' j).pin = true := by
  cases e : slot ρ j with
  | bw d => rw [((h.2 j).1 d).mp e] <;> rfl
  | mw d => obtain ⟨d', e'⟩ := (h.2 j).2 d e; rw [e'] <;> rfl
  | un => rw [e] at hj; cases hj
  | fz d => rw [e] at hj; cases hj
  | ow d => rw [e] at hj; cases hj
section
variable {K : KW} {mg : Str → Option Value} {A₀ A A' A₁ : Addr → Prop} {σ σ' σ₁ : L2.St} {H H' H₁ : Hp} {ρ ρ' ρ₁ : Env} {fp fp' fp₁ : Nat → List Addr} {W : WX} {F : Fn} {e : Ex} {p : Bool} {sub : Str → Str → Option Bool} {N : Nat}
/-- how a statement may leave the state -/
structure SOk (K : KW) (A₀ A : Addr → Prop) (fp : Nat → List Addr) (σ : L2.St) (H : Hp) (ρ ρ' : Env) (σ' : L2.St) (H' : Hp) (A' : Addr → Prop) (fp' : Nat → List Addr) : Prop where
  si : SI K A₀ A' σ' H' ρ' fp'
  tr : Tr A fp H A' fp' H'
  look : ∀ j, (slot ρ j).pin = true → look σ' j = look σ j
  pin : Pin ρ ρ'
theorem SOk.refl (S : SI K A₀ A σ H ρ fp) : SOk K A₀ A fp σ H ρ ρ σ H A fp := ⟨S, .refl, fun _ _ => rfl, .refl⟩
theorem SOk.trans (S : SI K A₀ A σ H ρ fp) (h : SOk K A₀ A fp σ H ρ ρ₁ σ₁ H₁ A₁ fp₁) (g : SOk K A₀ A₁ fp₁ σ₁ H₁ ρ₁ ρ' σ' H' A' fp') : SOk K A₀ A fp σ H ρ ρ' σ' H' A' fp' :=
  ⟨g.si, h.tr.trans S h.si g.tr, fun j hj => (g.look j (h.pin.keep hj)).trans (h.look j hj), h.pin.trans g.pin⟩
theorem SOk.ofE (S : SI K A₀ A σ H ρ fp) (g : EOk K A₀ A fp σ H p ρ' H' A' fp') (hp : Pin ρ ρ') : SOk K A₀ A fp σ H ρ ρ' σ H' A' fp' := ⟨g.si, g.tr, fun _ _ => rfl, hp⟩
theorem SOk.drop (S : SI K A₀ A σ H ρ fp) (g : SOk K A₀ A fp σ H ρ ρ' σ' H' A' fp') : SOk K A₀ A fp σ H ρ ρ' σ' H' A fp' := ⟨g.si.drop S.sub g.tr.a, g.tr.dropA g.tr.a, g.look, g.pin⟩
/-- what a statement's outcome is to give -/
def oAll (K : KW) (mg : Str → Option Value) (A₀ A : Addr → Prop) (fp : Nat → List Addr) (σ : L2.St) (H : Hp) (ρ : Env) (W : WX) (D : Ends) : Out → Prop
  | .nx ρ' => ∀ σ' H' fp', SOk K A₀ A fp σ H ρ ρ' σ' H' A fp' → D.nx σ' H'
  | .bk ρ' => ∀ σ' H' fp', SOk K A₀ A fp σ H ρ ρ' σ' H' A fp' → D.bk σ' H'
  | .ct ρ' => ∀ σ' H' fp', SOk K A₀ A fp σ H ρ ρ' σ' H' A fp' → D.ct σ' H'
  | .rt d ρ' => ∀ v σ' H' A' fp', SOk K A₀ A fp σ H ρ ρ' σ' H' A' fp' → OpdOk K H' A A' (Bs A' fp') σ' v (opd d) → D.rt v H'
  | .exc x ρ' => ∀ cls d σ' H' fp', SOk K A₀ A fp σ H ρ ρ' σ' H' A fp' → XAt mg x cls d H' → W cls d σ' H'
  | .stuck => False
/-- seen from a later state -/
theorem oAll.later {D : Ends} {o : Out} (S : SI K A₀ A σ H ρ fp) (h : oAll K mg A₀ A fp σ H ρ W D o) (g : SOk K A₀ A fp σ H ρ ρ₁ σ₁ H₁ A fp₁) : oAll K mg A₀ A fp₁ σ₁ H₁ ρ₁ W D o := by
  cases o with
  | nx ρ' => exact fun σ' H' fp' k => h σ' H' fp' (g.trans S k)
  | bk ρ' => exact fun σ' H' fp' k => h σ' H' fp' (g.trans S k)
  | ct ρ' => exact fun σ' H' fp' k => h σ' H' fp' (g.trans S k)
  | rt d ρ' => exact fun v σ' H' A' fp' k ok => h v σ' H' A' fp' (g.trans S k) ok
  | exc x ρ' => exact fun cls d σ' H' fp' k xa => h cls d σ' H' fp' (g.trans S k) xa
  | stuck => exact h
def tS (K : KW) (mg : Str → Option Value) (W : WX) (F : Fn) (sub : Str → Str → Option Bool) (N : Nat) (s : Rw.St) : TS := fun D σ H => ∃ A₀ A ρ fp, SI K A₀ A σ H ρ fp ∧ oAll K mg A₀ A fp σ H ρ W D (evS F sub N s ρ)
def tSs (K : KW) (mg : Str → Option Value) (W : WX) (F : Fn) (sub : Str → Str → Option Bool) (N : Nat) (ss : List Rw.St) : TS := fun D σ H => ∃ A₀ A ρ fp, SI K A₀ A σ H ρ fp ∧ oAll K mg A₀ A fp σ H ρ W D (evSs F sub N ss ρ)
theorem out_all {α : Type} {r : Rr α} {f : α → Env → Out} {D : Ends} (hp : r.pin (fun _ => False) ρ) (h : oAll K mg A₀ A fp σ H ρ W D (r.out f)) : r.all (fun a ρ1 => Pin ρ ρ1 ∧ oAll K mg A₀ A fp σ H ρ W D (f a ρ1)) (XPost K mg A₀ A fp σ H W) := by
  cases r with
  | ok a ρ1 => exact ⟨hp.none, h⟩
  | exc x ρ1 => exact fun cls d H' fp' S' t' xa => h cls d σ H' fp' ⟨S', t', fun _ _ => rfl, hp.none⟩ xa
  | stuck => exact h
theorem rs_nil : ∀ D σ H, tSs K mg W F sub N [] D σ H → tNext D σ H := fun D σ H ⟨A₀, A, ρ, fp, S, h⟩ => by
  rw [evSs] at h
  exact h σ H fp (.refl S)
theorem rs_cons {s : Rw.St} {ss : List Rw.St} : ∀ D σ H, tSs K mg W F sub N (s :: ss) D σ H → tSeq (tS K mg W F sub N s) (tSs K mg W F sub N ss) D σ H := fun D σ H ⟨A₀, A, ρ, fp, S, h⟩ => by
  rw [evSs] at h
  refine ⟨A₀, A, ρ, fp, S, ?_⟩
  cases hs : evS F sub N s ρ with
  | nx ρ1 =>
    rw [hs] at h
    exact fun σ1 H1 fp1 g => ⟨A₀, A, ρ1, fp1, g.si, oAll.later S h g⟩
  | bk ρ1 => rw [hs] at h; exact h
  | ct ρ1 => rw [hs] at h; exact h
  | rt d ρ1 => rw [hs] at h; exact h
  | exc x ρ1 => rw [hs] at h; exact h
  | stuck => rw [hs] at h; exact h
theorem rs_pass : ∀ D σ H, tS K mg W F sub N .pass D σ H → tNext D σ H := fun D σ H ⟨A₀, A, ρ, fp, S, h⟩ => by
  rw [evS] at h
  exact h σ H fp (.refl S)
theorem rs_brk : ∀ D σ H, tS K mg W F sub N .brk D σ H → tBreak D σ H := fun D σ H ⟨A₀, A, ρ, fp, S, h⟩ => by
  rw [evS] at h
  exact h σ H fp (.refl S)
theorem rs_cont : ∀ D σ H, tS K mg W F sub N .cont D σ H → tCont D σ H := fun D σ H ⟨A₀, A, ρ, fp, S, h⟩ => by
  rw [evS] at h
  exact h σ H fp (.refl S)
theorem rs_retN : ∀ D σ H, tS K mg W F sub N .retN D σ H → tRetN D σ H := fun D σ H ⟨A₀, A, ρ, fp, S, h⟩ => by
  rw [evS] at h
  exact h .non σ H A fp (.refl S) (.fz .non)
theorem rs_ex {e : Ex} : ∀ D σ H, tS K mg W F sub N (.ex e) D σ H → tDrop (tE K mg W F e) D σ H := fun D σ H ⟨A₀, A, ρ, fp, S, h⟩ => by
  rw [evS] at h
  exact ⟨A₀, A, ρ, fp, S, (out_all (evE_pin F e ρ) h).imp (fun o ρ1 _ ⟨hp, h⟩ v H' A' fp' g ok => h σ H' fp' ((SOk.ofE S g hp).drop S)) fun _ _ h => h⟩
theorem rs_rse {c : Str} {cls : Value} (hc : mg c = some cls) : ∀ D σ H, tS K mg W F sub N (.rse c) D σ H → W cls none σ H := fun D σ H ⟨A₀, A, ρ, fp, S, h⟩ => by
  rw [evS] at h
  exact h cls none σ H fp (.refl S) ⟨rfl, hc⟩
/-- an operand's value, handed on for good -/
theorem alV (S : SI K A₀ A₁ σ H ρ₁ fp₁) {v : V} {o o' : Opd} (ok : OpdOk K H A A₁ (Bs A₁ fp₁) σ v o) (h : alias_ ρ₁ o = some (o', ρ')) :
    ∃ fp' q, SI K A₀ A₁ σ H ρ' fp' ∧ (∀ a, Bs A₁ fp' a → Bs A₁ fp₁ a) ∧ Rp K H (Bs A₁ fp') v o'.val q ∧ q.Nodup ∧ (∀ a ∈ q, A₁ a ∧ ¬ A a) ∧ (o'.isFz = true → q = []) := by
  obtain ⟨q, ro, nd, hq⟩ := ok
  obtain ⟨fp', S', s', r', n'⟩ := alias_ok S ro h
  refine ⟨fp', q, S', s', ?_, nd, hq, ?_⟩
  · cases o' with
    | fz d => obtain ⟨e0, r0⟩ := r'; rw [e0]; exact r0
    | ow d => exact r'
    | pt i p => exact (n' i p rfl).elim
  · cases o' with
    | fz d => exact fun _ => r'.1
    | ow d => exact fun z => by cases z
    | pt i p => exact (n' i p rfl).elim
theorem opdOk_of {d : D} {v : V} {q : List Addr} {B : Addr → Prop} (r : Rp K H B v d q) (nd : q.Nodup) (hq : ∀ a ∈ q, A' a ∧ ¬ A a) : OpdOk K H A A' B σ v (opd d) := by
  unfold opd
  split
  · rename_i hf
    have := r.fr hf
    subst this
    exact .fz r
  · exact ⟨q, r, nd, hq⟩
theorem rs_ret {e : Ex} : ∀ D σ H, tS K mg W F sub N (.ret e) D σ H → tRet (tE K mg W F e) D σ H := fun D σ H ⟨A₀, A, ρ, fp, S, h⟩ => by
  rw [evS] at h
  refine ⟨A₀, A, ρ, fp, S, (out_all (evE_pin F e ρ) h).imp (fun o ρ1 _ ⟨hp, h⟩ v H' A' fp' g ok => ?_) fun _ _ h => h⟩
  split at h
  · rename_i o' ρ2 ha
    obtain ⟨fp2, q, S2, s2, r2, nd, hq, _⟩ := alV g.si ok ha
    exact h v σ H' A' fp2 ⟨S2, ⟨g.tr.a, g.tr.k, fun a b => g.tr.b a (s2 a b)⟩, fun _ _ => rfl, hp.trans (.alias ha)⟩ (opdOk_of r2 nd hq)
  · exact h.elim
theorem rs_asg {t : Tg} {e : Ex} : ∀ D σ H, tS K mg W F sub N (.asg t e) D σ H → tAsg (tE K mg W F e) (gT K t) D σ H := fun D σ H ⟨A₀, A, ρ, fp, S, h⟩ => by
  rw [evS] at h
  refine ⟨A₀, A, ρ, fp, S, (out_all (evE_pin F e ρ) h).imp (fun o ρ1 _ ⟨hp, h⟩ v H' A' fp' g ok => ?_) fun _ _ h => h⟩
  split at h
  · rename_i o' ρ2 ha
    obtain ⟨fp2, q, S2, s2, r2, nd, hq, hz⟩ := alV g.si ok ha
    split at h
    · rename_i ρ3 hg
      have pn : Pin ρ ρ2 := hp.trans (.alias ha)
      refine gT_ok t S2 r2 nd (fun a z => ⟨(hq a z).1, fun y => (hq a z).2 (S.sub a y)⟩) hz hg fun σ' fp3 T => h σ' H' fp3 ⟨?_, ⟨fun _ h => h, g.tr.k, fun a b => g.tr.b a (s2 a (T.b a ?_))⟩, fun j hj => T.pin j (pn.keep hj), pn.trans (asgT_pin t hg)⟩
      · exact T.si.drop S.sub fun a hA => ⟨g.tr.a a hA, fun z => (hq a z).2 hA⟩
      · exact b.imp (fun hA => ⟨g.tr.a a hA, fun z => (hq a z).2 hA⟩) id
    · exact h.elim
  · exact h.elim
theorem rs_ifs {c : Ex} {a b : List Rw.St} : ∀ D σ H, tS K mg W F sub N (.ifs c a b) D σ H → tIfS (tT K mg W F c) (tSs K mg W F sub N a) (tSs K mg W F sub N b) D σ H := fun D σ H ⟨A₀, A, ρ, fp, S, h⟩ => by
  rw [evS] at h
  refine ⟨A₀, A, ρ, fp, S, (out_all (tst_pin (evE_pin F c ρ)) h).imp (fun t ρ1 _ ⟨hp, h⟩ H' A' fp' g => ?_) fun _ _ h => h⟩
  have g' := (SOk.ofE S g hp).drop S
  cases t with
  | true => exact ⟨A₀, A, ρ1, fp', g'.si, oAll.later S h g'⟩
  | false => exact ⟨A₀, A, ρ1, fp', g'.si, oAll.later S h g'⟩
/-! ### names let go of -/
theorem slot_kill : ∀ {ks : List Bool} {ρ : Env} {j : Nat}, slot (killE ks ρ) j = if ks[j]? = some true then (slot ρ j).kl else slot ρ j
  | [], ρ, j => by cases ρ <;> simp [killE]
  | b :: ks, [], j => by
    have e : slot ([] : Env) j = .un := slot_out (by simp)
    have e2 : killE (b :: ks) [] = [] := rfl
    rw [e2, e]
    split <;> rfl
  | b :: ks, s :: ρ, 0 => by cases b <;> simp [killE, slot]
  | b :: ks, s :: ρ, j + 1 => by
    have := slot_kill (ks := ks) (ρ := ρ) (j := j)
    simpa [killE, slot] using this
theorem kill_len : ∀ {ks : List Bool} {ρ : Env}, (killE ks ρ).length = ρ.length
  | [], ρ => by cases ρ <;> rfl
  | b :: ks, [] => rfl
  | b :: ks, s :: ρ => by simp [killE, kill_len]
theorem Pin.kill {ks : List Bool} : Pin ρ (killE ks ρ) := ⟨kill_len, fun j => by
  rw [slot_kill]
  split
  · cases slot ρ j <;> simp [Slot.kl]
  · exact ⟨fun d => .rfl, fun d h => ⟨d, h⟩⟩⟩
def fpK (ks : List Bool) (ρ : Env) (fp : Nat → List Addr) (j : Nat) : List Addr := if ks[j]? = some true ∧ (slot ρ j).pin = false then [] else fp j
theorem SOk.kill (S : SI K A₀ A σ H ρ fp) (ks : List Bool) : SOk K A₀ A fp σ H ρ (killE ks ρ) σ H A (fpK ks ρ fp) := by
  have le : ∀ j a, a ∈ fpK ks ρ fp j → a ∈ fp j := fun j a h => by
    unfold fpK at h
    split at h
    · cases h
    · exact h
  have sub : ∀ a, Bs A (fpK ks ρ fp) a → Bs A fp a := fun a b => b.imp id fun ⟨j, h⟩ => ⟨j, le j a h⟩
  refine ⟨⟨by rw [kill_len]; exact S.len, S.sub, fun j => ?_, fun i j a h1 h2 => S.dj i j a (le i a h1) (le j a h2), fun i a h => S.na i a (le i a h), S.tr, fun j => ?_⟩, ⟨fun _ h => h, fun _ _ e _ => e, fun a b => .inl (sub a b)⟩, fun _ _ => rfl, .kill⟩
  · unfold fpK; split
    · exact .nil
    · exact S.nd j
  · have so := S.sl j
    rw [slot_kill]
    unfold fpK
    by_cases h1 : ks[j]? = some true
    · rw [if_pos h1]
      cases es : slot ρ j with
      | un => rw [if_pos ⟨h1, rfl⟩]; exact rfl
      | fz d => rw [if_pos ⟨h1, rfl⟩]; exact rfl
      | ow d => rw [if_pos ⟨h1, rfl⟩]; exact rfl
      | bw d => rw [if_neg (fun z => by cases z.2)]; rw [es] at so; exact so.mono (fun _ _ e _ => e) fun a b => .inl (sub a b)
      | mw d => rw [if_neg (fun z => by cases z.2)]; rw [es] at so; exact so.mono (fun _ _ e _ => e) fun a b => .inl (sub a b)
    · rw [if_neg h1, if_neg (fun z => h1 z.1)]
      exact so.mono (fun _ _ e _ => e) fun a b => .inl (sub a b)
theorem mp_all {D : Ends} {o : Out} {ks : List Bool} (S : SI K A₀ A σ H ρ fp) (h : oAll K mg A₀ A fp σ H ρ W D (o.mp ks)) : oAll K mg A₀ A fp σ H ρ W D o := by
  cases o with
  | nx ρ' => exact fun σ' H' fp' g => h σ' H' _ (g.trans S (SOk.kill g.si ks))
  | bk ρ' => exact fun σ' H' fp' g => h σ' H' _ (g.trans S (SOk.kill g.si ks))
  | ct ρ' => exact fun σ' H' fp' g => h σ' H' _ (g.trans S (SOk.kill g.si ks))
  | rt d ρ' => exact h
  | exc x ρ' => exact h
  | stuck => exact h
/-- a turn's outcome, within the loop -/
theorem turn_all {D : Ends} {o : Out} {ks : List Bool} {k : Env → Out} (S : SI K A₀ A σ H ρ fp) (h : oAll K mg A₀ A fp σ H ρ W D (match o.mp ks with
      | .nx ρ' => k ρ'
      | .ct ρ' => k ρ'
      | .bk ρ' => .nx ρ'
      | o => o)) : oAll K mg A₀ A fp σ H ρ W { D with nx := fun σ' H' => ∃ ρ' fp', SI K A₀ A σ' H' ρ' fp' ∧ oAll K mg A₀ A fp' σ' H' ρ' W D (k ρ'), ct := fun σ' H' => ∃ ρ' fp', SI K A₀ A σ' H' ρ' fp' ∧ oAll K mg A₀ A fp' σ' H' ρ' W D (k ρ'), bk := D.nx } o := by
  cases o with
  | nx ρ1 => exact fun σ' H' fp' g => (fun g => ⟨killE ks ρ1, _, g.si, oAll.later S h g⟩) (g.trans S (SOk.kill g.si ks))
  | ct ρ1 => exact fun σ' H' fp' g => (fun g => ⟨killE ks ρ1, _, g.si, oAll.later S h g⟩) (g.trans S (SOk.kill g.si ks))
  | bk ρ1 => exact fun σ' H' fp' g => h σ' H' _ (g.trans S (SOk.kill g.si ks))
  | rt d ρ1 => exact h
  | exc x ρ1 => exact h
  | stuck => exact h
/-- a while's turns -/
theorem rs_whl {ks : List Bool} {c : Ex} {b : List Rw.St} : ∀ D σ H, tS K mg W F sub N (.whl ks c b) D σ H → tWhile (tT K mg W F c) (tSs K mg W F sub N b) D σ H := fun D σ H ⟨A₀, A, ρ, fp, S, h⟩ => by
  rw [evS] at h
  refine ⟨fun m σ1 H1 => ∃ ρ1 fp1, SI K A₀ A σ1 H1 ρ1 fp1 ∧ oAll K mg A₀ A fp1 σ1 H1 ρ1 W D (whlL (fun ρ => tst (evE F c ρ)) (fun ρ => (evSs F sub N b ρ).mp ks) m ρ1), ⟨N, killE ks ρ, _, (SOk.kill S ks).si, oAll.later S h (SOk.kill S ks)⟩, ?_⟩
  rintro m σ1 H1 ⟨ρ1, fp1, S1, h⟩
  cases m with
  | zero => exact h.elim
  | succ m =>
    rw [whlL] at h
    refine ⟨A₀, A, ρ1, fp1, S1, (out_all (tst_pin (evE_pin F c ρ1)) h).imp (fun t ρ2 _ ⟨hp, h⟩ H' A' fp' g => ?_) fun _ _ h => h⟩
    have g2 := (SOk.ofE S1 g hp).drop S1
    have h2 := oAll.later S1 h g2
    cases t with
    | false => exact h σ1 H' fp' g2
    | true => exact ⟨_, fun σ' H' z => ⟨m, Nat.lt_succ_self m, z⟩, A₀, A, ρ2, fp', g2.si, turn_all g2.si h2⟩
/-- behind a walk: the thing is its name's again -/
theorem unlock_ok (S : SI K A₀ A σ H ρ fp) {k : Option Nat} {ρ₂ ρ₃ : Env} {A'' : Addr → Prop} (g1 : SOk K A₀ A fp σ H ρ ρ₁ σ H₁ A₁ fp₁) (hin : SOk K (plusL A₀ (lockL ρ₁ fp₁ k)) (plusL A₁ (lockL ρ₁ fp₁ k)) (lockF ρ₁ fp₁ k) σ H₁ (Rw.lock ρ₁ k) ρ₂ σ' H' A'' fp')
    (hu : Rw.unlock ρ₁ k ρ₂ = some ρ₃) : ∃ fp₃, SOk K A₀ A fp σ H ρ ρ₃ σ' H' (fun a => A'' a ∧ a ∉ lockL ρ₁ fp₁ k) fp₃ ∧ ∀ a, Bs (fun a => A'' a ∧ a ∉ lockL ρ₁ fp₁ k) fp₃ a → Bs A'' fp' a := by
  have eA : plusL (fun a => A'' a ∧ a ∉ lockL ρ₁ fp₁ k) (lockL ρ₁ fp₁ k) = A'' := by
    funext a
    apply propext
    unfold plusL
    constructor
    · rintro (z | z)
      · exact z.1
      · exact hin.tr.a a (.inr z)
    · intro z
      by_cases hL : a ∈ lockL ρ₁ fp₁ k
      · exact .inr hL
      · exact .inl ⟨z, hL⟩
  have S3 := hin.si
  have t3 := hin.tr
  rw [← eA] at S3 t3
  have Ldj : ∀ a, A₁ a → a ∉ lockL ρ₁ fp₁ k := fun a y z => by
    unfold lockL at z
    split at z
    · split at z
      · exact g1.si.na _ a z y
      · exact g1.si.na _ a z y
      · cases z
    · cases z
  obtain ⟨fp4, S4, t4, b4⟩ := g1.si.unlock S3 t3 (fun a h => ⟨hin.tr.a a (.inl h), Ldj a h⟩) (fun a z y => y.2 z) hin.look (fun j d => (hin.pin.2 j).1 d) hu
  refine ⟨fp4, g1.trans S ⟨S4, t4, fun j hj => ?_, ?_⟩, fun a b => by have := b4 a b; rw [eA] at this; exact this⟩
  · refine hin.look j ?_
    have pl : PinX (fun j => k = some j ∧ ((∃ d, slot ρ₁ j = .ow d) ∨ ∃ d, slot ρ₁ j = .mw d)) ρ₁ (Rw.lock ρ₁ k) := PinX.lock fun i h1 h2 => ⟨h1, h2⟩
    by_cases hx : k = some j ∧ ((∃ d, slot ρ₁ j = .ow d) ∨ ∃ d, slot ρ₁ j = .mw d)
    · obtain ⟨rfl, hx⟩ := hx
      rcases hx with ⟨d, hx⟩ | ⟨d, hx⟩
      · rw [hx] at hj; cases hj
      · have e := get_slot (ρ := ρ₁) (i := j) (by rw [hx]; intro z; cases z)
        rw [hx] at e
        have : Rw.lock ρ₁ (some j) = ρ₁.set j (.bw d) := by unfold Rw.lock; simp only [e]
        rw [this, slot_set_same (lt_of_get e)]
        rfl
    · have pj := pl.2 j hx
      cases es : slot ρ₁ j with
      | bw d => rw [(pj.1 d).mp es] <;> rfl
      | mw d => obtain ⟨d', e'⟩ := pj.2 d es; rw [e'] <;> rfl
      | un => rw [es] at hj; cases hj
      | fz d => rw [es] at hj; cases hj
      | ow d => rw [es] at hj; cases hj
  · exact back_pin (own := []) (k := k) (ρ₂ := ρ₂) (PinX.trans (PinX.lock fun i h1 h2 => .inr ⟨h1, h2⟩) hin.pin.x) hu
theorem unlock_all {D : Ends} {o : Out} {k : Option Nat} (S : SI K A₀ A σ H ρ fp) (g1 : SOk K A₀ A fp σ H ρ ρ₁ σ H₁ A₁ fp₁) (h : oAll K mg A₀ A fp σ H ρ W D (unlockO ρ₁ k o)) :
    oAll K mg (plusL A₀ (lockL ρ₁ fp₁ k)) (plusL A₁ (lockL ρ₁ fp₁ k)) (lockF ρ₁ fp₁ k) σ H₁ (Rw.lock ρ₁ k) W D o := by
  cases o with
  | nx ρ2 =>
    intro σ' H' fp' g
    unfold unlockO at h
    dsimp only at h
    split at h
    · rename_i ρ3 hu
      obtain ⟨fp3, g3, _⟩ := unlock_ok S g1 g hu
      exact h σ' H' fp3 (g3.drop S)
    · exact h.elim
  | bk ρ2 =>
    intro σ' H' fp' g
    unfold unlockO at h
    dsimp only at h
    split at h
    · rename_i ρ3 hu
      obtain ⟨fp3, g3, _⟩ := unlock_ok S g1 g hu
      exact h σ' H' fp3 (g3.drop S)
    · exact h.elim
  | ct ρ2 =>
    intro σ' H' fp' g
    unfold unlockO at h
    dsimp only at h
    split at h
    · rename_i ρ3 hu
      obtain ⟨fp3, g3, _⟩ := unlock_ok S g1 g hu
      exact h σ' H' fp3 (g3.drop S)
    · exact h.elim
  | exc x ρ2 =>
    intro cls d σ' H' fp' g xa
    unfold unlockO at h
    dsimp only at h
    split at h
    · rename_i ρ3 hu
      obtain ⟨fp3, g3, _⟩ := unlock_ok S g1 g hu
      exact h cls d σ' H' fp3 (g3.drop S) xa
    · exact h.elim
  | rt d ρ2 =>
    intro v σ' H' A'' fp' g ok
    unfold unlockO at h
    dsimp only at h
    split at h
    · rename_i ρ3 hu
      obtain ⟨fp3, g3, b3⟩ := unlock_ok S g1 g hu
      refine h v σ' H' _ fp3 g3 ?_
      obtain ⟨q, r, nd, hq⟩ := ok
      refine ⟨q, ?_, nd, fun a z => ⟨⟨(hq a z).1, fun y => (hq a z).2 (.inr y)⟩, fun y => (hq a z).2 (.inl (g1.tr.a a y))⟩⟩
      unfold opd at r ⊢
      split
      · rename_i hf
        rw [if_pos hf] at r
        exact ⟨r.1, r.2.mono (fun _ _ e _ => e) fun a b => .inl (b3 a b)⟩
      · rename_i hf
        rw [if_neg hf] at r
        exact Rp.mono (fun _ _ e _ => e) (fun a b => .inl (b3 a b)) r
    · exact h.elim
  | stuck => exact h
/-- what is walked stays, as long as its list is locked -/
theorem prot_lock {k : Option Nat} (S₁ : SI K A₀ A₁ σ H₁ ρ₁ fp₁) (t : Tr (plusL A₁ (lockL ρ₁ fp₁ k)) (lockF ρ₁ fp₁ k) H₁ A' fp' H') : ∀ a o, H₁ a = some o → Prot fp₁ k a → H' a = some o := fun a o eo pa => t.k a o eo fun j z => by
  unfold lockF at z
  cases k with
  | none => exact nomatch pa j z
  | some i0 =>
    dsimp only at z
    have key : a ∈ fp₁ j → j = i0 := fun z => (Option.some.inj (pa j z)).symm
    have out : slot ρ₁ i0 = .un ∨ (∃ d, slot ρ₁ i0 = .fz d) ∨ (∃ d, slot ρ₁ i0 = .bw d) → a ∉ fp₁ j := fun hs z => by
      have ej := key z
      rw [ej] at z
      have so := S₁.sl i0
      rcases hs with hs | ⟨d, hs⟩ | ⟨d, hs⟩ <;> rw [hs] at so
      · rw [show fp₁ i0 = [] from so] at z; cases z
      · rw [so.1] at z; cases z
      · rw [so.1] at z; cases z
    have ow : a ∈ fup fp₁ i0 [] j → False := fun z => by
      by_cases ej : j = i0
      · rw [ej, fup_same] at z; cases z
      · rw [fup_ne ej] at z; exact ej (key z)
    cases es : slot ρ₁ i0 with
    | un => rw [es] at z; exact out (.inl es) z
    | fz d => rw [es] at z; exact out (.inr (.inl ⟨d, es⟩)) z
    | bw d => rw [es] at z; exact out (.inr (.inr ⟨d, es⟩)) z
    | ow d => rw [es] at z; exact ow z
    | mw d => rw [es] at z; exact ow z
theorem turn_all2 {D : Ends} {o : Out} {ks : List Bool} {k : Env → Out} {R : (Nat → List Addr) → Hp → Prop} (S : SI K A₀ A σ H ρ fp) (hR : ∀ σ' H' ρ' fp', SOk K A₀ A fp σ H ρ ρ' σ' H' A fp' → R fp' H') (h : oAll K mg A₀ A fp σ H ρ W D (match o.mp ks with
      | .nx ρ' => k ρ'
      | .ct ρ' => k ρ'
      | .bk ρ' => .nx ρ'
      | o => o)) : oAll K mg A₀ A fp σ H ρ W { D with nx := fun σ' H' => ∃ ρ' fp', SI K A₀ A σ' H' ρ' fp' ∧ R fp' H' ∧ oAll K mg A₀ A fp' σ' H' ρ' W D (k ρ'), ct := fun σ' H' => ∃ ρ' fp', SI K A₀ A σ' H' ρ' fp' ∧ R fp' H' ∧ oAll K mg A₀ A fp' σ' H' ρ' W D (k ρ'), bk := D.nx } o := by
  cases o with
  | nx ρ1 => exact fun σ' H' fp' g => (fun g => ⟨killE ks ρ1, _, g.si, hR _ _ _ _ g, oAll.later S h g⟩) (g.trans S (SOk.kill g.si ks))
  | ct ρ1 => exact fun σ' H' fp' g => (fun g => ⟨killE ks ρ1, _, g.si, hR _ _ _ _ g, oAll.later S h g⟩) (g.trans S (SOk.kill g.si ks))
  | bk ρ1 => exact fun σ' H' fp' g => h σ' H' _ (g.trans S (SOk.kill g.si ks))
  | rt d ρ1 => exact h
  | exc x ρ1 => exact h
  | stuck => exact h
/-- a for's turns -/
theorem rs_fr {ks : List Bool} {t : Tg} {it : Rw.It} {b : List Rw.St} : ∀ D σ H, tS K mg W F sub N (.fr ks t it b) D σ H → tFor (tI K mg W F it) (gT K t) (tSs K mg W F sub N b) D σ H := fun D σ H ⟨A₀, A, ρ, fp, S, h⟩ => by
  rw [evS] at h
  refine ⟨A₀, A, ρ, fp, S, (out_all (evI_pin F it ρ) h).imp (fun x ρ₁ _ ⟨hp, h⟩ J H₁ A₁ fp₁ g iok => ?_) fun _ _ h => h⟩
  obtain ⟨xs, bz, k⟩ := x
  dsimp only at h iok
  have g1 := SOk.ofE S g hp
  obtain ⟨Sl, subl⟩ := g.si.lock k
  have h := unlock_all S g1 h
  generalize hA₀' : plusL A₀ (lockL ρ₁ fp₁ k) = A₀' at h Sl
  generalize hA₁' : plusL A₁ (lockL ρ₁ fp₁ k) = A₁' at h Sl subl
  refine ⟨fun i m σ1 H1 => i ≤ xs.length ∧ m = xs.length - i ∧ ∃ ρ1 fp1, SI K A₀' A₁' σ1 H1 ρ1 fp1 ∧ Tr A₁' (lockF ρ₁ fp₁ k) H₁ A₁' fp1 H1 ∧ oAll K mg A₀' A₁' fp1 σ1 H1 ρ1 W D (forL (fun x ρ => match asgT t bz x ρ with
      | some ρ' => (evSs F sub N b ρ').mp ks
      | none => .stuck) (xs.drop i) ρ1), ⟨xs.length, Nat.zero_le _, rfl, killE ks (Rw.lock ρ₁ k), _, (SOk.kill Sl ks).si, (SOk.kill Sl ks).tr, oAll.later Sl h (SOk.kill Sl ks)⟩, ?_⟩
  rintro i m σ1 H1 ⟨hi, hm, ρ1, fp1, S1, t1, h⟩
  obtain ⟨k1, k2, k3⟩ := iok H1 (Bs A₁' fp1) (fun a o e pa => prot_lock g.si (by rw [hA₁']; exact t1) a o e pa.1) (fun a o e n => t1.k a o e fun j z => n (subl a (.inr ⟨j, z⟩))) (fun a b => (t1.b a b).imp (subl a) id) fun a b => by
    obtain ⟨o, eo⟩ := S1.bs b
    rw [eo]; exact fun z => nomatch z
  by_cases hie : i = xs.length
  · refine .inl ⟨by rw [hie]; exact k2, ?_⟩
    rw [hie, List.drop_length, forL] at h
    exact h σ1 H1 fp1 (.refl S1)
  · have hlt : i < xs.length := by omega
    have hdrop : xs.drop i = xs[i] :: xs.drop (i + 1) := List.drop_eq_getElem_cons hlt
    rw [hdrop, forL] at h
    refine .inr ⟨k1 i hlt, _, fun σ' H' z => ⟨xs.length - (i + 1), by omega, by omega, rfl, z⟩, fun x H' hy => ?_⟩
    obtain ⟨kH, rv⟩ := k3 i x H' hlt hy
    have S1' := S1.held (fun a o e _ => kH a o e) fun a h => by
      obtain ⟨o, eo⟩ := S1.tr a h
      exact ⟨o, kH a o eo⟩
    have g0 : SOk K A₀' A₁' fp1 σ1 H1 ρ1 ρ1 σ1 H' A₁' fp1 := ⟨S1', ⟨fun _ h => h, fun a o e _ => kH a o e, fun a b => .inl b⟩, fun _ _ => rfl, .refl⟩
    have h := oAll.later S1 h g0
    have t1 := t1.trans Sl S1 g0.tr
    cases ha : asgT t bz xs[i] ρ1 with
    | none => rw [ha] at h; exact h.elim
    | some ρ2 =>
      rw [ha] at h
      refine gT_ok t S1' rv .nil (fun _ z => nomatch z) (fun _ => rfl) ha fun σ2 fp2 T => ?_
      have eA : (fun a => A₁' a ∧ a ∉ ([] : List Addr)) = A₁' := by funext a; simp
      have S2 := T.si
      rw [eA] at S2
      have t2 : Tr A₁' fp1 H' A₁' fp2 H' := ⟨fun _ h => h, fun _ _ e _ => e, fun a b => .inl (T.b a (by rw [eA]; exact b))⟩
      have g2 : SOk K A₀' A₁' fp1 σ1 H' ρ1 ρ2 σ2 H' A₁' fp2 := ⟨S2, t2, T.pin, asgT_pin t ha⟩
      exact ⟨A₀', A₁', ρ2, fp2, S2, turn_all2 (R := fun fp' H'' => Tr A₁' (lockF ρ₁ fp₁ k) H₁ A₁' fp' H'') S2 (fun σ' H'' ρ' fp' g' => (t1.trans Sl S1' t2).trans Sl S2 g'.tr) (oAll.later S1' h g2)⟩
theorem oAll.later2 {D : Ends} {o : Out} (S : SI K A₀ A σ H ρ fp) (h : oAll K mg A₀ A fp σ H ρ W D o) (g : SOk K A₀ A fp σ H ρ ρ₁ σ₁ H₁ A₁ fp₁) : oAll K mg A₀ A₁ fp₁ σ₁ H₁ ρ₁ W D o := by
  cases o with
  | nx ρ' => exact fun σ' H' fp' k => h σ' H' fp' ((g.trans S k).drop S)
  | bk ρ' => exact fun σ' H' fp' k => h σ' H' fp' ((g.trans S k).drop S)
  | ct ρ' => exact fun σ' H' fp' k => h σ' H' fp' ((g.trans S k).drop S)
  | rt d ρ' => exact fun v σ' H' A' fp' k ok => h v σ' H' A' fp' (g.trans S k) (ok.early g.tr.a)
  | exc x ρ' => exact fun cls d σ' H' fp' k xa => h cls d σ' H' fp' ((g.trans S k).drop S) xa
  | stuck => exact h
theorem out_all2 {α : Type} {r : Rr α} {f : α → Env → Out} {D : Ends} (S : SI K A₀ A σ H ρ fp) (g : SOk K A₀ A fp σ H ρ ρ₁ σ₁ H₁ A₁ fp₁) (hp : r.pin (fun _ => False) ρ₁) (h : oAll K mg A₀ A fp σ H ρ W D (r.out f)) : r.all (fun a ρ1 => Pin ρ₁ ρ1 ∧ oAll K mg A₀ A fp σ H ρ W D (f a ρ1)) (XPost K mg A₀ A₁ fp₁ σ₁ H₁ W) := by
  cases r with
  | ok a ρ1 => exact ⟨hp.none, h⟩
  | exc x ρ1 =>
    intro cls d H' fp' S' t' xa
    have k : SOk K A₀ A₁ fp₁ σ₁ H₁ ρ₁ ρ1 σ₁ H' A₁ fp' := ⟨S', t', fun _ _ => rfl, hp.none⟩
    exact h cls d σ₁ H' fp' ((g.trans S k).drop S) xa
  | stuck => exact h
theorem setAt_app {q : List Stp} {w : Rw.D} : ∀ {p : List Stp} {d d0 : Rw.D}, getAt d p = some d0 → setAt d (p ++ q) w = (setAt d0 q w).bind fun e => setAt d p e
  | [], d, d0, h => by
    have e : d = d0 := by simpa [getAt] using h
    subst e
    rw [List.nil_append]
    cases setAt d q w <;> simp [setAt]
  | .ix n :: p, d, d0, h => by
    cases d with
    | lst o xs =>
      cases o with
      | false => simp [getAt] at h
      | true =>
        rw [getAt] at h
        cases hx : xs[n]? with
        | none => rw [hx] at h; cases h
        | some x =>
          rw [hx] at h
          have h : getAt x p = some d0 := h
          have e1 : setAt (.lst true xs) (.ix n :: (p ++ q)) w = (setAt x (p ++ q) w).map fun x' => .lst true (xs.set n x') := by rw [setAt, hx]
          rw [List.cons_append, e1, setAt_app h]
          cases setAt d0 q w with
          | none => rfl
          | some e =>
            show (setAt x p e).map _ = setAt (.lst true xs) (.ix n :: p) e
            rw [setAt, hx]
    | _ => simp [getAt] at h
  | .key k :: p, d, d0, h => by cases d <;> simp [getAt] at h
  | .fld f :: p, d, d0, h => by
    cases d with
    | obj o c fs =>
      cases o with
      | false => simp [getAt] at h
      | true =>
        rw [getAt] at h
        cases hx : fs.lookup f with
        | none => rw [hx] at h; cases h
        | some x =>
          rw [hx] at h
          have h : getAt x p = some d0 := h
          have e1 : setAt (.obj true c fs) (.fld f :: (p ++ q)) w = (setAt x (p ++ q) w).map fun x' => .obj true c (putF f x' fs) := by rw [setAt, hx]
          rw [List.cons_append, e1, setAt_app h]
          cases setAt d0 q w with
          | none => rfl
          | some e =>
            show (setAt x p e).map _ = setAt (.obj true c fs) (.fld f :: p) e
            rw [setAt, hx]
    | _ => simp [getAt] at h
theorem setP_app {i : Nat} {p q : List Stp} {d0 w : Rw.D} (h : getP ρ i p = some d0) (hs : setP ρ i (p ++ q) w = some ρ') : ∃ e, setAt d0 q w = some e ∧ setP ρ i p e = some ρ' := by
  obtain ⟨d, h1, h2⟩ := getP_slot h
  have h0 : ρ[i]? = some (slot ρ i) := get_slot fun z => by rw [z] at h1; cases h1
  have key : ∀ {f : Rw.D → Env}, (setAt d (p ++ q) w).map f = some ρ' → ∃ e, setAt d0 q w = some e ∧ (setAt d p e).map f = some ρ' := fun {f} z => by
    rw [setAt_app h2] at z
    cases e1 : setAt d0 q w with
    | none => rw [e1] at z; cases z
    | some e => rw [e1] at z; exact ⟨e, rfl, z⟩
  unfold setP at hs
  rw [h0] at hs
  cases es : slot ρ i with
  | un => rw [es] at hs; cases hs
  | fz d' => rw [es] at hs; cases hs
  | bw d' => rw [es] at hs; cases hs
  | ow d' =>
    rw [es] at hs h1
    cases h1
    obtain ⟨e, e1, e2⟩ := key hs
    refine ⟨e, e1, ?_⟩
    unfold setP
    rw [h0, es]
    exact e2
  | mw d' =>
    rw [es] at hs h1
    cases h1
    obtain ⟨e, e1, e2⟩ := key hs
    refine ⟨e, e1, ?_⟩
    unfold setP
    rw [h0, es]
    exact e2
/-- an item of an owned list is replaced -/
theorem put_ix (S : SI K A₀ A₁ σ H ρ fp) {i : Nat} {pl : List Stp} {n : Nat} {o : Bool} {xs : List Rw.D} {w : Rw.D} {x v r : V} {q : List Addr} (hg : getP ρ i pl = some (.lst o xs)) (hr : look σ i = some r) (va : VAt H r pl x) (hs : setP ρ i (pl ++ [.ix n]) w = some ρ')
    (rv : Rp K H (Bs A₁ fp) v w q) (nd : q.Nodup) (hq : ∀ a ∈ q, A₁ a ∧ ¬ A a) (hA : ∀ a, A₀ a → A a) (hA1 : ∀ a, A a → A₁ a) :
    ∃ p vs fp', x = .ref p ∧ H p = some (.lst vs) ∧ vs.length = xs.length ∧ SI K A₀ A σ (upd H p (.lst (vs.set n v))) ρ' fp' ∧ (∀ a u, H a = some u → (∀ j, a ∉ fp j) → upd H p (.lst (vs.set n v)) a = some u) ∧ ∀ a, Bs A fp' a → Bs A₁ fp a := by
  obtain ⟨e, e1, e2⟩ := setP_app hg hs
  have ho : o = true ∧ ∃ y, xs[n]? = some y ∧ e = .lst true (xs.set n w) := by
    cases o with
    | false => simp [setAt] at e1
    | true =>
      rw [setAt] at e1
      cases hx : xs[n]? with
      | none => rw [hx] at e1; cases e1
      | some y => rw [hx] at e1; simp [setAt] at e1; exact ⟨rfl, y, rfl, e1.symm⟩
  obtain ⟨rfl, y, hy, rfl⟩ := ho
  obtain ⟨f, pre, post, k1, k2, k3⟩ := S.putAt hg hr va e2
  obtain ⟨p, vs, f0, rfl, hp, l, rfl⟩ := k2.lstO
  obtain ⟨u, g0, g1, g2, hu, _, _⟩ := l.get hy
  obtain ⟨g', pre', post', ry, eq', hset⟩ := l.set hy hu
  subst eq'
  have ndi := S.nd i
  rw [k1] at ndi
  have ndf := (List.nodup_append.mp (List.nodup_append.mp ndi).2.1).1
  have inF : ∀ a, a = p ∨ a ∈ pre' ∨ a ∈ post' → a ∈ fp i := fun a z => by
    rw [k1]
    rcases z with z | z | z <;> simp [z]
  have nA : ∀ a, a ∈ fp i → ¬ A₁ a := fun a z => S.na i a z
  rw [List.nodup_cons] at ndf
  have nd1 := List.nodup_append.mp ndf.2
  have nd2 := List.nodup_append.mp nd1.2.1
  have np : p ∉ pre' ∧ p ∉ post' := ⟨fun z => ndf.1 (by simp [z]), fun z => ndf.1 (by simp [z])⟩
  have hpB : Bs A₁ fp p := .inr ⟨i, inF p (.inl rfl)⟩
  have npq : p ∉ q := fun z => nA p (inF p (.inl rfl)) (hq p z).1
  have upk : ∀ a u, H a = some u → a ≠ p → upd H p (.lst (vs.set n v)) a = some u := fun a u eu ne => by unfold upd; rw [if_neg ne]; exact eu
  have f'F : ∀ a ∈ p :: (pre' ++ (q ++ post')), a ∈ q ∨ a ∈ fp i := fun a z => by
    simp at z
    rcases z with z | z | z | z
    · exact .inr (inF a (.inl z))
    · exact .inr (inF a (.inr (.inl z)))
    · exact .inl z
    · exact .inr (inF a (.inr (.inr z)))
  have sub : ∀ a, Bs A (fup fp i (pre ++ ((p :: (pre' ++ (q ++ post'))) ++ post))) a → Bs A₁ fp a := fun a b => by
    rcases b with b | ⟨j, b⟩
    · exact .inl (hA1 a b)
    · by_cases ej : j = i
      · rw [ej, fup_same] at b
        rcases List.mem_append.mp b with z | z
        · exact .inr ⟨i, by rw [k1]; simp [z]⟩
        · rcases List.mem_append.mp z with z | z
          · exact (f'F a z).elim (fun y => .inl (hq a y).1) fun y => .inr ⟨i, y⟩
          · exact .inr ⟨i, by rw [k1]; simp [z]⟩
      · rw [fup_ne ej] at b; exact .inr ⟨j, b⟩
  refine ⟨p, vs, _, rfl, hp, l.len, k3 (A₁ := A) (H₁ := upd H p (.lst (vs.set n v))) (f' := p :: (pre' ++ (q ++ post'))) hA (fun a h => .inl (hA1 a h)) (fun a h => ?_) ?_ (fun a z => ?_) (fun a z h => ?_) (fun a u eu n0 => upk a u eu fun z => n0 (by rw [z]; exact List.mem_cons_self)) ?_, fun a u eu n0 => upk a u eu fun z => n0 i (inF a (.inl z)), sub⟩
  · obtain ⟨u, eu⟩ := S.tr a (hA1 a h)
    by_cases z : a = p
    · exact ⟨.lst (vs.set n v), by rw [z]; exact upd_same⟩
    · exact ⟨u, upk a u eu z⟩
  · rw [List.nodup_cons, List.nodup_append, List.nodup_append]
    refine ⟨fun z => ?_, nd1.1, ⟨nd, nd2.2.1, fun a h1 b h2 ee => ?_⟩, fun a h1 b h2 ee => ?_⟩
    · rcases List.mem_append.mp z with z | z
      · exact np.1 z
      · rcases List.mem_append.mp z with z | z
        · exact npq z
        · exact np.2 z
    · rw [← ee] at h2
      exact nA a (inF a (.inr (.inr h2))) (hq a h1).1
    · rw [← ee] at h2
      rcases List.mem_append.mp h2 with z | z
      · exact nA a (inF a (.inr (.inl h1))) (hq a z).1
      · exact nd1.2.2 a h1 a (List.mem_append_right _ z) rfl
  · rcases f'F a z with y | y
    · exact .inr (.inl (hq a y).1)
    · simp at z
      rcases z with z | z | z | z
      · exact .inl (by simp [z])
      · exact .inl (by simp [z])
      · exact .inr (.inl (hq a z).1)
      · exact .inl (by simp [z])
  · rcases f'F a z with y | y
    · exact (hq a y).2 h
    · exact nA a y (hA1 a h)
  · refine .lo upd_same (hset (fun a u eu n0 => upk a u eu fun z => ?_) (fun a b => .inl (sub a b)) (rv.mono (fun a u eu n0 => upk a u eu fun z => ?_) fun a b => .inl (sub a b)))
    · rw [z] at n0
      exact n0.elim (fun y => y hpB) fun y => y.elim np.1 np.2
    · rw [z] at n0
      exact n0.elim (fun y => y hpB) npq
theorem RpL.put {B : Addr → Prop} {f : String} {vs : List (Str × V)} {fs : List (String × Rw.D)} {f1 q : List Addr} (hn : vs.map (·.1) = fN fs) (l : RpL K H B (vs.map (·.2)) (fD fs) f1) (nd1 : f1.Nodup) (nd : q.Nodup) (dj : ∀ a ∈ f1, a ∉ q) :
    ∃ f2, f2.Nodup ∧ (∀ a ∈ f2, a ∈ q ∨ a ∈ f1) ∧ ∀ {H' : Hp} {B' : Addr → Prop} {v : V} {w : Rw.D}, (∀ a o, H a = some o → (¬ B a ∨ a ∈ f1) → H' a = some o) → (∀ a, B' a → B a ∨ H a = none) → Rp K H' B' v w q →
      RpL K H' B' ((L2.putF (Str.ofString f) v vs).map (·.2)) (fD (putF f w fs)) f2 ∧ (L2.putF (Str.ofString f) v vs).map (·.1) = fN (putF f w fs) := by
  cases hx : fs.lookup f with
  | none =>
    obtain ⟨h1, _, h3⟩ := fld_new hn hx
    refine ⟨f1 ++ q, ?_, fun a z => (List.mem_append.mp z).symm, fun {H' B' v w} hk hB r => ?_⟩
    · rw [List.nodup_append]
      exact ⟨nd1, nd, fun a z b y e => dj a z (by rw [e]; exact y)⟩
    · obtain ⟨k1, k2⟩ := h1 v
      obtain ⟨k3, k4⟩ := h3 w
      rw [k1, k2, k3, k4, hn]
      exact ⟨(l.mono hk hB).app (.one r), rfl⟩
  | some x =>
    obtain ⟨n, hn1, hv, hp⟩ := fld_at hn hx
    obtain ⟨y, g, pre, post, hy, ry, eq⟩ := l.get hn1
    obtain ⟨_, hput⟩ := hv y hy
    obtain ⟨g', pre', post', ry', eq', hset⟩ := l.set hn1 hy
    subst eq'
    have n1 := List.nodup_append.mp nd1
    have n2 := List.nodup_append.mp n1.2.1
    refine ⟨pre' ++ (q ++ post'), ?_, fun a z => ?_, fun {H' B' v w} hk hB r => ?_⟩
    · rw [List.nodup_append, List.nodup_append]
      refine ⟨n1.1, ⟨nd, n2.2.1, fun a z b y e => dj b (by simp [y]) (by rw [← e]; exact z)⟩, fun a z b y e => ?_⟩
      rcases List.mem_append.mp y with y | y
      · exact dj a (by simp [z]) (by rw [e]; exact y)
      · exact n1.2.2 a z b (List.mem_append_right _ y) e
    · rcases List.mem_append.mp z with z | z
      · exact .inr (by simp [z])
      · rcases List.mem_append.mp z with z | z
        · exact .inl z
        · exact .inr (by simp [z])
    · obtain ⟨k1, k2⟩ := hput v
      obtain ⟨k3, k4⟩ := hp w
      rw [k1, k2, k3, k4, hn]
      exact ⟨hset (fun a o e n => hk a o e (n.imp id fun z => by rcases z with z | z <;> simp [z])) hB r, rfl⟩
/-- a field of an owned object is stored -/
theorem put_fld (S : SI K A₀ A₁ σ H ρ fp) {i : Nat} {pl : List Stp} {f : String} {c : String} {fs : List (String × Rw.D)} {w : Rw.D} {x v r : V} {q : List Addr} (hg : getP ρ i pl = some (.obj true c fs)) (hr : look σ i = some r) (va : VAt H r pl x) (hs : setP ρ i pl (.obj true c (putF f w fs)) = some ρ')
    (rv : Rp K H (Bs A₁ fp) v w q) (nd : q.Nodup) (hq : ∀ a ∈ q, A₁ a ∧ ¬ A a) (hA : ∀ a, A₀ a → A a) (hA1 : ∀ a, A a → A₁ a) :
    ∃ p dx vs fp', x = .ref p ∧ H p = some (.ins (He.ga K (Str.ofString c)) dx vs) ∧ vs.length = fs.length ∧ SI K A₀ A σ (upd H p (.ins (He.ga K (Str.ofString c)) dx (L2.putF (Str.ofString f) v vs))) ρ' fp' ∧ (∀ a u, H a = some u → (∀ j, a ∉ fp j) → upd H p (.ins (He.ga K (Str.ofString c)) dx (L2.putF (Str.ofString f) v vs)) a = some u) ∧ ∀ a, Bs A fp' a → Bs A₁ fp a := by
  obtain ⟨f0, pre, post, k1, k2, k3⟩ := S.putAt hg hr va hs
  obtain ⟨p, dx, vs, f1, rfl, hp, hn, l, rfl⟩ : ∃ p dx vs f1, x = .ref p ∧ H p = some (.ins (He.ga K (Str.ofString c)) dx vs) ∧ vs.map (·.1) = fN fs ∧ RpL K H (Bs A₁ fp) (vs.map (·.2)) (fD fs) f1 ∧ f0 = p :: f1 := by
    cases k2 with
    | oo t e l => exact ⟨_, _, _, _, rfl, t, e, l, rfl⟩
  have ndi := S.nd i
  rw [k1] at ndi
  have ndf := (List.nodup_append.mp (List.nodup_append.mp ndi).2.1).1
  rw [List.nodup_cons] at ndf
  have inF : ∀ a, a = p ∨ a ∈ f1 → a ∈ fp i := fun a z => by
    rw [k1]
    rcases z with z | z <;> simp [z]
  have nA : ∀ a, a ∈ fp i → ¬ A₁ a := fun a z => S.na i a z
  obtain ⟨f2, nd2, sub2, put⟩ := RpL.put (f := f) hn l ndf.2 nd fun a z y => nA a (inF a (.inr z)) (hq a y).1
  have hpB : Bs A₁ fp p := .inr ⟨i, inF p (.inl rfl)⟩
  have npq : p ∉ q := fun z => nA p (inF p (.inl rfl)) (hq p z).1
  have np2 : p ∉ f2 := fun z => (sub2 p z).elim npq ndf.1
  have vl : vs.length = fs.length := by
    have := congrArg List.length hn
    rw [fN_len] at this
    simpa using this
  have upk : ∀ a u, H a = some u → a ≠ p → upd H p (.ins (He.ga K (Str.ofString c)) dx (L2.putF (Str.ofString f) v vs)) a = some u := fun a u eu ne => by unfold upd; rw [if_neg ne]; exact eu
  have f'F : ∀ a ∈ p :: f2, a ∈ q ∨ a ∈ fp i := fun a z => by
    rcases List.mem_cons.mp z with z | z
    · exact .inr (inF a (.inl z))
    · exact (sub2 a z).imp id fun y => inF a (.inr y)
  have sub : ∀ a, Bs A (fup fp i (pre ++ ((p :: f2) ++ post))) a → Bs A₁ fp a := fun a b => by
    rcases b with b | ⟨j, b⟩
    · exact .inl (hA1 a b)
    · by_cases ej : j = i
      · rw [ej, fup_same] at b
        rcases List.mem_append.mp b with z | z
        · exact .inr ⟨i, by rw [k1]; simp [z]⟩
        · rcases List.mem_append.mp z with z | z
          · exact (f'F a z).elim (fun y => .inl (hq a y).1) fun y => .inr ⟨i, y⟩
          · exact .inr ⟨i, by rw [k1]; simp [z]⟩
      · rw [fup_ne ej] at b; exact .inr ⟨j, b⟩
  have rnew := put (H' := upd H p (.ins (He.ga K (Str.ofString c)) dx (L2.putF (Str.ofString f) v vs))) (B' := Bs A (fup fp i (pre ++ ((p :: f2) ++ post)))) (v := v) (w := w) (fun a u eu n0 => upk a u eu fun z => ?_) (fun a b => .inl (sub a b)) (rv.mono (fun a u eu n0 => upk a u eu fun z => ?_) fun a b => .inl (sub a b))
  rotate_left
  · rw [z] at n0
    exact n0.elim (fun y => y hpB) ndf.1
  · rw [z] at n0
    exact n0.elim (fun y => y hpB) npq
  refine ⟨p, dx, vs, _, rfl, hp, vl, k3 (A₁ := A) (H₁ := upd H p (.ins (He.ga K (Str.ofString c)) dx (L2.putF (Str.ofString f) v vs))) (f' := p :: f2) hA (fun a h => .inl (hA1 a h)) (fun a h => ?_) (List.nodup_cons.mpr ⟨np2, nd2⟩) (fun a z => ?_) (fun a z h => ?_) (fun a u eu n0 => upk a u eu fun z => n0 (by rw [z]; exact List.mem_cons_self)) (.oo upd_same rnew.2 rnew.1), fun a u eu n0 => upk a u eu fun z => n0 i (by rw [z]; exact inF p (.inl rfl)), sub⟩
  · obtain ⟨u, eu⟩ := S.tr a (hA1 a h)
    by_cases z : a = p
    · exact ⟨_, by rw [z]; exact upd_same⟩
    · exact ⟨u, upk a u eu z⟩
  · rcases List.mem_cons.mp z with y | y
    · exact .inl (by simp [y])
    · rcases sub2 a y with y | y
      · exact .inr (.inl (hq a y).1)
      · exact .inl (by simp [y])
  · rcases f'F a z with y | y
    · exact (hq a y).2 h
    · exact nA a y (hA1 a h)
/-- an entry of an owned dict is stored -/
theorem put_dct (S : SI K A₀ A₁ σ H ρ fp) {i : Nat} {pl : List Stp} {kvs kvs' : List (Rw.D × Rw.D)} {k w : Rw.D} {x v y r : V} {q : List Addr} (hg : getP ρ i pl = some (.dct true kvs)) (hr : look σ i = some r) (va : VAt H r pl x) (hs : setP ρ i pl (.dct true kvs') = some ρ')
    (hp : dPut kvs k (freeze w) = some kvs') (rk : Rp K H (Bs A₁ fp) y k []) (rv : Rp K H (Bs A₁ fp) v w q) (hq : ∀ a ∈ q, A₁ a ∧ ¬ A a) (hA : ∀ a, A₀ a → A a) (hA1 : ∀ a, A a → A₁ a) :
    ∃ p as vs fp', x = .ref p ∧ DctAt K H p (kD kvs) as vs ∧ RpL K H (Bs A₁ fp) as (kD kvs) [] ∧ RpL K H (Bs A₁ fp) vs (vD kvs) [] ∧
      ∀ ob, DctAt K (upd H p ob) p (kD kvs') (stA k y kvs as) (stV k v kvs vs) → SI K A₀ A σ (upd H p ob) ρ' fp' ∧ (∀ a u, H a = some u → (∀ j, a ∉ fp j) → upd H p ob a = some u) ∧ ∀ a, Bs A fp' a → Bs A₁ fp a := by
  obtain ⟨f0, pre, post, k1, k2, k3⟩ := S.putAt hg hr va hs
  obtain ⟨p, as, vs, rfl, t, l, m, rfl⟩ : ∃ p as vs, x = .ref p ∧ DctAt K H p (kD kvs) as vs ∧ RpL K H (Bs A₁ fp) as (kD kvs) [] ∧ RpL K H (Bs A₁ fp) vs (vD kvs) [] ∧ f0 = [p] := by
    cases k2 with
    | dw t l m => exact ⟨_, _, _, rfl, t, l, m, rfl⟩
  have inF : p ∈ fp i := by rw [k1]; simp
  have pB : Bs A₁ fp p := .inr ⟨i, inF⟩
  have npq : p ∉ q := fun z => S.na i p inF (hq p z).1
  have hkv : kvs' = storeD k (freeze w) kvs := by
    unfold dPut at hp
    split at hp
    · split at hp
      · cases hp; rfl
      · cases hp
    · cases hp
  have sub : ∀ a, Bs A (fup fp i (pre ++ ([p] ++ post))) a → Bs A₁ fp a := fun a b => by
    rcases b with b | ⟨j, b⟩
    · exact .inl (hA1 a b)
    · by_cases ej : j = i
      · rw [ej, fup_same, ← k1] at b
        exact .inr ⟨i, b⟩
      · rw [fup_ne ej] at b; exact .inr ⟨j, b⟩
  have subq : ∀ a, Bs A (fup fp i (pre ++ ([p] ++ post))) a → a ∉ q := fun a b z => by
    rcases b with b | ⟨j, b⟩
    · exact (hq a z).2 b
    · have : a ∈ fp j := by
        by_cases ej : j = i
        · rw [ej, fup_same, ← k1] at b; rw [ej]; exact b
        · rw [fup_ne ej] at b; exact b
      exact S.na j a this (hq a z).1
  refine ⟨p, as, vs, fup fp i (pre ++ ([p] ++ post)), rfl, t, l, m, fun ob hob => ?_⟩
  have upk : ∀ a u, H a = some u → a ≠ p → upd H p ob a = some u := fun a u eu ne => by unfold upd; rw [if_neg ne]; exact eu
  have nB : ∀ a, ¬ Bs A₁ fp a → a ≠ p := fun a n e => n (by rw [e]; exact pB)
  have mono0 : ∀ {zs : List V} {es : List Rw.D}, RpL K H (Bs A₁ fp) zs es [] → RpL K (upd H p ob) (Bs A (fup fp i (pre ++ ([p] ++ post)))) zs es [] := fun l => l.mono (fun a u eu n => upk a u eu (n.elim (nB a) fun z => nomatch z)) fun a b => .inl (sub a b)
  have rk' : Rp K (upd H p ob) (Bs A (fup fp i (pre ++ ([p] ++ post)))) y k [] := rk.mono (fun a u eu n => upk a u eu (n.elim (nB a) fun z => nomatch z)) fun a b => .inl (sub a b)
  have rw0 : Rp K H (Bs A (fup fp i (pre ++ ([p] ++ post)))) v (freeze w) [] := rv.freeze fun a b => ⟨sub a b, subq a b⟩
  have rw' : Rp K (upd H p ob) (Bs A (fup fp i (pre ++ ([p] ++ post)))) v (freeze w) [] := rw0.mono (fun a u eu n => upk a u eu fun z => ?_) fun a b => .inl b
  rotate_left
  · refine n.elim (fun n => n ?_) fun z => nomatch z
    rw [z]
    exact .inr ⟨i, by rw [fup_same]; simp⟩
  obtain ⟨c1, c2⟩ := store_parts rk' rw' (mono0 l) (mono0 m)
  rw [← hkv] at c1 c2
  refine ⟨k3 (A₁ := A) (H₁ := upd H p ob) (f' := [p]) hA (fun a h => .inl (hA1 a h)) (fun a h => ?_) (by simp) (fun a z => .inl z) (fun a z h => ?_) (fun a u eu n0 => upk a u eu fun z => n0 (by rw [z]; simp)) (.dw hob c1 c2), fun a u eu n0 => upk a u eu fun z => n0 i (by rw [z]; exact inF), sub⟩
  · obtain ⟨u, eu⟩ := S.tr a (hA1 a h)
    by_cases z : a = p
    · exact ⟨_, by rw [z]; exact upd_same⟩
    · exact ⟨u, upk a u eu z⟩
  · rw [List.mem_singleton.mp z] at h
    exact S.na i p inF (hA1 p h)
def rAddV : TIp := fun x y H Q => (∃ i j, x = .int i ∧ y = .int j ∧ Q (.int (i + j)) H) ∨ ∃ a b : Str, x = .str a ∧ y = .str b ∧ a.length + b.length ≤ sizeLine ∧ Q (.str (a ++ b)) H
theorem add_rd {B : Addr → Prop} {d w z : Rw.D} {x y : V} {Q : VK} (h : addV d w = some z) (r1 : Rp K H B x d []) (r2 : Rp K H B y w []) (hQ : ∀ v, Rp K H B v z [] → Q v H) : rAddV x y H Q := by
  unfold addV at h
  split at h
  · cases h
    exact .inl ⟨_, _, r1.intI, r2.intI, hQ _ (.int _)⟩
  · split at h
    · rename_i a b hs
      cases h
      refine .inr ⟨_, _, r1.strI, r2.strI, by rw [str_len, str_len, ← line_eq]; exact hs, ?_⟩
      rw [str_app]
      exact hQ _ (.str _)
    · cases h
  · cases h
theorem rs_aug {i : Nat} {e : Ex} : ∀ D σ H, tS K mg W F sub N (.aug i e) D σ H → tAug i (tE K mg W F e) rAddV D σ H := fun D σ H ⟨A₀, A, ρ, fp, S, h⟩ => by
  rw [evS] at h
  split at h
  · rename_i d hd
    have so := S.sl i
    rw [slot_get hd] at so
    obtain ⟨_, v, hv, r⟩ := so
    refine ⟨v, look_get hv, A₀, A, ρ, fp, S, (out_all (evE_pin F e ρ) h).imp (fun o ρ1 _ ⟨hp, h⟩ y H' A' fp' g ok => ?_) fun _ _ h => h⟩
    cases o with
    | ow d => exact h.elim
    | pt j pl => exact h.elim
    | fz w =>
      dsimp only at h
      split at h
      · rename_i z hz
        split at h
        · rename_i ρ2 hg
          obtain ⟨q0, r2, _⟩ := con_ok (d := w) g.si ok rfl
          have r2 : Rp K H' (Bs A' fp') y w [] := con_fr g.si ok rfl (.inl rfl)
          have r1 : Rp K H' (Bs A' fp') v d [] := by
            refine r.mono (fun a o e n => ?_) (fun a b => g.tr.b a b)
            refine g.tr.k a o e fun j hj => n.elim (fun n => n (.inr ⟨j, hj⟩)) fun z => nomatch z
          refine add_rd hz r1 r2 fun zv rz => ?_
          refine gT_ok (.nm i) g.si rz .nil (fun _ z => nomatch z) (fun _ => rfl) hg fun σ' fp3 T => h σ' H' fp3 ⟨?_, ⟨fun _ h => h, g.tr.k, fun a b => g.tr.b a (T.b a ?_)⟩, fun j hj => T.pin j (hp.keep hj), hp.trans (asgT_pin (.nm i) hg)⟩
          · exact T.si.drop S.sub fun a hA => ⟨g.tr.a a hA, fun z => nomatch z⟩
          · exact b.imp (fun hA => ⟨g.tr.a a hA, fun z => nomatch z⟩) id
        · exact h.elim
      · exact h.elim
  · exact h.elim
theorem rs_dead {t : TS} : ∀ D σ H, tS K mg W F sub N .dead D σ H → t D σ H := fun D σ H ⟨A₀, A, ρ, fp, S, h⟩ => by
  rw [evS] at h
  exact h.elim
theorem rs_sfld {a e : Ex} {f : String} (hF : FldOk K F) : ∀ D σ H, tS K mg W F sub N (.sfld a f e) D σ H → sFld K (tE K mg W F a) (tE K mg W F e) (Str.ofString f) D σ H := fun D σ H ⟨A₀, A, ρ, fp, S, h⟩ => by
  rw [evS] at h
  refine ⟨A₀, A, ρ, fp, S, (out_all (evE_pin F e ρ) h).imp (fun o ρ1 _ ⟨hp, h⟩ v H₁ A₁ fp₁ g ok => ?_) fun _ _ h => h⟩
  split at h
  · rename_i o' ρ2 ha
    obtain ⟨fp2, q, S2, s2, r2, nd, hq, hz⟩ := alV g.si ok ha
    have g2 : SOk K A₀ A fp σ H ρ ρ2 σ H₁ A₁ fp2 := ⟨S2, ⟨g.tr.a, g.tr.k, fun a b => g.tr.b a (s2 a b)⟩, fun _ _ => rfl, hp.trans (.alias ha)⟩
    refine ⟨A₀, A₁, ρ2, fp2, S2, (out_all2 S g2 (evE_pin F a ρ2) h).imp (fun x ρ3 _ ⟨hp3, h⟩ vx H3 A3 fp3 g3 okx => ?_) fun _ _ h => h⟩
    have G3 := g2.trans S (SOk.ofE S2 g3 hp3)
    have r3 : Rp K H3 (Bs A3 fp3) v o'.val q := r2.keep S2 (fun a z => (hq a z).1) g3.tr
    match x, h, okx with
    | .fz _, h, _ => exact h.elim
    | .ow _, h, _ => exact h.elim
    | .pt j pl, h, okx =>
      cases c1 : con ρ3 (.pt j pl) with
      | none => rw [c1] at h; exact h.elim
      | some d =>
        rw [c1] at h
        cases d with
        | obj o0 c fs =>
          cases o0 with
          | false => exact h.elim
          | true =>
            dsimp only at h
            split at h
            · rename_i hf
              rw [Bool.and_eq_true] at hf
              obtain ⟨k1, k2⟩ := hF c f hf.1
              split at h
              · rename_i ρ4 hs
                obtain ⟨_, ⟨_, r, hr, va⟩, _⟩ := okx
                obtain ⟨p, dx, vs, fp5, rfl, hpp, hl, S5, kk, bb⟩ := put_fld g3.si (show getP ρ3 j pl = some _ from c1) hr va hs r3 nd (fun a z => ⟨g3.tr.a a (hq a z).1, (hq a z).2⟩) S.sub (fun a h => g3.tr.a a (g.tr.a a h))
                refine ⟨p, _, dx, vs, rfl, hpp, k1, k2, by rw [hl]; exact of_decide_eq_true hf.2, ?_⟩
                refine h σ _ fp5 ⟨S5, ⟨fun _ h => h, fun a u eu n0 => kk a u (G3.tr.k a u eu n0) fun j0 z => ?_, fun a b => G3.tr.b a (bb a b)⟩, fun _ _ => rfl, G3.pin.trans (.setP hs)⟩
                rcases G3.tr.b a (.inr ⟨j0, z⟩) with (y | ⟨j1, y⟩) | y
                · exact g3.si.na j0 a z (G3.tr.a a y)
                · exact n0 j1 y
                · exact absurd (y.symm.trans eu) (fun z => by cases z)
              · exact h.elim
            · exact h.elim
        | _ => exact h.elim
  · exact h.elim
/-- o[i] = v, of a list or a dict -/
def rSetA (K : KW) : TSet := fun o i v H Q => rSetL o i v H Q ∨ rSetDc K o i v H Q
theorem rs_sub {a i e : Ex} : ∀ D σ H, tS K mg W F sub N (.sub a i e) D σ H → tAsg (tE K mg W F e) (gSub (tE K mg W F a) (tE K mg W F i) (rSetA K)) D σ H := fun D σ H ⟨A₀, A, ρ, fp, S, h⟩ => by
  rw [evS] at h
  refine ⟨A₀, A, ρ, fp, S, (out_all (evE_pin F e ρ) h).imp (fun o ρ1 _ ⟨hp, h⟩ v H₁ A₁ fp₁ g ok => ?_) fun _ _ h => h⟩
  split at h
  · rename_i o' ρ2 ha
    obtain ⟨fp2, q, S2, s2, r2, nd, hq, hz⟩ := alV g.si ok ha
    have g2 : SOk K A₀ A fp σ H ρ ρ2 σ H₁ A₁ fp2 := ⟨S2, ⟨g.tr.a, g.tr.k, fun a b => g.tr.b a (s2 a b)⟩, fun _ _ => rfl, hp.trans (.alias ha)⟩
    refine ⟨A₀, A₁, ρ2, fp2, S2, (out_all2 S g2 (evE_pin F a ρ2) h).imp (fun x ρ3 _ ⟨hp3, h⟩ vx H3 A3 fp3 g3 okx => ?_) fun _ _ h => h⟩
    have G3 := g2.trans S (SOk.ofE S2 g3 hp3)
    refine ⟨A₀, A3, ρ3, fp3, g3.si, (out_all2 S G3 (evE_pin F i ρ3) h).imp (fun y ρ4 _ ⟨hp4, h⟩ vy H4 A4 fp4 g4 oky => ?_) fun _ _ h => h⟩
    have G4 := G3.trans S (SOk.ofE g3.si g4 hp4)
    have r4 : Rp K H4 (Bs A4 fp4) v o'.val q := (r2.keep S2 (fun a z => (hq a z).1) g3.tr).keep g3.si (fun a z => g3.tr.a a (hq a z).1) g4.tr
    match x, h, okx with
    | .fz _, h, _ => exact h.elim
    | .ow _, h, _ => exact h.elim
    | .pt j pl, h, okx =>
      cases c1 : con ρ4 (.pt j pl) with
      | none => rw [c1] at h; exact h.elim
      | some d =>
      cases c2 : con ρ4 y with
      | none =>
        rw [c1, c2] at h
        cases d with
        | dct o0 _ => cases o0 <;> exact h.elim
        | _ => exact h.elim
      | some k =>
      rw [c1, c2] at h
      by_cases hd : ∃ kvs, d = .dct true kvs
      · obtain ⟨kvs, rfl⟩ := hd
        dsimp only at h
        split at h
        · rename_i hok
          rw [Bool.and_eq_true] at hok
          obtain ⟨hok, hfz⟩ := hok
          split at h
          · rename_i kvs' hpt
            split at h
            · rename_i ρ5 hs
              have okx' := okx.later g3.si g4.tr (keep_of_okPt hok g4.kp)
              obtain ⟨_, ⟨_, r, hr, va⟩, _⟩ := okx'
              have rk : Rp K H4 (Bs A4 fp4) vy k [] := con_fr g4.si oky c2 (.inl hfz)
              have hq4 : ∀ a ∈ q, A4 a ∧ ¬ A a := fun a z => ⟨g4.tr.a a (g3.tr.a a (hq a z).1), (hq a z).2⟩
              obtain ⟨p, as, vs, fp5, rfl, hat, l1, l2, fin⟩ := put_dct g4.si (show getP ρ4 j pl = some _ from c1) hr va hs hpt rk r4 hq4 S.sub (fun a h => g4.tr.a a (g3.tr.a a (g.tr.a a h)))
              refine .inr ⟨_, p, kvs, kvs', as, vs, k, _, [], rfl, hat, l1, l2, rk, hpt, fun ob hob => ?_⟩
              obtain ⟨S5, kk, bb⟩ := fin ob hob
              refine h σ _ fp5 ⟨S5, ⟨fun _ h => h, fun a u eu n0 => kk a u (G4.tr.k a u eu n0) fun j0 z => ?_, fun a b => G4.tr.b a (bb a b)⟩, fun _ _ => rfl, G4.pin.trans (.setP hs)⟩
              rcases G4.tr.b a (.inr ⟨j0, z⟩) with (y | ⟨j1, y⟩) | y
              · exact g4.si.na j0 a z (G4.tr.a a y)
              · exact n0 j1 y
              · exact absurd (y.symm.trans eu) (fun z => by cases z)
            · exact h.elim
          · exact h.elim
        · exact h.elim
      replace h : oAll K mg A₀ A fp σ H ρ W D (if okPt (.pt j pl) i = true then (match ixStp d k with
        | some st => (match setP ρ4 j (pl ++ [st]) o'.val with
          | some ρ5 => Out.nx ρ5
          | none => .stuck)
        | none => .stuck) else .stuck) := by
        cases d with
        | dct o0 kvs =>
          cases o0 with
          | true => exact (hd ⟨_, rfl⟩).elim
          | false => exact h
        | _ => exact h
      refine .inl ?_
      have hok : okPt (.pt j pl) i = true := by
        by_cases z : okPt (.pt j pl) i = true
        · exact z
        · rw [if_neg z] at h; exact h.elim
      rw [if_pos hok] at h
      split at h
      · rename_i st hst
        split at h
        · rename_i ρ5 hs
          have okx' := okx.later g3.si g4.tr (keep_of_okPt hok g4.kp)
          obtain ⟨_, ⟨_, r, hr, va⟩, _⟩ := okx'
          obtain ⟨qk, rk, _⟩ := con_ok g4.si oky c2
          unfold ixStp at hst
          split at hst
          · rename_i o0 xs i0
            cases hn : ixN xs.length i0 with
            | none => rw [hn] at hst; cases hst
            | some n =>
              rw [hn] at hst
              cases hst
              have e1 := rk.intI
              subst e1
              have hq4 : ∀ a ∈ q, A4 a ∧ ¬ A a := fun a z => ⟨g4.tr.a a (g3.tr.a a (hq a z).1), (hq a z).2⟩
              obtain ⟨p, vs, fp5, rfl, hpp, hl, S5, kk, bb⟩ := put_ix g4.si (show getP ρ4 j pl = some _ from c1) hr va hs r4 nd hq4 S.sub (fun a h => g4.tr.a a (g3.tr.a a (g.tr.a a h)))
              refine ⟨p, vs, i0, n, rfl, rfl, hpp, by rw [hl, ← ixN_eq]; exact hn, ?_⟩
              refine h σ _ fp5 ⟨S5, ⟨fun _ h => h, fun a u eu n0 => kk a u (G4.tr.k a u eu n0) fun j0 z => ?_, fun a b => G4.tr.b a (bb a b)⟩, fun _ _ => rfl, G4.pin.trans (.setP hs)⟩
              rcases G4.tr.b a (.inr ⟨j0, z⟩) with (y | ⟨j1, y⟩) | y
              · exact g4.si.na j0 a z (G4.tr.a a y)
              · exact n0 j1 y
              · exact absurd (y.symm.trans eu) (fun z => by cases z)
          · cases hst
        · exact h.elim
      · exact h.elim
  · exact h.elim
/-- a constant's value -/
def dV : Rw.D → V
  | .bl b => .bl b
  | .int i => .int i
  | .str x => .str ⟨x.toArray⟩
  | _ => .non
theorem dV_ok {d : Rw.D} (h : flat d = true) (K : KW) (H : Hp) (B : Addr → Prop) : Rp K H B (dV d) d [] := by
  cases d with
  | non => exact .non
  | bl b => exact .bl b
  | int i => exact .int i
  | str x => exact .str x
  | _ => cases h
def hsL (mg : Str → Option Value) (hs : List (Str × Nat × Rw.D)) : List (Value × (Addr → Value → Option Addr → TS)) := hs.map fun h => ((mg h.1).getD .none, fun _ _ _ => tAsg (tC (dV h.2.2)) (gName h.2.1))
theorem many_ok (hsub : ∀ c k r, sub c k = some r → ∀ cls ck, mg c = some cls → mg k = some ck → PySem.W.exmOne K cls ck = some r) {D : Ends} {x : Exc} {cls : Value} {d : Option Addr} (S : SI K A₀ A σ H ρ fp) (xa : XAt mg x cls d H) :
    ∀ {hs : List (Str × Nat × Rw.D)}, (∀ h ∈ hs, flat h.2.2 = true ∧ ∃ c, mg h.1 = some c) → oAll K mg A₀ A fp σ H ρ W D (match pick sub x.cls hs with
      | some (some (i, d)) => (match asgT (.nm i) true d ρ with | some ρ2 => .nx ρ2 | none => .stuck)
      | some none => .exc x ρ
      | none => .stuck) → wMany K W D (hsL mg hs) cls d σ H
  | [], _, h => h cls d σ H fp (.refl S) xa
  | (k, i, dd) :: hs, hf, h => by
    obtain ⟨f1, c, hc⟩ := hf _ List.mem_cons_self
    rw [pick] at h
    cases hs1 : sub x.cls k with
    | none => rw [hs1] at h; exact h.elim
    | some r =>
      have hm : PySem.W.exmOne K cls ((mg k).getD .none) = some r := by
        rw [show mg k = some c from hc]
        exact hsub _ _ _ hs1 _ _ xa.2 hc
      rw [hs1] at h
      refine ⟨r, hm, fun hr a _ => ?_, fun hr => ?_⟩
      · subst hr
        dsimp only at h
        cases ha : asgT (.nm i) true dd ρ with
        | none => rw [ha] at h; exact h.elim
        | some ρ2 =>
          rw [ha] at h
          refine gT_ok (A := A) (fp := fp) (ρ := ρ) (ρ' := ρ2) (.nm i) S (dV_ok f1 K H _) .nil (fun _ z => nomatch z) (fun _ => rfl) ha fun σ' fp' T => ?_
          have eA : (fun a => A a ∧ a ∉ ([] : List Addr)) = A := by funext a; simp
          have S2 := T.si
          rw [eA] at S2
          exact h σ' H fp' ⟨S2, ⟨fun _ h => h, fun _ _ e _ => e, fun a b => .inl (T.b a (by rw [eA]; exact b))⟩, T.pin, asgT_pin _ ha⟩
      · subst hr
        exact many_ok hsub S xa (fun h hh => hf h (List.mem_cons_of_mem _ hh)) h
theorem rs_try {b : List Rw.St} {hs : List (Str × Nat × Rw.D)} (hsub : ∀ c k r, sub c k = some r → ∀ cls ck, mg c = some cls → mg k = some ck → PySem.W.exmOne K cls ck = some r) (hf : ∀ h ∈ hs, flat h.2.2 = true ∧ ∃ c, mg h.1 = some c) :
    ∀ D σ H, tS K mg W F sub N (.tryx b hs) D σ H → tSs K mg (wMany K W D (hsL mg hs)) F sub N b D σ H := fun D σ H ⟨A₀, A, ρ, fp, S, h⟩ => by
  rw [evS] at h
  refine ⟨A₀, A, ρ, fp, S, ?_⟩
  cases hb : evSs F sub N b ρ with
  | exc x ρ1 =>
    rw [hb] at h
    exact fun cls d σ' H' fp' g xa => many_ok hsub g.si xa hf (oAll.later S h g)
  | nx ρ1 => rw [hb] at h; exact h
  | bk ρ1 => rw [hb] at h; exact h
  | ct ρ1 => rw [hb] at h; exact h
  | rt d ρ1 => rw [hb] at h; exact h
  | stuck => rw [hb] at h; exact h
end
end Rw

set_option Elab.async false
set_option linter.all false
set_option maxRecDepth 100000
/-! RwMa: a dict comprehension with keys of any class. -/
namespace Rw
open PySem PySem.Spec PyProof.Rows L2
section
variable {X : Cx} {s3 : Shared} {H3 : Hp} {scope : Scope} {ce : PySem.Env} {fp : List Addr}
/-- within a block: the iterator's objects stay apart -/
theorem blk_apart {σ' : L2.St} {H' : Hp} {s' : Shared} (I : L2.Inv (X.blk s3 H3 scope ce fp) [] σ' H' s') (n : ∀ b ∈ fp, H' b = none) : ∀ b ∈ fp, FpOk (X.blk s3 H3 scope ce fp) [] H' b := fun b hb => by
  have e := I.ok.exf b hb
  refine ⟨n b hb, e.1, I.ok.exfs b hb, .inl hb, fun x c h => e.2 x c h, fun p hp => ?_⟩
  have hp : p ∈ ([] : List (Addr × Obj)) := hp
  cases hp
/-- between two turns of a block -/
def BLp (X : Cx) (s3 : Shared) (H3 : Hp) (scope : Scope) (ce : PySem.Env) (fp : List Addr) (tn : Nat → Heap → Prop) (σw : L2.St) (P : Nat → Nat → Hp → Prop) (n : Nat) (s' : Shared) : Prop :=
  ∃ i H', L2.Inv (X.blk s3 H3 scope ce fp) [] σw H' s' ∧ tn i s'.heap ∧ (∀ b ∈ fp, H' b = none) ∧ P i n H'
theorem BLp.next {tn : Nat → Heap → Prop} {P : Nat → Nat → Hp → Prop} {σw σ8 : L2.St} {own : List Nat} {i n : Nat} {N : Hp → Prop} {s7 s' : Shared} {H' : Hp} (keep : ∀ i h h', tn i h → (∀ b ∈ fp, ∀ o, h.get? b = some o → h'.get? b = some o) → tn i h')
    (obj : ∀ b ∈ fp, ∃ o, s7.heap.get? b = some o ∧ ∀ v, o.data ≠ .cell v) (st : tn (i + 1) s7.heap) (hN : ∀ H', N H' → ∃ m', m' < n ∧ P (i + 1) m' H') (hw : L2.wipe σ8 own = σw) (I : L2.Inv (X.blk s3 H3 scope ce fp) ([] ++ pinsAt fp s7.heap) σ8 H' s') (nx : N H') : ∃ m, m < n ∧ BLp X s3 H3 scope ce fp tn σw P m s' := by
  obtain ⟨m, hm, w⟩ := hN H' nx
  have pin : ∀ b ∈ fp, ∀ o, s7.heap.get? b = some o → s'.heap.get? b = some o ∧ H' b = none := fun b hb o e => by
    have z := I.pin (b, o) (List.mem_append_right _ (List.mem_append_right _ (mem_pinsAt hb e)))
    exact ⟨z.1, z.2.1⟩
  refine ⟨m, hm, i + 1, H', (I.unpinned (pins := [])).weak (by rw [← hw, L2.wipe_length]) (fun j v e => ?_), keep _ _ _ st fun b hb o e => (pin b hb o e).1, fun b hb => ?_, w⟩
  · rw [← hw] at e
    exact (wipe_some e).1
  · obtain ⟨o, e, _⟩ := obj b hb
    exact (pin b hb o e).2
/-- the block's loop -/
theorem dcx_loop {kx vx tg iter : Expr} {ifs : List Expr} {pos : Pos} {g : TG} {tt : TT} {tk tv : TE} {own : List Nat} {σ : L2.St} {it D : Addr} {J : L2.It} {tn : Nat → Heap → Prop} {P : Nat → Nat → Hp → Prop} {Q : VK} {R : Result → Shared → Prop}
    (hu : X.A.units + 64 < cLine) (hc : X.calm = true) (T : Turn X.prog X.w X.K tg J fp it tn)
    (pg : PG (X.blk s3 H3 scope ce fp) tg g) (pt : PTs (X.blk s3 H3 scope ce fp) ifs tt) (pk : PE (X.blk s3 H3 scope ce fp) kx tk) (pv : PE (X.blk s3 H3 scope ce fp) vx tv)
    (turn : ∀ i m H, P i m H → (J.stop i H ∧ Q (.ref D) H) ∨ (J.go i H ∧ ∃ N : Hp → Prop, (∀ H', N H' → ∃ m', m' < m ∧ P (i + 1) m' H') ∧ ∀ x H', J.yld i H x H' → g x (L2.wipe σ own) H' fun σ2 H2 => L2.wipe σ2 own = L2.wipe σ own ∧ tt σ2 H2 fun b H3 =>
      if b = true then tk σ2 H3 fun y H4 => tv σ2 H4 fun z H5 => rSetDc X.kw (.ref D) y z H5 N else N H3))
    (fin : ∀ s' H', L2.Inv (X.blk s3 H3 scope ce fp) [] (L2.wipe σ own) H' s' → Q (.ref D) H' → R (.ok .next) s') {m : Nat} {s : Shared} (h : BLp X s3 H3 scope ce fp tn (L2.wipe σ own) P m s) :
    codeAny (model X.prog X.w) X.A (.compLoop (.DictComp kx vx [⟨tg, iter, ifs, 0⟩] scope pos) 0 (.ref it) (.ref D) ce) R s := by
  refine compLoop_anyD (BLp X s3 H3 scope ce fp tn (L2.wipe σ own) P) ?_ m h
  rintro n sa ⟨i, H5, I5, st5, n5, w5⟩
  rcases turn i n H5 w5 with ⟨stop, qq⟩ | ⟨go, N, hN, step⟩
  · refine thnF (T.done (X.blk s3 H3 scope ce fp) rfl rfl rfl hc i [] sa _ H5 (fun _ _ => False) I5 (blk_apart I5 n5) st5 stop) ?_
    rintro r s6 ⟨rfl, I6⟩
    exact fin s6 H5 I6 qq
  · refine thnF (T.item (X.blk s3 H3 scope ce fp) rfl rfl rfl hc i [] sa _ H5 (fun _ _ => False) I5 (blk_apart I5 n5) st5 go) ?_
    rintro r s6 ⟨u, rfl, h6⟩
    refine thnF h6 ?_
    rintro _ s7 ⟨x, H7, I7, r7, y7, st7, n7⟩
    have ob7 := T.obj _ _ st7
    have J7 := I7.pinned (blk_apart I7 n7) ob7
    refine thnF (pg.run _ s7 _ H7 x u _ J7 r7 (step x H7 y7)) ?_
    rintro _ s8 ⟨σ8, H8, I8, hw8, q8⟩
    refine thnF (pt.run _ s8 σ8 H8 _ I8 q8) ?_
    rintro b s9 ⟨H9, I9, q9⟩
    cases b with
    | false =>
      have q9 : N H9 := by simpa using q9
      exact BLp.next T.keep ob7 st7 hN hw8 I9 q9
    | true =>
      have q9 : tk σ8 H9 fun y H4 => tv σ8 H4 fun z H5 => rSetDc X.kw (.ref D) y z H5 N := by simpa using q9
      rw [if_pos rfl]
      refine thnF (pk.run _ s9 σ8 H9 _ I9 q9) ?_
      rintro ku s10 ⟨yk, H10, I10, r10, q10⟩
      refine thnF (pv.run _ s10 σ8 H10 _ I10 q10) ?_
      rintro vu s11 ⟨yv, H11, I11, r11, q11⟩
      refine wpAny_mono (set_dctS (X := X.blk s3 H3 scope ce fp) hu I11 r10 r11 q11) (fun _ s12 ⟨H12, I12, q12⟩ => BLp.next T.keep ob7 st7 hN hw8 I12 q12) fun _ _ z => z
end
section
variable {X : Cx}
/-- {kx: vx for tg in iter if ..}; F: what is behind it -/
theorem dcx_core {kx vx tg iter : Expr} {ifs : List Expr} {scope : Scope} {own : List (Str × Nat)} {pos pos' : Pos} {wi : TI} {g : TG} {tt : TT} {tk tv : TE} {use : Option (Value → Sem Unit)} {F : Value → Shared → Prop} {pins : List (Addr × Obj)} {s : Shared} {σ : L2.St} {H : Hp} {Q : VK}
    (hu : X.A.units + 64 < cLine) (hc : X.calm = true) (hN : X.N.Nodup) (hi : PI X tg iter wi) (ok : BlkOk X.N X.env.scope scope own)
    (hb : ∀ (s : Shared) (H : Hp) (C : Addr) (cl : List (Str × Addr)) (fp : List Addr), let Y := X.blk s H scope (compEnvC scope cl C X.env) fp; PG Y tg g ∧ PTs Y ifs tt ∧ PE Y kx tk ∧ PE Y vx tv) (hs : ∀ x, foldedSetIterable iter X.env x = pure x)
    (I : L2.Inv X pins σ H s) (h : tDcX X.kw wi g tt tk tv (own.map (·.2)) σ H Q)
    (hF : ∀ D C s' m H', L2.Inv X pins σ H' s' → Q (.ref D) H' → s'.heap.Ns C m → FpOk X pins H' C → compPost (model X.prog X.w) X.A X.xe use F (.ref D) C (.ok .next) s') :
    wpAny (model X.prog X.w) X.A (comprehension (.DictComp kx vx [⟨tg, iter, ifs, 0⟩] scope pos) scope X.env pos' newDict false (eval iter X.env) use) F X.xe s := by
  have cells : ∀ y ∈ scope.names, y.2 = .free → ∃ c, X.env.cells.lookup y.1 = some c := fun y hy e => I.ok.has _ ((ok.free y hy e).imp id id)
  refine wpAny_comprehension_free (use := use) rfl hs (closure_ok cells) ok.kind (fun y hy e => by rw [ok.uniq y hy, e]) (thn (hi.run pins s σ H _ I h) fun xv s1 hx => thn hx ?_)
  rintro itv s2 ⟨it, fp, tn, J, H2, rfl, I2, T, st2, f2, q⟩
  refine wpAny_newObj_type (newEnv_comp ?_)
  obtain ⟨D, hD⟩ : ∃ D, D = s2.heap.objs.size := ⟨_, rfl⟩
  rw [← hD]
  have freshD : H2 D = none := I2.hok.fresh (Nat.le_of_eq hD.symm)
  obtain ⟨P, ⟨m0, w0⟩, turn⟩ := q D freshD
  -- the new dict
  obtain ⟨s3, hs3⟩ : ∃ s3 : Shared, s3 = { s2 with heap := s2.heap.push { cls := .type "dict", data := .dict #[] } } := ⟨_, rfl⟩
  have heap3 : s3.heap = s2.heap.push { cls := .type "dict", data := .dict #[] } := by rw [hs3]
  have old3 : ∀ b o, s2.heap.get? b = some o → s3.heap.get? b = some o := fun b o e => by rw [heap3]; exact Heap.get?_push_of_some _ e
  have I3 : L2.Inv X pins σ (upd H2 D (.dK [])) s3 := by
    rw [hs3, hD]
    exact I2.laid (t' := s2.toks) (fun b o e => Heap.get?_push_of_some _ e) (Nat.le_refl _) (dk_empty s2.heap I2.big)
  have lt2 : ∀ b ∈ fp, b < s2.heap.objs.size := fun b hb => by
    obtain ⟨o, e, _⟩ := T.obj _ _ st2 b hb
    exact Heap.lt_size e
  have f3 : ∀ u ∈ fp, FpOk X pins (upd H2 D (.dK [])) u ∧ u < s3.heap.objs.size := fun b hb => by
    have lt := lt2 b hb
    have ne : b ≠ D := fun z => by rw [z, hD] at lt; exact Nat.lt_irrefl _ lt
    obtain ⟨z1, z2⟩ := f2 b hb
    exact ⟨⟨by rw [upd_ne ne]; exact z1, z2⟩, by rw [heap3, Heap.size_push]; exact Nat.lt_succ_of_lt lt⟩
  have st3 : tn 0 s3.heap := T.keep _ _ _ st2 fun b _ o e => old3 b o e
  have I4 := block_start I3 ok hN f3
  have b4 := hb s3 (upd H2 D (.dK [])) s3.heap.objs.size (cellsFrom (s3.heap.objs.size + 1) scope.names (cloFrom X.env.cells scope.names [])) fp
  have n3 : ∀ b ∈ fp, (upd H2 D (.dK [])) b = none := fun b hb => (f3 b hb).1.1
  have goal3 : ∀ {s' : Shared}, s' = s3 → codeAny (model X.prog X.w) X.A (.compStart (.DictComp kx vx [⟨tg, iter, ifs, 0⟩] scope pos) 0 (.ref it) (.ref D) (compEnvC scope (cellsFrom (s'.heap.objs.size + 1) scope.names (cloFrom X.env.cells scope.names [])) s'.heap.objs.size X.env))
      (compPost (model X.prog X.w) X.A X.xe use F (.ref D) s'.heap.objs.size) { s' with heap := pushCells (s'.heap.push { cls := .type "dict", data := .dict #[] }) scope.names } := by
    rintro s' rfl
    generalize hce : compEnvC scope (cellsFrom (s'.heap.objs.size + 1) scope.names (cloFrom X.env.cells scope.names [])) s'.heap.objs.size X.env = ce at I4 b4 ⊢
    have cL : ce.locals = s'.heap.objs.size := by rw [← hce] <;> rfl
    generalize hH3 : upd H2 D (.dK []) = H3 at I3 I4 b4 w0 n3 f3
    generalize hs4 : ({ s' with heap := pushCells (s'.heap.push { cls := .type "dict", data := .dict #[] }) scope.names } : Shared) = s4 at I4 ⊢
    have st4 : tn 0 s4.heap := T.keep _ _ _ st3 fun u _ ob e => hs4 ▸ pushCells_keeps _ _ _ _ (Heap.get?_push_of_some _ e)
    have loop := dcx_loop (iter := iter) (pos := pos) (R := compPost (model X.prog X.w) X.A X.xe use F (.ref D) s'.heap.objs.size) (own := own.map (·.2)) (σ := σ) (Q := Q) hu hc T b4.1 b4.2.1 b4.2.2.1 b4.2.2.2 turn (fun s6 H6 I6 qq => ?_) (m := m0) (s := s4) ⟨0, H3, I4, st4, n3, w0⟩
    · exact codeAny_compStart_dict loop (T.self X.A 0 _ _ _ st4 loop)
    · -- back in the def
      have I7 : L2.Inv X pins σ H6 s6 := I3.call' (ch := fp) I6.os I6.base I6.hok I6.bare fun b hb => by
        obtain ⟨z1, z2, z3, z4, z5, z6⟩ := (f3 b hb).1
        exact ⟨z4, z2, z5, z6⟩
      have nC : H6 s'.heap.objs.size = none := by
        have z : H6 ce.locals = none := I6.free
        rw [cL] at z; exact z
      obtain ⟨mm, hn, _⟩ := I6.loc
      have hn : s6.heap.Ns ce.locals mm := hn
      rw [cL] at hn
      exact hF D _ s6 mm H6 I7 qq hn (I3.fpOk (H' := H6) (Nat.le_refl s'.heap.objs.size) nC)
  rw [← hs3]
  exact goal3 rfl
/-- as a value -/
theorem pe_dcX {kx vx tg iter : Expr} {ifs : List Expr} {scope : Scope} {own : List (Str × Nat)} {pos : Pos} {wi : TI} {g : TG} {tt : TT} {tk tv : TE} (hu : X.A.units + 64 < cLine) (hc : X.calm = true) (hN : X.N.Nodup) (hi : PI X tg iter wi) (ok : BlkOk X.N X.env.scope scope own)
    (hb : ∀ (s : Shared) (H : Hp) (C : Addr) (cl : List (Str × Addr)) (fp : List Addr), let Y := X.blk s H scope (compEnvC scope cl C X.env) fp; PG Y tg g ∧ PTs Y ifs tt ∧ PE Y kx tk ∧ PE Y vx tv) (hs : ∀ x, foldedSetIterable iter X.env x = pure x) :
    PE X (.DictComp kx vx [⟨tg, iter, ifs, 0⟩] scope pos) (tDcX X.kw wi g tt tk tv (own.map (·.2))) := by
  refine ⟨fun pins s σ H Q I h => ?_⟩
  rw [arm_eval_DictComp]
  refine dcx_core hu hc hN hi ok hb hs I h fun D C s' m H' I' q hn f => ⟨m, hn, fun h'' sb => ?_⟩
  obtain ⟨a0, a1, _, a3, a4, a5⟩ := f
  exact ⟨.ref D, H', I'.turned (t' := s'.toks) (fun b o hb e => (sb.2 b hb).trans e) a0 a1 a3 a4 a5, rfl, q⟩
/-- name = {..} on one line, the name a local -/
theorem ps_setDcX {i : Nat} {y : Str} {py : Pos} {kx vx tg iter : Expr} {ifs : List Expr} {scope : Scope} {own : List (Str × Nat)} {pos spos : Pos} {wi : TI} {g : TG} {tt : TT} {tk tv : TE} (hu : X.A.units + 64 < cLine) (hc : X.calm = true) (hN : X.N.Nodup) (hy : X.N[i]? = some y) (hyl : X.env.scope.names.lookup y = some .local)
    (hsw : swapsWith (.DictComp kx vx [⟨tg, iter, ifs, 0⟩] scope pos) (some (.Name y py)) spos.line X.env = pure true) (hi : PI X tg iter wi) (ok : BlkOk X.N X.env.scope scope own)
    (hb : ∀ (s : Shared) (H : Hp) (C : Addr) (cl : List (Str × Addr)) (fp : List Addr), let Y := X.blk s H scope (compEnvC scope cl C X.env) fp; PG Y tg g ∧ PTs Y ifs tt ∧ PE Y kx tk ∧ PE Y vx tv) (hs : ∀ x, foldedSetIterable iter X.env x = pure x) :
    PS X (.Assign [.Name y py] (.DictComp kx vx [⟨tg, iter, ifs, 0⟩] scope pos) spos) (tAsg (tDcX X.kw wi g tt tk tv (own.map (·.2))) (gName i)) := by
  refine ⟨fun pins s σ H E I h => ?_⟩
  have run := dcx_core (use := some (assign (.Name y py) X.env)) (pos := pos) (pos' := firstIterPos [⟨tg, iter, ifs, 0⟩] pos) (F := fun _ s' => SP X pins E .next s') hu hc hN hi ok hb hs I h (fun N C s1 m H1 I1 q hn f => by
    obtain ⟨a0, a1, a2, a3, a4, a5⟩ := f
    show wpAny _ _ (assign (.Name y py) X.env (.ref N)) _ _ _
    refine wpAny_assign_Name (store_ok2 (v := V.ref N) I1 hN hy (.inl hyl) rfl ?_ (.inr hyl))
    rintro s2 I2 ⟨b, sb, hb⟩
    have ne : C ≠ b := hb.elim (fun z => by rw [z]; exact a1) fun z e => a4 y b z e.symm
    exact ⟨m, hn.sameBut sb ne, fun h3 sb3 => ⟨_, H1, I2.turned (t' := s2.toks) (fun b' o hb' e => (sb3.2 b' hb').trans e) a0 a1 a3 a4 a5, q⟩⟩)
  rw [exec_Assign_Name_used (hs := hsw)]
  exact wpAny_bind (wpAny_standAt (wpAny_bind (wpAny_bind (thn run fun _ s' hq => wpAny_pure (wpAny_pure hq)))))
end
end Rw

set_option Elab.async false
set_option linter.all false
set_option maxRecDepth 100000
/-! RwN: from the text's trees to the core syntax; each expression keeps its reading. -/
namespace Rw
open PySem PySem.Spec PyProof.Rows L2
/-- where a def's text stands: its names, its scope, what the module's names mean -/
structure CC where
  N : List Str
  sc : Scope
  /-- the names that may be stored to -/
  st : Str → Bool
  /-- the module's constants -/
  gc : Str → Option D
  /-- the defs -/
  fm : Str → Option (List Mode)
  /-- names that the module does not have -/
  bn : Str → Bool
  /-- its error classes without fields -/
  xc : Str → Bool
  /-- the names of attributes -/
  ns : List String
  /-- its classes that are made: the key of __init__; where m values are written the defaults fill up -/
  kc : Str → Option (String × Str × Nat × List D)
  /-- a method's name: the classes that have it, its keys -/
  ms : Str → List (String × Str)
def nmOf (l : List String) (x : Str) : Option String := l.find? fun s => decide (Str.ofString s = x)
theorem nmOf_ok {l : List String} {x : Str} {s : String} (h : nmOf l x = some s) : Str.ofString s = x := by
  have := List.find?_some (p := fun s => decide (Str.ofString s = x)) h
  exact of_decide_eq_true this
def idx : List Str → Str → Option Nat
  | [], _ => none
  | y :: r, x => if y = x then some 0 else (idx r x).map (· + 1)
theorem idx_get : ∀ {N : List Str} {x : Str} {i : Nat}, idx N x = some i → N[i]? = some x
  | [], _, _, h => by cases h
  | y :: r, x, i, h => by
    unfold idx at h
    split at h
    · rename_i e; cases h; simp [e]
    · cases e : idx r x with
      | none => rw [e] at h; cases h
      | some j => rw [e] at h; cases h; simpa using idx_get e
def litC : Const → Option D
  | .none => some .non
  | .bool b => some (.bl b)
  | .int i => some (.int i)
  | .str x => some (.str x.cps.toList)
  | _ => none
def cop : CmpOp → Option Cop
  | .Eq => some .eq
  | .NotEq => some .ne
  | .Lt => some .lt
  | .LtE => some .le
  | .Gt => some .gt
  | .GtE => some .ge
  | .Is => some .is
  | .IsNot => some .isnot
  | .In => some .isin
  | .NotIn => some .notin
def compL (f : Expr → Option Ex) : List Expr → Option (List Ex)
  | [] => some []
  | e :: es => match f e, compL f es with
    | some c, some cs => some (c :: cs)
    | _, _ => none
def compO (f : Expr → Option Ex) : Option Expr → Option (Option Ex)
  | none => some none
  | some e => (f e).map some
def foldB (op : BoolOp) : List Ex → Option Ex
  | [] => none
  | [a] => some a
  | a :: r => (foldB op r).map fun b => match op with
    | .And => .band a b
    | .Or => .bor a b
def isStar : Expr → Bool
  | .Starred .. => true
  | _ => false
def isSli : Expr → Bool
  | .Slice .. => true
  | _ => false
def isSet : Expr → Bool
  | .Set .. => true
  | _ => false
def isComp : Expr → Bool
  | .ListComp .. | .SetComp .. | .DictComp .. => true
  | _ => false
def isCall0 : Expr → Bool
  | .Call (.Name _ _) [] [] _ => true
  | _ => false
def ownP (N : List Str) (sc : Scope) : List (Str × Nat) := sc.names.filterMap fun p => if p.2 == .local || p.2 == .cell then (idx N p.1).map fun i => (p.1, i) else none
def CC.blk (cc : CC) (scope : Scope) : CC := { cc with sc := relS scope cc.sc, st := fun x => match scope.names.lookup x with
  | some .local => true
  | some .cell => true
  | _ => false }
def compT (cc : CC) : Nat → Expr → Option Tg
  | 0, _ => none
  | n + 1, e => match e with
    | .Name x _ => if cc.st x then (idx cc.N x).map .nm else none
    | .Tuple es _ _ => (go (compT cc n) es).map .tp
    | _ => none
where go (f : Expr → Option Tg) : List Expr → Option (List Tg)
  | [] => some []
  | e :: es => match f e, go f es with
    | some c, some cs => some (c :: cs)
    | _, _ => none
def okName (x : Str) : Bool := !(x == ("__debug__" : Str)) && (!(x == ("__classdict__" : Str)) && !(x == ("__name__" : Str)))
def tyN (x : Str) : Option String := if x = "int" then some "int" else if x = "bool" then some "bool" else if x = "str" then some "str" else if x = "tuple" then some "tuple" else if x = "list" then some "list" else if x = "dict" then some "dict" else none
def isGl (cc : CC) (x : Str) : Bool := match cc.sc.names.lookup x with
  | some .globalImplicit => true
  | _ => false
def isTupT : Expr → Bool
  | .Tuple .. => true
  | _ => false
/-- what is walked; tp: the target is a tuple -/
def compI (cc : CC) (f : Expr → Option Ex) (tp : Bool) (it : Expr) : Option It := match it with
  | .Call (.Name x _) [a] [] _ => if x = "range" then (if isGl cc x && (cc.bn x && !isStar a) then (f a).map .rng else none) else if x = "enumerate" then (if tp && (isGl cc x && (cc.bn x && !isStar a)) then (f a).map .enm else none) else (f it).map .seq
  | .Call (.Name x _) [a, b] [] _ => if x = "range" then (if isGl cc x && (cc.bn x && (!isStar a && !isStar b)) then (match f a, f b with
      | some c, some d => some (.rng2 c d)
      | _, _ => none) else none) else (f it).map .seq
  | _ => if isSet it then none else (f it).map .seq
def biOk (f : Str) : Bool := match bootBuiltins f with
  | some (.builtin _) => true
  | some (.type _) => true
  | _ => false
def mthOk (m : Str) : Bool := (m = "join" || m = "find") || (m = "append" || (m = "pop" || m = "extend"))
/-- a comprehension's tests -/
def compIf (f : Expr → Option Ex) : List Expr → Option (Option Ex)
  | [] => some none
  | [c] => (f c).map some
  | _ => none
def compE : Nat → CC → Expr → Option Ex
  | 0, _, _ => none
  | n + 1, cc, e => match e with
    | .Constant c _ _ => (litC c).map .lit
    | .Name x _ => if okName x then (match cc.sc.names.lookup x with
      | some .local => (idx cc.N x).map .var
      | some .cell => (idx cc.N x).map .var
      | some .free => (idx cc.N x).map .var
      | some .globalImplicit => (cc.gc x).map .lit
      | _ => none) else none
    | .BinOp a op b _ => (match compE n cc a, compE n cc b with
      | some c, some d => some (.bop op c d)
      | _, _ => none)
    | .UnaryOp op a _ => (match op with
      | .USub => (compE n cc a).map .neg
      | .Not => (compE n cc a).map .bnot
      | _ => none)
    | .BoolOp op vs _ => (compL (compE n cc) vs).bind (foldB op)
    | .IfExp c a b _ => (match compE n cc c, compE n cc a, compE n cc b with
      | some x, some y, some z => some (.ife x y z)
      | _, _, _ => none)
    | .Compare a ops bs _ => (match ops, bs with
      | [op], [b] => if behindInMarks op b then none else (match cop op, compE n cc a, compE n cc b with
        | some o, some x, some y => some (.cmp o x y)
        | _, _, _ => none)
      | [op, op'], [b, c] => if lastMarks [op, op'] [b, c] then none else (match cop op, cop op', compE n cc a, compE n cc b, compE n cc c with
        | some o, some o', some x, some y, some z => some (.cmp2 o o' x y z)
        | _, _, _, _, _ => none)
      | _, _ => none)
    | .Tuple es _ _ => (compL (compE n cc) es).map .tup
    | .List es _ => (compL (compE n cc) es).map .lst
    | .Subscript a i _ => (match i with
      | .Slice lo hi none _ => (match compE n cc a, compO (compE n cc) lo, compO (compE n cc) hi with
        | some x, some l, some h => some (.slc x l h)
        | _, _, _ => none)
      | i => (match compE n cc a, compE n cc i with
        | some x, some y => some (.sub x y)
        | _, _ => none))
    | .Call fn es ks cpos => (match fn, ks with
      | .Name f _, [] => if okName f && isGl cc f then
          (if f = "isinstance" then (match es with
            | [a, .Name t _] => if cc.bn f && (okName t && (isGl cc t && (cc.bn t && (tyN t).isSome))) then (compE n cc a).map (.isi · t) else none
            | _ => none)
          else if es.isEmpty then (match cc.fm f with
            | some _ => some (.call f [])
            | none => (match cc.kc f with
              | some (c, g, m, dl) => if m = 0 then none else some (.mk c g [])
              | none => none)) else (match cc.fm f with
            | some _ => (compL (compE n cc) es).map (.call f)
            | none => (match cc.kc f with
              | some (c, g, m, dl) => (compL (compE n cc) es).map fun cs => .mk c g (if es.length = m then cs ++ dl.map .lit else cs)
              | none => if cc.bn f && biOk f then (compL (compE n cc) es).map (.bi f) else none))) else none
      | .Attribute o m apos, [] => if !(cc.ms m).isEmpty then (if !isCall0 o && (apos.endLine == cpos.line && decide (es.length < 30)) then (match nmOf cc.ns m, compE n cc o, compL (compE n cc) es with
          | some s, some x, some ys => some (.mcall s (cc.ms m) x ys)
          | _, _, _ => none) else none) else if m = "get" then (match es with
          | [k] => if !isCall0 o && apos.endLine == cpos.line then (match compE n cc o, compE n cc k with
            | some x, some y => some (.dget x y)
            | _, _ => none) else none
          | _ => none) else if mthOk m && (!isCall0 o && (apos.endLine == cpos.line && decide (es.length < 30))) then (match compE n cc o, compL (compE n cc) es with
          | some x, some ys => some (.mth m x ys)
          | _, _ => none) else none
      | _, _ => none)
    | .Dict [] [] _ => some .dct0
    | .Attribute o f _ => if isCall0 o then none else (match nmOf cc.ns f, compE n cc o with
      | some s, some x => some (.fld x s)
      | _, _ => none)
    | .ListComp elt gs scope _ => (match gs with
      | [⟨tg, iter, ifs, 0⟩] => if blkC cc.N cc.sc scope (ownP cc.N scope) && !isSet iter then (match compT (cc.blk scope) n tg, compI cc (compE n cc) (isTupT tg) iter, (match ifs with
            | [] => some none
            | [c] => (compE n (cc.blk scope) c).map some
            | _ => none), compE n (cc.blk scope) elt with
          | some t, some it, some c, some e => if (tgN t).all (fun j => ((ownP cc.N scope).map (·.2)).contains j) then some (.lc ((ownP cc.N scope).map (·.2)) t it c e) else none
          | _, _, _, _ => none) else none
      | [⟨tg, iter, ifs, 0⟩, ⟨tg1, iter1, ifs1, 0⟩] => if blkC cc.N cc.sc scope (ownP cc.N scope) && (!isSet iter && !isSet iter1) then (match compT (cc.blk scope) n tg, compI cc (compE n cc) (isTupT tg) iter, compIf (compE n (cc.blk scope)) ifs,
            compT (cc.blk scope) n tg1, compI (cc.blk scope) (compE n (cc.blk scope)) (isTupT tg1) iter1, compIf (compE n (cc.blk scope)) ifs1, compE n (cc.blk scope) elt with
          | some t, some it, some c, some t1, some it1, some c1, some e => if (tgN t).all (fun j => ((ownP cc.N scope).map (·.2)).contains j) && (tgN t1).all (fun j => ((ownP cc.N scope).map (·.2)).contains j) then some (.lc2 ((ownP cc.N scope).map (·.2)) t it c (tgN t1) t1 it1 c1 e) else none
          | _, _, _, _, _, _, _ => none) else none
      | _ => none)
    | .DictComp kx vx gs scope _ => (match gs with
      | [⟨tg, iter, ifs, 0⟩] => if blkC cc.N cc.sc scope (ownP cc.N scope) && !isSet iter then (match compT (cc.blk scope) n tg, compI cc (compE n cc) (isTupT tg) iter, compIf (compE n (cc.blk scope)) ifs, compE n (cc.blk scope) kx, compE n (cc.blk scope) vx with
          | some t, some it, some c, some ek, some ev => if (tgN t).all (fun j => ((ownP cc.N scope).map (·.2)).contains j) then some (.dc ((ownP cc.N scope).map (·.2)) t it c ek ev) else none
          | _, _, _, _, _ => none) else none
      | _ => none)
    | _ => none
/-- a function's promise, as a call from here asks it -/
def FOk (X : Cx) (sp : Sp) (a : Addr) : Prop := ∃ k, FnR X.prog X.w X.K X.mg X.base (L2.CX X.prog X.w) k a sp ∧ Room (k + 1) X.A
/-- a method's promise -/
def MtP (X : Cx) (m : Str) (C : Addr) (sp : Sp) : Prop := ∃ a, FOk X sp a ∧ Cls X.K C ∧ Meth X.K C m a
/-- a context that the text may run in -/
structure XOk (xg : Str → Option Value) (F : Fn) (cc : CC) (X : Cx) (W : WX) : Prop where
  N : X.N = cc.N
  nd : X.N.Nodup
  sc : X.env.scope = cc.sc
  calm : X.calm = true
  tk : Takes X W
  un : X.A.units + 64 < cLine
  st : ∀ x, cc.st x = true → Loc X.env.scope x ∧ (X.fn x = true ∨ X.env.scope.names.lookup x = some .local)
  gc : ∀ x d, cc.gc x = some d → flat d = true ∧ ∃ u, X.mg x = some u ∧ RelV (dV d) u
  bn : ∀ x, cc.bn x = true → X.mg x = none
  fn : ∀ f ms, cc.fm f = some ms → F.modes f = some ms ∧ ∃ a, FOk X (spD X.kw xg ms (F.run f)) a ∧ X.mg f = some (.ref a) ∧ PySem.W.keepIn X.K (.ref a) = true
  fld : FldOk X.kw F
  mt : ∀ m c g ms, (cc.ms m).lookup c = some g → F.modes g = some ms → MtP X m (He.ga X.K (Str.ofString c)) (spD X.kw xg ms (F.run g))
  mkc : ∀ x c g m dl, cc.kc x = some (c, g, m, dl) → Str.ofString c = x ∧ dl.all flat = true ∧ ∃ ms a, F.modes g = some (.mu :: ms) ∧ FOk X (spD X.kw xg (.mu :: ms) (F.run g)) a ∧ FOk X (fun vs H Q E => spD X.kw xg (.mu :: ms) (F.run g) (vs ++ dl.map dV) H Q E) a ∧ Mk X.K (He.ga X.K x) a ∧ X.mg x = some (.ref (He.ga X.K x))
section
variable {xg : Str → Option Value} {F : Fn} {cc : CC} {X : Cx} {W : WX}
theorem XOk.blk (h : XOk xg F cc X W) (s : Shared) (H : Hp) (scope : Scope) (cl : List (Str × Addr)) (C : Addr) (fp : List Addr) : XOk xg F (cc.blk scope) (X.blk s H scope (compEnvC scope cl C X.env) fp) NoW where
  N := h.N
  nd := h.nd
  sc := by
    show relabel scope X.env = relS scope cc.sc
    rw [← h.sc]
    rfl
  calm := h.calm
  tk := takes_none5
  un := h.un
  st := fun x hx => by
    unfold CC.blk at hx
    dsimp only at hx
    have key : ∀ k, (k = .local ∨ k = .cell) → scope.names.lookup x = some k → (compEnvC scope cl C X.env).scope.names.lookup x = some k := fun k hk e => lookup_relS_keep (sc := X.env.scope) (by rcases hk with z | z <;> rw [z] <;> decide) e
    cases e : scope.names.lookup x with
    | none => rw [e] at hx; cases hx
    | some k =>
      rw [e] at hx
      cases k with
      | «local» => exact ⟨.inl (key _ (.inl rfl) e), .inr (key _ (.inl rfl) e)⟩
      | cell => exact ⟨.inr (key _ (.inr rfl) e), .inl (by show (scope.names.lookup x == some .cell) = true; rw [e] <;> rfl)⟩
      | _ => cases hx
  gc := h.gc
  bn := h.bn
  fn := h.fn
  fld := h.fld
  mt := h.mt
  mkc := h.mkc
theorem star_of {e : Expr} {es : List Expr} {env : PySem.Env} (h : isStar e = false) : starEach (e :: es) env = (false, eval e env) :: starEach es env := by
  cases e <;> first | rfl | cases h
end
section
variable {X : Cx} {W : WX} {x m : Str} {p pos apos cpos : Pos} {e o : Expr} {es : List Expr} {ta : TE} {t : TA} {sp : Sp} {a : Addr}
theorem run_fOk {pins : List (Addr × Obj)} {σ : L2.St} {H : Hp} {s : Shared} {Q : VK} {us : List Value} {vs : List V} (F : FOk X sp a) (tk : Takes X W) (I : Inv X pins σ H s) (r : Vals vs us) (h : sp vs H Q (WE W σ)) : wpAny (model X.prog X.w) X.A (call (.ref a) us) (EP X pins σ Q) X.xe s := by
  obtain ⟨k, FO, hr⟩ := F
  refine wpAny_call (codeAny_mono (FO X.A X.stack s H us vs Q (WE W σ) (hr.mono (Nat.le_succ _)) I.env0 r h) fun r s' hq => ?_)
  cases r with
  | error e => exact passAt tk σ pins H s e s' I hq
  | ok fl =>
    cases fl with
    | ret u => exact I.after hq
    | next => exact False.elim hq
    | brk => exact False.elim hq
    | cont => exact False.elim hq
/-- f(..) -/
theorem pe_callO (F : FOk X sp a) (tk : Takes X W) (hg : Gl X x) (hm : X.mg x = some (.ref a)) (hk : PySem.W.keepIn X.K (.ref a) = true) (ha : PA X (e :: es) t) (hdb : (x == ("__debug__" : Str)) = false)
    (he : starEach (e :: es) X.env = (false, eval e X.env) :: starEach es X.env) (hpl : (backTo pos (starEach es X.env)).any (·.1) = false) : PE X (.Call (.Name x p) (e :: es) [] pos) (tCallS sp (WE W) t) := by
  refine ⟨fun pins s σ H Q I h => ?_⟩
  refine wpAny_Call_Name_kw (ld_glob I hg hm ?_ hdb)
  refine PySem.W.callWith_K (h₀ := X.base) I.ok.mod.kin hk (thn (ha.run pos pins s σ H _ I h) fun us s1 ⟨vs, H1, I1, r, q⟩ => ⟨I1.kIn, ?_⟩) he hpl
  exact run_fOk F tk I1 r q
theorem pe_callO0 (F : FOk X sp a) (tk : Takes X W) (hg : Gl X x) (hm : X.mg x = some (.ref a)) (hk : PySem.W.keepIn X.K (.ref a) = true) (hdb : (x == ("__debug__" : Str)) = false) : PE X (.Call (.Name x p) [] [] pos) (tCallS sp (WE W) tNil) := by
  refine ⟨fun pins s σ H Q I h => ?_⟩
  refine wpAny_Call_Name_kw (ld_glob I hg hm ?_ hdb)
  exact PySem.W.callWith_K0 I.kIn hk (run_fOk (us := []) F tk I .nil h)
/-- o.m(..) -/
theorem pe_mcall0 (he : PE X o ta) (tk : Takes X W) (hbase : attributeBase o m X.env (eval o X.env) = eval o X.env) (hline : (apos.endLine == cpos.line) = true) :
    PE X (.Call (.Attribute o m apos) [] [] cpos) (tMc m (MtP X m) W ta tNil) := by
  refine ⟨fun pins s σ H Q I h => ?_⟩
  rw [arm_eval_Call, hbase]
  refine wpAny_bind (wpAny_mono (he.run pins s σ H _ I h) (fun ov s₁ h₁ => ?_) fun _ _ e => e)
  obtain ⟨x, H1, I1, rx, a, dx, fs, C, sp, ex, ea, ⟨g, F, c, hm⟩, l, q⟩ := h₁
  subst ex
  obtain rfl : ov = Value.ref a := rx
  refine wpAny_bind (wpAny_standAt ?_)
  have hform : methodCallForm (([] : List Expr).length + ([] : List Keyword).length) (backTo cpos (starEach [] X.env)) (backToKw cpos (keywordEach [] X.env)) = true := rfl
  have hpos : methodCallPos true o X.env apos cpos = pure cpos := by unfold methodCallPos; simp [hline]
  unfold methodCall
  rw [hform]
  refine wpAny_bind (wpAny_holding (getmeth_ok I1 ea c hm l ?_))
  refine wpAny_bind (wpAny_of_eq hpos ?_)
  exact PySem.W.callWith_K0 (first := [.ref a]) I1.kIn hm.kp (run_fOk (us := [.ref a]) (vs := [.ref a]) F tk I1 (.cons rfl .nil) q)
theorem pe_mcall (he : PE X o ta) (tk : Takes X W) (ha : PA X (e :: es) t) (hbase : attributeBase o m X.env (eval o X.env) = eval o X.env)
    (hfew : ((backTo cpos (starEach (e :: es) X.env)).all (fun x => !x.1) && (backToKw cpos (keywordEach [] X.env)).all (fun x => x.1.isSome)
      && decide ((e :: es).length + ([] : List Keyword).length + (if ([] : List Keyword).isEmpty then 0 else 1) < 30)) = true)
    (hline : (apos.endLine == cpos.line) = true) (hs : starEach (e :: es) X.env = (false, eval e X.env) :: starEach es X.env) (hplain : (backTo cpos (starEach es X.env)).any (·.1) = false) :
    PE X (.Call (.Attribute o m apos) (e :: es) [] cpos) (tMc m (MtP X m) W ta t) := by
  refine ⟨fun pins s σ H Q I h => ?_⟩
  rw [arm_eval_Call, hbase]
  refine wpAny_bind (wpAny_mono (he.run pins s σ H _ I h) (fun ov s₁ h₁ => ?_) fun _ _ e => e)
  obtain ⟨x, H1, I1, rx, a, dx, fs, C, sp, ex, ea, ⟨g, F, c, hm⟩, l, q⟩ := h₁
  subst ex
  obtain rfl : ov = Value.ref a := rx
  refine wpAny_bind (wpAny_standAt ?_)
  have hform : methodCallForm ((e :: es).length + ([] : List Keyword).length) (backTo cpos (starEach (e :: es) X.env)) (backToKw cpos (keywordEach [] X.env)) = true := hfew
  have hpos : methodCallPos true o X.env apos cpos = pure cpos := by unfold methodCallPos; simp [hline]
  unfold methodCall
  rw [hform]
  refine wpAny_bind (wpAny_holding (getmeth_ok I1 ea c hm l ?_))
  refine wpAny_bind (wpAny_of_eq hpos ?_)
  refine PySem.W.callWith_K (first := [.ref a]) (h₀ := X.base) I1.ok.mod.kin hm.kp (thn (ha.run cpos pins s₁ σ H1 _ I1 q) fun us s2 ⟨vs, H2, I2, r, q2⟩ => ⟨I2.kIn, ?_⟩) hs hplain
  exact run_fOk (us := .ref a :: us) (vs := .ref a :: vs) F tk I2 (.cons rfl r) q2
/-- C(..) -/
theorem run_mkO {C f : Addr} {pins : List (Addr × Obj)} {σ : L2.St} {H : Hp} {s : Shared} {Q : VK} {us : List Value} {vs : List V} (M : Mk X.K C f) (F : FOk X sp f) (tk : Takes X W) (I : Inv X pins σ H s) (r : Vals vs us)
    (h : ∀ x dx, H x = none → H dx = none → dx ≠ x → sp (.ref x :: vs) (upd (upd H dx (.own x)) x (.ins C dx [])) (fun v H2 => v = .non ∧ Q (.ref x) H2) (WE W σ)) :
    wpAny (model X.prog X.w) X.A (call (.ref C) us) (EP X pins σ Q) X.xe s := by
  obtain ⟨k, FO, hr⟩ := F
  have hq := h (s.heap.objs.size + 1) s.heap.objs.size (I.hok.fresh (Nat.le_succ _)) (I.hok.fresh (Nat.le_refl _)) (Nat.ne_of_lt (Nat.lt_succ_self _))
  have I2 := Inv.made (C := C) I
  have r2 : Vals (V.ref (s.heap.objs.size + 1) :: vs) (Value.ref (s.heap.objs.size + 1) :: us) := .cons rfl r
  refine wpAny_call (make_map (f := f) I.kIn M.makes M.init (beq_iff_eq.mp M.fn) (codeAny_mono (FO _ X.stack _ _ (Value.ref (s.heap.objs.size + 1) :: us) _ _ (WE W σ) (hr.make C us [])
    (I2.env0.make C us []) r2 hq) fun r s' hq' => ?_))
  cases r with
  | error e => exact passAt tk σ pins _ _ e s' I2 hq'
  | ok fl =>
    cases fl with
    | ret u =>
      obtain ⟨v, H', I3, rv, ev, q3⟩ := I2.after hq'
      subst ev
      exact ⟨rv, ⟨V.ref (s.heap.objs.size + 1), H', I3, rfl, q3⟩⟩
    | next => exact False.elim hq'
    | brk => exact False.elim hq'
    | cont => exact False.elim hq'
theorem pe_mkO {C f : Addr} (M : Mk X.K C f) (F : FOk X sp f) (tk : Takes X W) (hg : Gl X x) (hm : X.mg x = some (.ref C)) (ha : PA X (e :: es) t) (hdb : (x == ("__debug__" : Str)) = false)
    (he : starEach (e :: es) X.env = (false, eval e X.env) :: starEach es X.env) (hpl : (backTo pos (starEach es X.env)).any (·.1) = false) : PE X (.Call (.Name x p) (e :: es) [] pos) (tMkX C sp W t) := by
  refine ⟨fun pins s σ H Q I h => ?_⟩
  refine wpAny_Call_Name_kw (ld_glob I hg hm ?_ hdb)
  refine PySem.W.callWith_K (h₀ := X.base) I.ok.mod.kin M.kp (thn (ha.run pos pins s σ H _ I h) fun us s1 ⟨vs, H1, I1, r, q⟩ => ⟨I1.kIn, ?_⟩) he hpl
  exact run_mkO M F tk I1 r q
theorem pe_mkO0 {C f : Addr} (M : Mk X.K C f) (F : FOk X sp f) (tk : Takes X W) (hg : Gl X x) (hm : X.mg x = some (.ref C)) (hdb : (x == ("__debug__" : Str)) = false) : PE X (.Call (.Name x p) [] [] pos) (tMkX C sp W tNil) := by
  refine ⟨fun pins s σ H Q I h => ?_⟩
  refine wpAny_Call_Name_kw (ld_glob I hg hm ?_ hdb)
  exact PySem.W.callWith_K0 I.kIn M.kp (run_mkO (us := []) M F tk I .nil h)
theorem pe_dgetC {to te : TE} (hu : X.A.units + 64 < cLine) (ho : PE X o to) (he : PE X e te) (m : M1 X o "get" apos e cpos) : PE X (.Call (.Attribute o "get" apos) [e] [] cpos) (tDG X.kw to te) := by
  refine ⟨fun pins s σ H Q I h => ?_⟩
  refine wpAny_Call_method m.base m.few m.line PySem.F.plainAttrs_dict PySem.F.slot_dict_get PySem.F.type_dict_get (thn (ho.run pins s σ H _ I h) fun u s1 ⟨x, H1, I1, rx, ⟨B0, o0, kvs0, q0, r0⟩, q1⟩ => ?_)
  refine ⟨dct_typeIs I1 r0 rx, fun a ea => ?_, ?_⟩
  · obtain ⟨ob, h1, h2⟩ := dct_obj I1 r0 rx ea
    exact ⟨ob, h1, h2⟩
  rw [m.trees]
  refine Calls.callWith_builtin rfl (Calls.evalArgs_plain (Calls.spliced_cons (thn (he.run pins s1 σ H1 _ I1 q1) fun iv s2 ⟨y, H2, I2, ry, B, o2, kvs, k, qa, qb, r, r1, r2, hg, q2⟩ => Calls.spliced_nil ?_)))
  exact dct_get1 hu I2 hg r1 r2 rx ry q2
end
end Rw

set_option Elab.async false
set_option linter.all false
set_option maxRecDepth 100000
/-! RwO: each expression keeps its reading. -/
namespace Rw
open PySem PySem.Spec PyProof.Rows L2
/-! ### names moved -/
mutual
/-- the name i is mentioned -/
def menE (i : Nat) : Ex → Bool
  | .var j | .mv j => j == i
  | .lit _ | .dct0 | .dctN => false
  | .lc _ _ it c e => menI i it || (menO i c || menE i e)
  | .lc2 _ _ it c _ _ it1 c1 e => menI i it || (menO i c || (menI i it1 || (menO i c1 || menE i e)))
  | .dc _ _ it c k v => menI i it || (menO i c || (menE i k || menE i v))
  | .bop _ a b | .cmp _ a b | .band a b | .bor a b | .sub a b | .dget a b => menE i a || menE i b
  | .neg a | .bnot a | .isi a _ | .fld a _ => menE i a
  | .cmp2 _ _ a b c | .ife a b c => menE i a || (menE i b || menE i c)
  | .tup es | .lst es | .bi _ es | .call _ es | .mk _ _ es => menEs i es
  | .mcall _ _ o es => menE i o || menEs i es
  | .slc a lo hi => menE i a || (menO i lo || menO i hi)
  | .mth _ o es => menE i o || menEs i es
def menEs (i : Nat) : List Ex → Bool
  | [] => false
  | e :: es => menE i e || menEs i es
def menO (i : Nat) : Option Ex → Bool
  | none => false
  | some e => menE i e
def menI (i : Nat) : It → Bool
  | .seq e | .rng e | .enm e => menE i e
  | .rng2 a b => menE i a || menE i b
end
def mvLast : List Ex → List Ex
  | [] => []
  | e :: es => (match e with
    | .var i => if menEs i es then .var i else .mv i
    | e => e) :: mvLast es
/-- a value that is returned: its names are moved -/
def mvTop : Ex → Ex
  | .var i => .mv i
  | .tup es => .tup (mvLast es)
  | .lst es => .lst (mvLast es)
  | e => e
section
variable {K : KW} {mg xg : Str → Option Value} {F : Fn} {cc : CC} {X : Cx} {W : WX} {pos : Pos}
theorem rt_bl {e : Ex} (hb : ∀ ρ o ρ', evE F e ρ = .ok o ρ' → ∃ b, o = .fz (.bl b)) : ∀ σ H (Q : Bool → Hp → Prop), tT K mg W F e σ H Q → tE K mg W F e σ H fun x H' => ∃ k, x = .bl k ∧ Q k H' := fun σ H Q ⟨A₀, A, ρ, fp, S, h⟩ => by
  refine ⟨A₀, A, ρ, fp, S, ?_⟩
  cases he : evE F e ρ with
  | stuck => rw [he] at h; exact h
  | exc x ρ' => rw [he] at h; exact h
  | ok o ρ' =>
    rw [he] at h
    obtain ⟨b, rfl⟩ := hb _ _ _ he
    intro v H' A' fp' g ok
    obtain ⟨q, ⟨_, r⟩, _⟩ := ok
    cases r
    exact ⟨b, rfl, h H' A' fp' g⟩
theorem ofOpt_map_bl {ρ ρ' : Env} {o : Option Bool} {x : Opd} (h : ofOpt ρ (o.map fun c => .fz (.bl c)) = .ok x ρ') : ∃ b, x = .fz (.bl b) := by
  cases o with
  | none => cases h
  | some b => cases h; exact ⟨b, rfl⟩
theorem bind_ok {α β : Type} {r : Rr α} {f : α → Env → Rr β} {b : β} {ρ' : Env} (h : r.bind f = .ok b ρ') : ∃ a ρ1, r = .ok a ρ1 ∧ f a ρ1 = .ok b ρ' := by
  cases r with
  | ok a ρ1 => exact ⟨a, ρ1, rfl, h⟩
  | exc x ρ1 => cases h
  | stuck => cases h
theorem cmp_bl {op : Cop} {a b : Ex} : ∀ ρ o ρ', evE F (.cmp op a b) ρ = .ok o ρ' → ∃ b, o = .fz (.bl b) := fun ρ o ρ' h => by
  rw [evE] at h
  obtain ⟨x, ρ1, _, h⟩ := bind_ok h
  obtain ⟨y, ρ2, _, h⟩ := bind_ok h
  split at h
  · split at h
    · exact ofOpt_map_bl h
    · cases h
  · cases h
theorem cmp2_bl {op op' : Cop} {a b c : Ex} : ∀ ρ o ρ', evE F (.cmp2 op op' a b c) ρ = .ok o ρ' → ∃ b, o = .fz (.bl b) := fun ρ o ρ' h => by
  rw [evE] at h
  obtain ⟨x, ρ1, _, h⟩ := bind_ok h
  obtain ⟨y, ρ2, _, h⟩ := bind_ok h
  split at h
  · split at h
    · split at h
      · obtain ⟨z, ρ3, _, h⟩ := bind_ok h
        split at h
        · exact ofOpt_map_bl h
        · cases h
      · cases h; exact ⟨false, rfl⟩
      · cases h
    · cases h
  · cases h
theorem pt_dflt {e : Expr} {c : Ex} (h : PE X e (tE X.kw xg W F c)) (he : ∀ whole, isTrue e X.env whole = (do let v ← whole; standAt e.pos; holding [v] (truthy v)) := by intro _; rfl) : PT X e (tT X.kw xg W F c) := PT.imp (pt_truth h he) rd_tst
theorem pt_ife {c a b : Expr} {x y z : Ex} (hc : PT X c (tT X.kw xg W F x)) (ha : PT X a (tT X.kw xg W F y)) (hb : PT X b (tT X.kw xg W F z)) : PT X (.IfExp c a b pos) (tT X.kw xg W F (.ife x y z)) := by
  refine ⟨fun pins s σ H Q I ⟨A₀, A, ρ, fp, S, h⟩ => ?_⟩
  show wpAny _ _ (do if ← isTrue c X.env (eval c X.env) then isTrue a X.env (eval a X.env) else isTrue b X.env (eval b X.env)) _ _ _
  have hr : tT X.kw xg W F x σ H fun k H1 => if k = true then tT X.kw xg W F y σ H1 Q else tT X.kw xg W F z σ H1 Q := by
    refine ⟨A₀, A, ρ, fp, S, ?_⟩
    have h' : (tst (((tst (evE F x ρ)).bind fun t ρ1 => if t then evE F y ρ1 else evE F z ρ1))).all (fun b ρ' => ∀ H' A' fp', EOk X.kw A₀ A fp σ H (pureE (.ife x y z)) ρ' H' A' fp' → Q b H') (XPost X.kw xg A₀ A fp σ H W) := by
      rw [evE] at h; exact h
    cases he : tst (evE F x ρ) with
    | stuck => rw [he] at h'; exact h'
    | exc e ρ1 => rw [he] at h'; exact h'
    | ok t ρ1 =>
      rw [he] at h'
      intro H1 A1 fp1 g1
      cases t with
      | true =>
        refine ⟨A₀, A1, ρ1, fp1, g1.si, (Xmatch (show (tst (evE F y ρ1)).all _ _ from h') S g1.si g1.tr).imp (fun b ρ2 _ h H2 A2 fp2 g2 => h H2 A2 fp2 (g1.trans S g2 fun z => ?_)) fun _ _ h => h⟩
        simp [pureE] at z; simp [z]
      | false =>
        refine ⟨A₀, A1, ρ1, fp1, g1.si, (Xmatch (show (tst (evE F z ρ1)).all _ _ from h') S g1.si g1.tr).imp (fun b ρ2 _ h H2 A2 fp2 g2 => h H2 A2 fp2 (g1.trans S g2 fun z => ?_)) fun _ _ h => h⟩
        simp [pureE] at z; simp [z]
  refine wpAny_bind (thn (hc.run pins s σ H _ I hr) fun k s1 ⟨H1, I1, q1⟩ => ?_)
  cases k with
  | true => exact ha.run pins s1 σ H1 Q I1 q1
  | false => exact hb.run pins s1 σ H1 Q I1 q1
theorem PI.imp {tg it : Expr} {w w' : TI} (h : PI X tg it w) (i : ∀ σ H R, w' σ H R → w σ H R) : PI X tg it w' := ⟨fun pins s σ H R I q => h.run pins s σ H R I (i σ H R q)⟩
theorem pi_or {tg it : Expr} {w w' : TI} (h : PI X tg it w) (h' : PI X tg it w') : PI X tg it fun σ H R => w σ H R ∨ w' σ H R := ⟨fun pins s σ H R I q => q.elim (h.run pins s σ H R I) (h'.run pins s σ H R I)⟩
theorem pi_seq {tg e : Expr} {c : Ex} (h : PE X e (tE X.kw xg W F c)) : PI X tg e (tI X.kw xg W F (.seq c)) := PI.imp (pi_or (pi_list h) (pi_or (pi_tup h) (pi_str h))) rd_seq
/-- what an expression's core keeps -/
structure Kp (xg : Str → Option Value) (F : Fn) (X : Cx) (W : WX) (e : Expr) (c : Ex) : Prop where
  pe : PE X e (tE X.kw xg W F c)
  pt : PT X e (tT X.kw xg W F c)
  mv : ∀ i, c = .var i → PE X e (tE X.kw xg W F (.mv i))
theorem Kp.of {e : Expr} {c : Ex} (h : PE X e (tE X.kw xg W F c)) (hv : ∀ i, c ≠ .var i) (he : ∀ whole, isTrue e X.env whole = (do let v ← whole; standAt e.pos; holding [v] (truthy v)) := by intro _; rfl) : Kp xg F X W e c := ⟨h, pt_dflt h he, fun i e => (hv i e).elim⟩
theorem compE_star {n : Nat} {e : Expr} {c : Ex} (h : compE n cc e = some c) : isStar e = false := by
  cases n with
  | zero => cases h
  | succ n => cases e <;> first | rfl | (unfold compE at h; cases h)
theorem compL_ok {f : Expr → Option Ex} (hf : ∀ e c, f e = some c → isStar e = false) : ∀ {es : List Expr} {cs : List Ex}, compL f es = some cs → (∀ e c, f e = some c → Kp xg F X W e c) → PA X es (tEs X.kw xg W F cs) ∧ PA X es (tEs X.kw xg W F (mvLast cs))
  | [], cs, h, k => by
    cases h
    exact ⟨⟨fun pos pins s σ H Q I q => pa_nil.run pos pins s σ H Q I (rd_nil σ H Q q)⟩, ⟨fun pos pins s σ H Q I q => pa_nil.run pos pins s σ H Q I (rd_nil σ H Q q)⟩⟩
  | e :: es, cs, h, k => by
    unfold compL at h
    cases h1 : f e with
    | none => rw [h1] at h; cases h
    | some c =>
      cases h2 : compL f es with
      | none => rw [h1, h2] at h; cases h
      | some cs' =>
        rw [h1, h2] at h
        cases h
        obtain ⟨a1, a2⟩ := compL_ok hf h2 k
        have kk := k e c h1
        have hs : starEach (e :: es) X.env = (false, eval e X.env) :: starEach es X.env := star_of (hf e c h1)
        have mk : ∀ {c' : Ex} {cs' : List Ex}, PE X e (tE X.kw xg W F c') → PA X es (tEs X.kw xg W F cs') → PA X (e :: es) (tEs X.kw xg W F (c' :: cs')) := fun p a =>
          ⟨fun pos pins s σ H Q I q => (pa_cons p a hs).run pos pins s σ H Q I (rd_cons σ H Q q)⟩
        refine ⟨mk kk.pe a1, ?_⟩
        unfold mvLast
        refine mk ?_ a2
        split
        · rename_i i
          split
          · exact kk.pe
          · exact kk.mv i rfl
        · exact kk.pe
theorem tE_mono {K : KW} {mg : Str → Option Value} {e : Ex} {σ : L2.St} {H : Hp} {Q Q' : VK} (h : tE K mg W F e σ H Q) (k : ∀ v H', Q v H' → Q' v H') : tE K mg W F e σ H Q' := by
  obtain ⟨A₀, A, ρ, fp, S, h⟩ := h
  exact ⟨A₀, A, ρ, fp, S, h.imp (fun o ρ' _ h v H' A' fp' g ok => k v H' (h v H' A' fp' g ok)) fun _ _ h => h⟩
theorem tEs_mono {K : KW} {mg : Str → Option Value} {es : List Ex} {σ : L2.St} {H : Hp} {Q Q' : List V → Hp → Prop} (h : tEs K mg W F es σ H Q) (k : ∀ v H', Q v H' → Q' v H') : tEs K mg W F es σ H Q' := by
  obtain ⟨A₀, A, ρ, fp, S, h⟩ := h
  exact ⟨A₀, A, ρ, fp, S, h.imp (fun o ρ' _ ⟨h1, h⟩ => ⟨h1, fun vs H' A' fp' q g rs nd hq => k vs H' (h vs H' A' fp' q g rs nd hq)⟩) fun _ _ h => h⟩
theorem rd_lits : ∀ {ls : List D}, ls.all flat = true → ∀ {σ : L2.St} {H : Hp} {Q : List V → Hp → Prop}, tEs X.kw xg W F (ls.map .lit) σ H Q → Q (ls.map dV) H
  | [], _, σ, H, Q, q => rd_nil σ H Q q
  | d :: ls, hf, σ, H, Q, q => by
    rw [List.all_cons, Bool.and_eq_true] at hf
    have := rd_lit (fun H B => dV_ok hf.1 _ H B) σ H _ (rd_cons σ H Q q)
    exact rd_lits hf.2 (Q := fun vs H1 => Q (dV d :: vs) H1) this
/-- written values, then defaults -/
theorem compL_okD {f : Expr → Option Ex} (hf : ∀ e c, f e = some c → isStar e = false) {ls : List D} (hl : ls.all flat = true) : ∀ {es : List Expr} {cs : List Ex}, compL f es = some cs → (∀ e c, f e = some c → Kp xg F X W e c) → PA X es (fun σ H Q => tEs X.kw xg W F (cs ++ ls.map .lit) σ H fun vs H1 => ∀ vs0, vs = vs0 ++ ls.map dV → Q vs0 H1)
  | [], cs, h, k => by
    cases h
    exact ⟨fun pos pins s σ H Q I q => pa_nil.run pos pins s σ H Q I (rd_lits hl q [] rfl)⟩
  | e :: es, cs, h, k => by
    unfold compL at h
    cases h1 : f e with
    | none => rw [h1] at h; cases h
    | some c =>
      cases h2 : compL f es with
      | none => rw [h1, h2] at h; cases h
      | some cs' =>
        rw [h1, h2] at h
        cases h
        have a1 := compL_okD hf hl h2 k
        have kk := k e c h1
        have hs : starEach (e :: es) X.env = (false, eval e X.env) :: starEach es X.env := star_of (hf e c h1)
        refine ⟨fun pos pins s σ H Q I q => (pa_cons kk.pe a1 hs).run pos pins s σ H Q I ?_⟩
        refine tE_mono (rd_cons σ H _ q) fun x H1 q1 => ?_
        exact tEs_mono q1 fun vs H2 q2 vs0 e => q2 (x :: vs0) (by rw [e] <;> rfl)
theorem plain_of {b : Expr} (h : isSli b = false) : PlainIx b := fun o i => by
  cases b <;> first | rfl | cases h
theorem folded_of {e : Expr} (h : isSet e = false) (x : Value) : foldedSetIterable e X.env x = pure x := by
  cases e <;> first | rfl | cases h
theorem base_of {o : Expr} {m : Str} (h : isCall0 o = false) : attributeBase o m X.env (eval o X.env) = eval o X.env := by
  unfold attributeBase
  split
  · cases h
  · rfl
theorem noStar {es : List Expr} {env : PySem.Env} (h : ∀ e ∈ es, isStar e = false) : (backTo pos (starEach es env)).any (·.1) = false := by
  induction es with
  | nil => rfl
  | cons e es ih =>
    rw [star_of (h e List.mem_cons_self)]
    exact ih fun e' h' => h e' (List.mem_cons_of_mem _ h')
theorem noStar2 {es : List Expr} {env : PySem.Env} (h : ∀ e ∈ es, isStar e = false) : (backTo pos (starEach es env)).all (fun x => !x.1) = true := by
  induction es with
  | nil => rfl
  | cons e es ih =>
    rw [star_of (h e List.mem_cons_self)]
    exact ih fun e' h' => h e' (List.mem_cons_of_mem _ h')
theorem compL_star {f : Expr → Option Ex} (hf : ∀ e c, f e = some c → isStar e = false) : ∀ {es : List Expr} {cs : List Ex}, compL f es = some cs → ∀ e ∈ es, isStar e = false
  | [], _, _, e, he => nomatch he
  | e0 :: es, cs, h, e, he => by
    unfold compL at h
    cases h1 : f e0 with
    | none => rw [h1] at h; cases h
    | some c =>
      cases h2 : compL f es with
      | none => rw [h1, h2] at h; cases h
      | some cs' =>
        rcases List.mem_cons.mp he with z | z
        · rw [z]; exact hf e0 c h1
        · exact compL_star hf h2 e z
/-! ### targets -/
theorem compT_star {n : Nat} {e : Expr} {t : Tg} (h : compT cc n e = some t) : isStar e = false := by
  cases n with
  | zero => cases h
  | succ n => cases e <;> first | rfl | (unfold compT at h; cases h)
theorem asg_of {e : Expr} {es : List Expr} {env : PySem.Env} (h : isStar e = false) : assignEach (e :: es) env = (false, assign e env) :: assignEach es env := by
  cases e <;> first | rfl | cases h
theorem compT_ok (XO : XOk xg F cc X W) : ∀ {n : Nat} {e : Expr} {t : Tg}, compT cc n e = some t → PG X e (gT X.kw t)
  | 0, _, _, h => by cases h
  | n + 1, e, t, h => by
    cases e with
    | Name x p =>
      unfold compT at h
      dsimp only at h
      split at h
      · rename_i hs
        cases hi : idx cc.N x with
        | none => rw [hi] at h; cases h
        | some i =>
          rw [hi] at h
          cases h
          obtain ⟨h1, h2⟩ := XO.st x hs
          exact pg_name XO.nd (by rw [XO.N]; exact idx_get hi) h1 h2
      · cases h
    | Tuple es k p =>
      unfold compT at h
      dsimp only at h
      cases hg : compT.go (compT cc n) es with
      | none => rw [hg] at h; cases h
      | some ts =>
        rw [hg] at h
        cases h
        have go : ∀ {es : List Expr} {ts : List Tg}, compT.go (compT cc n) es = some ts → PGs X es (gTs X.kw ts) ∧ (assignEach es X.env).length = ts.length ∧ (assignEach es X.env).findIdx? (·.1) = none := by
          intro es
          induction es with
          | nil => intro ts h; cases h; exact ⟨pgs_nil, rfl, rfl⟩
          | cons e es ih =>
            intro ts h
            unfold compT.go at h
            cases h1 : compT cc n e with
            | none => rw [h1] at h; cases h
            | some t =>
              cases h2 : compT.go (compT cc n) es with
              | none => rw [h1, h2] at h; cases h
              | some ts' =>
                rw [h1, h2] at h
                cases h
                obtain ⟨i1, i2, i3⟩ := ih h2
                have ha := asg_of (es := es) (env := X.env) (compT_star h1)
                refine ⟨pgs_cons (compT_ok XO h1) i1 (by rw [ha] <;> rfl), by rw [ha, List.length_cons, List.length_cons, i2], ?_⟩
                rw [ha]
                simp [List.findIdx?_cons, i3]
        obtain ⟨g1, g2, g3⟩ := go hg
        exact pg_tup XO.calm g1 g2 g3
    | _ => unfold compT at h; cases h
end
end Rw

set_option Elab.async false
set_option linter.all false
set_option maxRecDepth 100000
/-! RwP: every expression that the compiler takes keeps its reading. -/
namespace Rw
open PySem PySem.Spec PyProof.Rows L2
section
variable {xg : Str → Option Value} {F : Fn} {cc : CC} {X : Cx} {W : WX}
theorem litC_ok {c : Const} {d : D} (h : litC c = some d) {k : Nat} {p : Pos} : flat d = true ∧ PE X (.Constant c k p) (tC (dV d)) := by
  cases c <;> cases h
  · exact ⟨rfl, pe_non⟩
  · exact ⟨rfl, pe_bl⟩
  · exact ⟨rfl, pe_int⟩
  · exact ⟨rfl, pe_str⟩
theorem cop_ok {op : CmpOp} {o : Cop} (h : cop op = some o) : op = copOf o := by cases op <;> cases h <;> rfl
theorem okName_ok {x : Str} (h : okName x = true) : (x == ("__debug__" : Str)) = false ∧ (x == ("__classdict__" : Str)) = false ∧ x ≠ "__name__" := by
  unfold okName at h
  rw [Bool.and_eq_true, Bool.and_eq_true] at h
  refine ⟨by simpa using h.1, by simpa using h.2.1, fun e => ?_⟩
  have := h.2.2
  rw [e] at this
  revert this
  decide +kernel
theorem isGl_ok (XO : XOk xg F cc X W) {x : Str} (h : isGl cc x = true) : Gl X x := by
  unfold isGl at h
  show X.env.scope.names.lookup x = _
  rw [XO.sc]
  split at h
  · rename_i e; exact e
  · cases h
theorem rd_litT {d : D} (hf : flat d = true) : ∀ σ H Q, tE X.kw xg W F (.lit d) σ H Q → tC (dV d) σ H Q := rd_lit fun H B => dV_ok hf _ H B
theorem tyN_ok {t : Str} {T : String} (h : tyN t = some T) : t = Str.ofString T ∧ T ∈ ["int", "bool", "str", "tuple", "list", "dict"] ∧ bootBuiltins t = some (.type T) := by
  unfold tyN at h
  split at h
  · rename_i e; cases h; rw [e]; exact ⟨rfl, by simp, rfl⟩
  split at h
  · rename_i e; cases h; rw [e]; exact ⟨rfl, by simp, rfl⟩
  split at h
  · rename_i e; cases h; rw [e]; exact ⟨rfl, by simp, rfl⟩
  split at h
  · rename_i e; cases h; rw [e]; exact ⟨rfl, by simp, rfl⟩
  split at h
  · rename_i e; cases h; rw [e]; exact ⟨rfl, by simp, rfl⟩
  split at h
  · rename_i e; cases h; rw [e]; exact ⟨rfl, by simp, rfl⟩
  · cases h
/-- and, or -/
theorem foldB_ok {op : BoolOp} {f : Expr → Option Ex} {p : Pos} : ∀ {es : List Expr} {cs : List Ex} {c : Ex}, compL f es = some cs → foldB op cs = some c → (∀ e c, f e = some c → Kp xg F X W e c) →
    PE X (.BoolOp op es p) (tE X.kw xg W F c) ∧ PW X (.BoolOp op es p) (tT X.kw xg W F c) ∧ ∀ i, c = .var i → PE X (.BoolOp op es p) (tE X.kw xg W F (.mv i))
  | [], cs, c, h1, h2, k => by cases h1; cases h2
  | e :: es, cs, c, h1, h2, k => by
    unfold compL at h1
    cases g1 : f e with
    | none => rw [g1] at h1; cases h1
    | some x =>
      cases g2 : compL f es with
      | none => rw [g1, g2] at h1; cases h1
      | some xs =>
        rw [g1, g2] at h1
        cases h1
        have kk := k e x g1
        cases es with
        | nil =>
          cases g2
          cases h2
          refine ⟨pe_one kk.pe, ?_, fun i e => pe_one (kk.mv i e)⟩
          cases op with
          | And => exact pw_and1 kk.pt
          | Or => exact pw_or1 kk.pt
        | cons e2 es =>
          cases xs with
          | nil =>
            exfalso
            unfold compL at g2
            split at g2 <;> cases g2
          | cons x2 xs =>
            cases g3 : foldB op (x2 :: xs) with
            | none =>
              exfalso
              have : foldB op (x :: x2 :: xs) = none := by
                show (foldB op (x2 :: xs)).map _ = none
                rw [g3] <;> rfl
              rw [this] at h2; cases h2
            | some y =>
              obtain ⟨i1, i2, _⟩ := foldB_ok (p := p) g2 g3 k
              cases op with
              | And =>
                have e : foldB .And (x :: x2 :: xs) = some (.band x y) := by
                  show (foldB .And (x2 :: xs)).map _ = _
                  rw [g3] <;> rfl
                rw [e] at h2
                cases h2
                exact ⟨PE.imp (pe_andT kk.pe i1) rd_band, ⟨fun wh pins s σ H Q I q => (pw_and kk.pt i2).run wh pins s σ H Q I (rt_band σ H Q q)⟩, fun i e => by cases e⟩
              | Or =>
                have e : foldB .Or (x :: x2 :: xs) = some (.bor x y) := by
                  show (foldB .Or (x2 :: xs)).map _ = _
                  rw [g3] <;> rfl
                rw [e] at h2
                cases h2
                exact ⟨PE.imp (pe_orT kk.pe i1) rd_bor, ⟨fun wh pins s σ H Q I q => (pw_or kk.pt i2).run wh pins s σ H Q I (rt_bor σ H Q q)⟩, fun i e => by cases e⟩
theorem compO_ok {f : Expr → Option Ex} {o : Option Expr} {c : Option Ex} (h : compO f o = some c) (k : ∀ e c, f e = some c → Kp xg F X W e c) : PO X o (tO X.kw xg W F c) := by
  cases o with
  | none =>
    cases h
    exact ⟨fun pins s σ H Q I q => po_none.run pins s σ H Q I (rd_none σ H Q q)⟩
  | some e =>
    unfold compO at h
    dsimp only at h
    cases g : f e with
    | none => rw [g] at h; cases h
    | some x =>
      rw [g] at h
      cases h
      exact ⟨fun pins s σ H Q I q => (po_some (k e x g).pe).run pins s σ H Q I (rd_some σ H Q q)⟩
theorem compI_ok (XO : XOk xg F cc X W) {f : Expr → Option Ex} {it : Expr} {c : It} {tp : Bool} {tg : Expr} (htp : tp = true → isTupT tg = true) (h : compI cc f tp it = some c) (hs : ∀ e c, f e = some c → isStar e = false) (k : ∀ e c, f e = some c → Kp xg F X W e c) : PI X tg it (tI X.kw xg W F c) := by
  have seq : ∀ {it : Expr} {c : It}, (f it).map It.seq = some c → PI X tg it (tI X.kw xg W F c) := fun {it c} h => by
    cases g : f it with
    | none => rw [g] at h; cases h
    | some x =>
      rw [g] at h
      cases h
      exact pi_seq (k it x g).pe
  unfold compI at h
  split at h
  · rename_i x p a p2
    split at h
    · rename_i hx
      subst hx
      split at h
      · rename_i hc
        rw [Bool.and_eq_true, Bool.and_eq_true] at hc
        cases g : f a with
        | none => rw [g] at h; cases h
        | some y =>
          rw [g] at h
          cases h
          have e1 : starEach [a] X.env = [(false, eval a X.env)] := star_of (hs a y g)
          have pa : PA X [a] (tCons (tE X.kw xg W F y) tNil) := pa_cons (k a y g).pe pa_nil e1
          exact PI.imp (pi_range1 (isGl_ok XO hc.1) (XO.bn _ hc.2.1) pa e1) rd_rng
      · cases h
    · split at h
      · rename_i hx
        subst hx
        split at h
        · rename_i hc
          rw [Bool.and_eq_true, Bool.and_eq_true, Bool.and_eq_true] at hc
          cases g : f a with
          | none => rw [g] at h; cases h
          | some y =>
            rw [g] at h
            cases h
            have e1 : starEach [a] X.env = [(false, eval a X.env)] := star_of (hs a y g)
            have pa : PA X [a] (tCons (tE X.kw xg W F y) tNil) := pa_cons (k a y g).pe pa_nil e1
            have ht := htp hc.1
            cases tg with
            | Tuple es kk tpos => exact PI.imp (pi_enum (isGl_ok XO hc.2.1) (XO.bn _ hc.2.2.1) pa e1) rd_enm
            | _ => cases ht
        · cases h
      · exact seq h
  · rename_i x p a b p2
    split at h
    · rename_i hx
      subst hx
      split at h
      · rename_i hc
        rw [Bool.and_eq_true, Bool.and_eq_true] at hc
        split at h
        · rename_i y z g1 g2
          cases h
          have e2 : starEach [b] X.env = [(false, eval b X.env)] := star_of (hs b z g2)
          have e1 : starEach [a, b] X.env = [(false, eval a X.env), (false, eval b X.env)] := by rw [star_of (hs a y g1), e2]
          have pa : PA X [a, b] (tCons (tE X.kw xg W F y) (tCons (tE X.kw xg W F z) tNil)) := pa_cons (k a y g1).pe (pa_cons (k b z g2).pe pa_nil e2) (star_of (hs a y g1))
          exact PI.imp (pi_range2 (isGl_ok XO hc.1) (XO.bn _ hc.2.1) pa e1 e2) rd_rng2
        · cases h
      · cases h
    · exact seq h
  · split at h
    · cases h
    · exact seq h
theorem compIf_ok {f : Expr → Option Ex} (XO : XOk xg F cc X W) {ifs : List Expr} {c : Option Ex} (h : compIf f ifs = some c) (k : ∀ e c, f e = some c → Kp xg F X NoW e c) : PTs X ifs (tC1 X.kw xg F c) := by
  unfold compIf at h
  split at h
  · cases h; exact pts_nil
  · rename_i cx
    cases g : f cx with
    | none => rw [g] at h; cases h
    | some y =>
      rw [g] at h
      cases h
      exact pts_one (k cx y g).pt
  · cases h
abbrev EAll (xg : Str → Option Value) (F : Fn) (n : Nat) : Prop := ∀ {cc : CC} {X : Cx} {W : WX} {e : Expr} {c : Ex}, XOk xg F cc X W → compE n cc e = some c → Kp xg F X W e c
theorem folded_any {e : Expr} (h : isSet e = false) (env : PySem.Env) (x : Value) : foldedSetIterable e env x = pure x := by
  cases e <;> first | rfl | cases h
theorem lc2_ok (n : Nat) (ih : EAll xg F n) (XO : XOk xg F cc X W) {tg iter tg1 iter1 elt : Expr} {ifs ifs1 : List Expr} {scope : Scope} {p : Pos} {t t1 : Tg} {it it1 : It} {c c1 : Option Ex} {e : Ex}
    (hb : blkC cc.N cc.sc scope (ownP cc.N scope) = true) (hs : isSet iter = false) (hs1 : isSet iter1 = false) (g1 : compT (cc.blk scope) n tg = some t) (g2 : compI cc (compE n cc) (isTupT tg) iter = some it) (g3 : compIf (compE n (cc.blk scope)) ifs = some c)
    (g4 : compT (cc.blk scope) n tg1 = some t1) (g5 : compI (cc.blk scope) (compE n (cc.blk scope)) (isTupT tg1) iter1 = some it1) (g6 : compIf (compE n (cc.blk scope)) ifs1 = some c1) (g7 : compE n (cc.blk scope) elt = some e)
    (ht : ((tgN t).all (fun j => ((ownP cc.N scope).map (·.2)).contains j) && (tgN t1).all (fun j => ((ownP cc.N scope).map (·.2)).contains j)) = true) :
    PE X (.ListComp elt [⟨tg, iter, ifs, 0⟩, ⟨tg1, iter1, ifs1, 0⟩] scope p) (tE X.kw xg W F (.lc2 ((ownP cc.N scope).map (·.2)) t it c (tgN t1) t1 it1 c1 e)) := by
  rw [Bool.and_eq_true] at ht
  have BO : BlkOk X.N X.env.scope scope (ownP cc.N scope) := by
    rw [XO.N, XO.sc]
    exact blkOk_by hb
  have ht0 : ∀ j ∈ tgN t, j ∈ (ownP cc.N scope).map (·.2) := fun j hj => by simpa using List.all_eq_true.mp ht.1 j hj
  have ht1 : ∀ j ∈ tgN t1, j ∈ (ownP cc.N scope).map (·.2) := fun j hj => by simpa using List.all_eq_true.mp ht.2 j hj
  have XB := fun (s : Shared) (H : Hp) (C : Addr) (cl : List (Str × Addr)) (fp : List Addr) => XO.blk s H scope cl C fp
  have e1 := compI_ok XO id g2 (fun e c h => compE_star h) fun e c h => ih XO h
  have h := pe_lc2 (X := X) (elt := elt) (tg := tg) (iter := iter) (tg1 := tg1) (iter1 := iter1) (ifs := ifs) (ifs1 := ifs1) (pos := p) (scope := scope) (own := ownP cc.N scope) (vs1 := tgN t1) XO.calm XO.nd e1 BO ht1 (g := gT X.kw t) (tt := tC1 X.kw xg F c) (wi1 := tI X.kw xg NoW F it1) (g1 := gT X.kw t1) (tt1 := tC1 X.kw xg F c1) (te := tE X.kw xg NoW F e)
    (fun s H C cl fp => compT_ok (XB s H C cl fp) g1) (fun s H C cl fp => compIf_ok (XB s H C cl fp) g3 fun e c h => ih (XB s H C cl fp) h) (fun s H C cl fp => compI_ok (XB s H C cl fp) id g5 (fun e c h => compE_star h) fun e c h => ih (XB s H C cl fp) h)
    (fun s H C cl fp => compT_ok (XB s H C cl fp) g4) (fun s H C cl fp => compIf_ok (XB s H C cl fp) g6 fun e c h => ih (XB s H C cl fp) h) (fun s H C cl fp => (ih (XB s H C cl fp) g7).pe) (folded_of hs) (folded_any hs1)
  exact PE.imp h (rd_lc2 ht0 fun _ h => h)
theorem dc_ok (n : Nat) (ih : EAll xg F n) (XO : XOk xg F cc X W) {tg iter kx vx : Expr} {ifs : List Expr} {scope : Scope} {p : Pos} {t : Tg} {it : It} {c : Option Ex} {ek ev : Ex}
    (hb : blkC cc.N cc.sc scope (ownP cc.N scope) = true) (hs : isSet iter = false) (g1 : compT (cc.blk scope) n tg = some t) (g2 : compI cc (compE n cc) (isTupT tg) iter = some it) (g3 : compIf (compE n (cc.blk scope)) ifs = some c)
    (g4 : compE n (cc.blk scope) kx = some ek) (g5 : compE n (cc.blk scope) vx = some ev) (ht : (tgN t).all (fun j => ((ownP cc.N scope).map (·.2)).contains j) = true) :
    PE X (.DictComp kx vx [⟨tg, iter, ifs, 0⟩] scope p) (tE X.kw xg W F (.dc ((ownP cc.N scope).map (·.2)) t it c ek ev)) := by
  have BO : BlkOk X.N X.env.scope scope (ownP cc.N scope) := by
    rw [XO.N, XO.sc]
    exact blkOk_by hb
  have ht0 : ∀ j ∈ tgN t, j ∈ (ownP cc.N scope).map (·.2) := fun j hj => by simpa using List.all_eq_true.mp ht j hj
  have XB := fun (s : Shared) (H : Hp) (C : Addr) (cl : List (Str × Addr)) (fp : List Addr) => XO.blk s H scope cl C fp
  exact PE.imp (pe_dcX XO.un XO.calm XO.nd (compI_ok XO id g2 (fun e c h => compE_star h) fun e c h => ih XO h) BO (g := gT X.kw t) (tt := tC1 X.kw xg F c) (tk := tE X.kw xg NoW F ek) (tv := tE X.kw xg NoW F ev)
    (fun s H C cl fp => ⟨compT_ok (XB s H C cl fp) g1, compIf_ok (XB s H C cl fp) g3 (fun e c h => ih (XB s H C cl fp) h), (ih (XB s H C cl fp) g4).pe, (ih (XB s H C cl fp) g5).pe⟩) (folded_of hs)) (rd_dc ht0)
theorem compE_ok : ∀ (n : Nat) {cc : CC} {X : Cx} {W : WX} {e : Expr} {c : Ex}, XOk xg F cc X W → compE n cc e = some c → Kp xg F X W e c
  | 0, cc, X, W, e, c, XO, h => by cases h
  | n + 1, cc, X, W, e, c, XO, h => by
    have ih : ∀ e c, compE n cc e = some c → Kp xg F X W e c := fun e c h => compE_ok n XO h
    have stars : ∀ e c, compE n cc e = some c → isStar e = false := fun e c h => compE_star h
    cases e with
    | Constant k j p =>
      unfold compE at h
      dsimp only at h
      cases g : litC k with
      | none => rw [g] at h; cases h
      | some d =>
        rw [g] at h
        cases h
        obtain ⟨hf, pe⟩ := litC_ok (X := X) g (k := j) (p := p)
        exact .of (PE.imp pe (rd_litT hf)) (fun i e => by cases e)
    | Name x p =>
      unfold compE at h
      dsimp only at h
      split at h
      · rename_i hn
        obtain ⟨n1, n2, n3⟩ := okName_ok hn
        have var : Vis X.env.scope x → (idx cc.N x).map Ex.var = some c → Kp xg F X W (.Name x p) c := fun hv h => by
          cases g : idx cc.N x with
          | none => rw [g] at h; cases h
          | some i =>
            rw [g] at h
            cases h
            have pe : PE X (.Name x p) (tVar i) := pe_var (by rw [XO.N]; exact idx_get g) hv n1 n2
            exact ⟨PE.imp pe rd_var, pt_dflt (PE.imp pe rd_var), fun j e => by cases e; exact PE.imp pe rd_mv⟩
        split at h
        · rename_i hl; exact var (.inl (by rw [XO.sc]; exact hl)) h
        · rename_i hl; exact var (.inr (.inl (by rw [XO.sc]; exact hl))) h
        · rename_i hl; exact var (.inr (.inr (by rw [XO.sc]; exact hl))) h
        · rename_i hl
          cases g : cc.gc x with
          | none => rw [g] at h; cases h
          | some d =>
            rw [g] at h
            cases h
            obtain ⟨hf, u, hm, r⟩ := XO.gc x d g
            have hg : Gl X x := by show X.env.scope.names.lookup x = _; rw [XO.sc]; exact hl
            exact .of (PE.imp (pe_glob hg hm r n1) (rd_litT hf)) (fun i e => by cases e)
        · cases h
      · cases h
    | BinOp a op b p =>
      unfold compE at h
      dsimp only at h
      split at h
      · rename_i x y g1 g2
        cases h
        exact .of (PE.imp (pe_op (op_bin op) (ih _ _ g1).pe (ih _ _ g2).pe) rd_bop) (fun i e => by cases e)
      · cases h
    | UnaryOp op a p =>
      unfold compE at h
      dsimp only at h
      cases g : compE n cc a with
      | none => rw [g] at h; cases op <;> cases h
      | some x =>
        rw [g] at h
        cases op with
        | USub =>
          cases h
          exact .of (PE.imp (pe_un un_neg (ih _ _ g).pe) rd_neg) (fun i e => by cases e)
        | Not =>
          cases h
          exact ⟨PE.imp (pe_notT (ih _ _ g).pe) rd_bnot, PT.imp (pt_not (ih _ _ g).pt) rt_bnot, fun i e => by cases e⟩
        | _ => cases h
    | BoolOp op vs p =>
      unfold compE at h
      dsimp only at h
      cases g : compL (compE n cc) vs with
      | none => rw [g] at h; cases h
      | some cs =>
        rw [g] at h
        obtain ⟨h1, h2, h3⟩ := foldB_ok (p := p) g h ih
        exact ⟨h1, h2.pt, h3⟩
    | IfExp t a b p =>
      unfold compE at h
      dsimp only at h
      split at h
      · rename_i x y z g1 g2 g3
        cases h
        exact ⟨PE.imp (pe_ifExp (ih _ _ g1).pt (ih _ _ g2).pe (ih _ _ g3).pe) rd_ife, pt_ife (ih _ _ g1).pt (ih _ _ g2).pt (ih _ _ g3).pt, fun i e => by cases e⟩
      · cases h
    | Compare a ops bs p =>
      unfold compE at h
      dsimp only at h
      split at h
      · rename_i op b
        split at h
        · cases h
        · rename_i hm
          have hm : behindInMarks op b = false := by simpa using hm
          split at h
          · rename_i o x y g0 g1 g2
            cases h
            have e := cop_ok g0
            subst e
            exact ⟨PE.imp (pe_cmpR (op_cmp XO.un o) (ih _ _ g1).pe (ih _ _ g2).pe hm) rd_cmp, PT.imp (pt_cmpR (op_cmp XO.un o) (ih _ _ g1).pe (ih _ _ g2).pe hm) (fun σ H Q q => rd_cmp σ H _ (rt_bl cmp_bl σ H Q q)), fun i e => by cases e⟩
          · cases h
      · rename_i op op' b c'
        split at h
        · cases h
        · rename_i hm
          have hm : lastMarks [op, op'] [b, c'] = false := by simpa using hm
          split at h
          · rename_i o o' x y z g0 g0' g1 g2 g3
            cases h
            have e := cop_ok g0
            subst e
            have e := cop_ok g0'
            subst e
            exact ⟨PE.imp (pe_chain (op_cmp XO.un o) (op_cmp XO.un o') (ih _ _ g1).pe (ih _ _ g2).pe (ih _ _ g3).pe hm) rd_cmp2, PT.imp (pt_chain (op_cmp XO.un o) (op_cmp XO.un o') (ih _ _ g1).pe (ih _ _ g2).pe (ih _ _ g3).pe hm) (fun σ H Q q => rd_cmp2 σ H _ (rt_bl cmp2_bl σ H Q q)), fun i e => by cases e⟩
          · cases h
      · cases h
    | Tuple es k p =>
      unfold compE at h
      dsimp only at h
      cases g : compL (compE n cc) es with
      | none => rw [g] at h; cases h
      | some cs =>
        rw [g] at h
        cases h
        exact .of (PE.imp (pe_tup (compL_ok stars g ih).1) rd_tup) (fun i e => by cases e)
    | List es p =>
      unfold compE at h
      dsimp only at h
      cases g : compL (compE n cc) es with
      | none => rw [g] at h; cases h
      | some cs =>
        rw [g] at h
        cases h
        exact .of (PE.imp (pe_lst (compL_ok stars g ih).1) rd_lst) (fun i e => by cases e)
    | Subscript a i p =>
      unfold compE at h
      dsimp only at h
      split at h
      · rename_i lo hi p2
        split at h
        · rename_i x l u g1 g2 g3
          cases h
          exact .of (PE.imp (pe_slice sl_sli (ih _ _ g1).pe (compO_ok g2 ih) (compO_ok g3 ih)) rd_slc) (fun i e => by cases e)
        · cases h
      · split at h
        · rename_i x y g1 g2
          cases h
          have hi : isSli i = false := by
            cases i <;> first | rfl | (exfalso; cases n with
              | zero => cases g2
              | succ n => unfold compE at g2; cases g2)
          exact .of (PE.imp (pe_ix (ix_idx XO.un) (ih _ _ g1).pe (ih _ _ g2).pe (plain_of hi)) rd_sub) (fun i e => by cases e)
        · cases h
    | Call fn es ks cpos =>
      unfold compE at h
      dsimp only at h
      split at h
      · rename_i f p
        split at h
        · rename_i hc
          rw [Bool.and_eq_true] at hc
          obtain ⟨n1, n2, n3⟩ := okName_ok hc.1
          have hg := isGl_ok XO hc.2
          split at h
          · rename_i hf
            subst hf
            split at h
            · rename_i a t p2
              split at h
              · rename_i hb
                rw [Bool.and_eq_true, Bool.and_eq_true, Bool.and_eq_true, Bool.and_eq_true] at hb
                obtain ⟨hb1, ht1, ht2, ht3, ht4⟩ := hb
                obtain ⟨T, hT⟩ := Option.isSome_iff_exists.mp ht4
                obtain ⟨t1, t2, t3⟩ := tyN_ok hT
                obtain ⟨m1, m2, m3⟩ := okName_ok ht1
                cases g : compE n cc a with
                | none => rw [g] at h; cases h
                | some x =>
                  rw [g] at h
                  cases h
                  have pn : PE X (.Name t p2) (tC (.ty T)) := pe_bltn (isGl_ok XO ht2) (XO.bn _ ht3) t3 rfl m3 m1
                  have e2 : starEach [Expr.Name t p2] X.env = [(false, eval (.Name t p2) X.env)] := rfl
                  have pa : PA X [a, .Name t p2] (tCons (tE X.kw xg W F x) (tCons (tC (.ty T)) tNil)) := pa_cons (ih _ _ g).pe (pa_cons pn pa_nil e2) (star_of (stars _ _ g))
                  exact .of (PE.imp (pe_callB (isi_ok t1 t2) hg (XO.bn _ hb1) (show bootBuiltins "isinstance" = some (.builtin "isinstance") from rfl) pa n3 n1 (star_of (stars _ _ g)) rfl) rd_isi) (fun i e => by cases e)
              · cases h
            · cases h
          · split at h
            · rename_i he
              cases es with
              | cons e0 es => cases he
              | nil =>
                split at h
                · rename_i ms hm
                  cases h
                  obtain ⟨hmo, a, FO, hmg, hk⟩ := XO.fn f ms hm
                  refine .of (PE.imp (pe_callO0 FO XO.tk hg hmg hk n1) fun σ H Q q => ?_) (fun i e => by cases e)
                  exact rd_nil σ H _ (rd_call hmo σ H Q q)
                · split at h
                  · rename_i c' g' m' dl' hkc
                    split at h
                    · cases h
                    cases h
                    obtain ⟨e1, _, ms, a, hmo, FO, _, MK, hmg⟩ := XO.mkc f c' g' _ _ hkc
                    subst e1
                    refine .of (PE.imp (pe_mkO0 MK FO XO.tk hg hmg n1) fun σ H Q q => ?_) (fun i e => by cases e)
                    exact rd_nil σ H _ (rd_mk hmo σ H Q q)
                  · cases h
            · rename_i hne
              cases es with
              | nil => exact (hne rfl).elim
              | cons e0 es =>
                split at h
                · rename_i ms hm
                  cases g : compL (compE n cc) (e0 :: es) with
                  | none => rw [g] at h; cases h
                  | some cs =>
                    rw [g] at h
                    cases h
                    obtain ⟨hmo, a, FO, hmg, hk⟩ := XO.fn f ms hm
                    have hst := compL_star stars g
                    exact .of (PE.imp (pe_callO FO XO.tk hg hmg hk (compL_ok stars g ih).1 n1 (star_of (hst _ List.mem_cons_self)) (noStar fun e he => hst e (List.mem_cons_of_mem _ he))) (rd_call hmo)) (fun i e => by cases e)
                · rename_i hm
                  split at h
                  · rename_i c' g' m' dl' hkc
                    cases g : compL (compE n cc) (e0 :: es) with
                    | none => rw [g] at h; cases h
                    | some cs =>
                      rw [g] at h
                      cases h
                      obtain ⟨e1, hfl, ms, a, hmo, FO, FD, MK, hmg⟩ := XO.mkc f c' g' _ _ hkc
                      subst e1
                      have hst := compL_star stars g
                      refine .of ?_ (fun i e => by cases e)
                      dsimp only
                      by_cases hl : (e0 :: es).length = m'
                      · rw [if_pos hl]
                        refine PE.imp (pe_mkO MK FD XO.tk hg hmg (compL_okD stars hfl g ih) n1 (star_of (hst _ List.mem_cons_self)) (noStar fun e he => hst e (List.mem_cons_of_mem _ he))) fun σ H Q q => ?_
                        refine tEs_mono (rd_mk hmo σ H Q q) fun vs H1 q1 vs0 e => ?_
                        subst e
                        exact q1
                      · rw [if_neg hl]
                        exact PE.imp (pe_mkO MK FO XO.tk hg hmg (compL_ok stars g ih).1 n1 (star_of (hst _ List.mem_cons_self)) (noStar fun e he => hst e (List.mem_cons_of_mem _ he))) (rd_mk hmo)
                  · rename_i hkc
                    split at h
                    · rename_i hb
                      rw [Bool.and_eq_true] at hb
                      cases g : compL (compE n cc) (e0 :: es) with
                      | none => rw [g] at h; cases h
                      | some cs =>
                        rw [g] at h
                        cases h
                        have hst := compL_star stars g
                        have hs1 := star_of (es := es) (env := X.env) (hst _ List.mem_cons_self)
                        have hs2 := noStar (pos := cpos) (env := X.env) fun e he => hst e (List.mem_cons_of_mem _ he)
                        have hbo := hb.2
                        unfold biOk at hbo
                        split at hbo
                        · rename_i id hv
                          exact .of (PE.imp (pe_callB (call_bi XO.calm hv) hg (XO.bn _ hb.1) hv (compL_ok stars g ih).1 n3 n1 hs1 hs2) rd_bi) (fun i e => by cases e)
                        · rename_i T hv
                          exact .of (PE.imp (pe_callTy (call_bi XO.calm hv) hg (XO.bn _ hb.1) hv (compL_ok stars g ih).1 n3 n1 hs1 hs2) rd_bi) (fun i e => by cases e)
                        · cases hbo
                    · cases h
        · cases h
      · rename_i o m apos
        split at h
        · split at h
          · rename_i hc
            rw [Bool.and_eq_true, Bool.and_eq_true] at hc
            obtain ⟨ho, hl, hf⟩ := hc
            have ho : isCall0 o = false := by simpa using ho
            split at h
            · rename_i s x ys g0 g1 g2
              cases h
              have e0 := nmOf_ok g0
              subst e0
              have hst := compL_star stars g2
              have pa := (compL_ok stars g2 ih).1
              have rd := rd_mcall (K := X.kw) (mg := xg) (F := F) (W := W) (m := s) (gs := cc.ms (Str.ofString s)) (a := x) (es := ys) (P := MtP X (Str.ofString s)) fun c g ms h1 h2 => XO.mt _ c g ms h1 h2
              refine .of ?_ (fun i e => by cases e)
              cases es with
              | nil =>
                cases g2
                refine PE.imp (pe_mcall0 (ih _ _ g1).pe XO.tk (base_of ho) hl) fun σ H Q q => ?_
                refine tE_mono (rd σ H Q q) ?_
                rintro v H1 ⟨a, dx, fs, C, sp, k1, k2, k3, k4, k5⟩
                exact ⟨a, dx, fs, C, sp, k1, k2, k3, k4, rd_nil σ H1 _ k5⟩
              | cons e0 es =>
                refine PE.imp (pe_mcall (ih _ _ g1).pe XO.tk pa (base_of ho) ?_ hl (star_of (hst _ List.mem_cons_self)) (noStar fun e he => hst e (List.mem_cons_of_mem _ he))) rd
                rw [Bool.and_eq_true, Bool.and_eq_true]
                refine ⟨⟨noStar2 hst, rfl⟩, ?_⟩
                simpa using hf
            · cases h
          · cases h
        split at h
        · rename_i hm
          subst hm
          split at h
          · rename_i k
            split at h
            · rename_i hc
              rw [Bool.and_eq_true] at hc
              obtain ⟨ho, hl⟩ := hc
              have ho : isCall0 o = false := by simpa using ho
              split at h
              · rename_i x y g1 g2
                cases h
                have hk := star_of (es := []) (env := X.env) (stars _ _ g2)
                have m1 : M1 X o "get" apos k cpos := ⟨base_of ho, by rw [hk]; rfl, hl, by rw [hk]; rfl⟩
                exact .of (PE.imp (pe_dgetC XO.un (ih _ _ g1).pe (ih _ _ g2).pe m1) rd_dget) (fun i e => by cases e)
              · cases h
            · cases h
          · cases h
        split at h
        · rename_i hc
          rw [Bool.and_eq_true, Bool.and_eq_true, Bool.and_eq_true] at hc
          obtain ⟨hm, ho, hl, hf⟩ := hc
          have ho : isCall0 o = false := by simpa using ho
          split at h
          · rename_i x ys g1 g2
            cases h
            have hst := compL_star stars g2
            have pa := (compL_ok stars g2 ih).1
            have mth : ∀ {T id : String} {r : V → List V → Hp → VK → Prop}, PlainAttrs T → PySem.Slot T m id → typeOf (.builtin id) = pure (.type "method_descriptor") → MtR X id r → PE X (.Call (.Attribute o m apos) es [] cpos) (tBM X.K T r (tE X.kw xg W F x) (tEs X.kw xg W F ys)) := by
              intro T id r p1 p2 p3 p4
              cases es with
              | nil =>
                have := pe_bm0 (apos := apos) (cpos := cpos) p1 p2 p3 p4 (ih _ _ g1).pe (base_of ho) hl
                refine PE.imp this fun σ H Q q => ?_
                cases g2
                refine tE_mono q fun v H1 ⟨q1, q2⟩ => ⟨q1, rd_nil σ H1 _ q2⟩
              | cons e0 es =>
                refine pe_bm p1 p2 p3 p4 (ih _ _ g1).pe pa (base_of ho) ?_ hl (star_of (hst _ List.mem_cons_self)) (noStar fun e he => hst e (List.mem_cons_of_mem _ he))
                rw [Bool.and_eq_true, Bool.and_eq_true]
                refine ⟨⟨noStar2 hst, rfl⟩, ?_⟩
                simpa using hf
            unfold mthOk at hm
            rw [Bool.or_eq_true, Bool.or_eq_true, Bool.or_eq_true, Bool.or_eq_true] at hm
            rcases hm with (hm | hm) | hm | hm | hm
            · have hm := of_decide_eq_true hm
              subst hm
              exact .of (PE.imp (mth PySem.F.plainAttrs_str PySem.F.slot_str_join PySem.F.type_str_join mt_joinX) (rd_mth (by decide +kernel))) (fun i e => by cases e)
            · have hm := of_decide_eq_true hm
              subst hm
              exact .of (PE.imp (mth PySem.F.plainAttrs_str PySem.F.slot_str_find PySem.F.type_str_find mt_findX) (rd_mth (by decide +kernel))) (fun i e => by cases e)
            · have hm := of_decide_eq_true hm
              subst hm
              exact .of (PE.imp (mth PySem.F.plainAttrs_list PySem.F.slot_list_append PySem.F.type_list_append mt_appendX) (rd_mut (by decide +kernel))) (fun i e => by cases e)
            · have hm := of_decide_eq_true hm
              subst hm
              exact .of (PE.imp (mth PySem.F.plainAttrs_list PySem.F.slot_list_pop PySem.F.type_list_pop mt_popX) (rd_mut (by decide +kernel))) (fun i e => by cases e)
            · have hm := of_decide_eq_true hm
              subst hm
              exact .of (PE.imp (mth PySem.F.plainAttrs_list PySem.F.slot_list_extend PySem.F.type_list_extend mt_extendX) (rd_mut (by decide +kernel))) (fun i e => by cases e)
          · cases h
        · cases h
      · cases h
    | ListComp elt gs scope p =>
      unfold compE at h
      dsimp only at h
      split at h
      · rename_i tg iter ifs
        split at h
        · rename_i hc
          rw [Bool.and_eq_true] at hc
          have hset : isSet iter = false := by simpa using hc.2
          split at h
          · rename_i t it cnd c0 g1 g2 g3 g4
            split at h
            · rename_i ht
              cases h
              have BO : BlkOk X.N X.env.scope scope (ownP cc.N scope) := by
                rw [XO.N, XO.sc]
                exact blkOk_by hc.1
              have ht : ∀ j ∈ tgN t, j ∈ (ownP cc.N scope).map (·.2) := fun j hj => by
                have := List.all_eq_true.mp ht j hj
                simpa using this
              refine .of (PE.imp (pe_lc XO.calm XO.nd (compI_ok XO id g2 stars ih) BO (g := gT X.kw t) (tt := tC1 X.kw xg F cnd) (te := tE X.kw xg NoW F c0) (fun s H C cl fp => ?_) (fun s H C cl fp => ?_) (fun s H C cl fp => ?_) (folded_of hset)) (rd_lc ht)) (fun i e => by cases e)
              · exact compT_ok (XO.blk s H scope cl C fp) g1
              · split at g3
                · cases g3; exact pts_nil
                · rename_i cx
                  cases g5 : compE n (cc.blk scope) cx with
                  | none => rw [g5] at g3; cases g3
                  | some y =>
                    rw [g5] at g3
                    cases g3
                    exact pts_one (compE_ok n (XO.blk s H scope cl C fp) g5).pt
                · cases g3
              · exact (compE_ok n (XO.blk s H scope cl C fp) g4).pe
            · cases h
          · cases h
        · cases h
      · rename_i tg iter ifs tg1 iter1 ifs1
        split at h
        · rename_i hc
          rw [Bool.and_eq_true, Bool.and_eq_true] at hc
          have hset : isSet iter = false := by simpa using hc.2.1
          have hset1 : isSet iter1 = false := by simpa using hc.2.2
          split at h
          · rename_i t it cnd t1 it1 cnd1 c0 g1 g2 g3 g4 g5 g6 g7
            split at h
            · rename_i ht
              cases h
              exact .of (lc2_ok n (fun XO h => compE_ok n XO h) XO hc.1 hset hset1 g1 g2 g3 g4 g5 g6 g7 ht) (fun i e => by cases e)
            · cases h
          · cases h
        · cases h
      · cases h
    | DictComp kx vx gs scope p =>
      unfold compE at h
      dsimp only at h
      split at h
      · rename_i tg iter ifs
        split at h
        · rename_i hc
          rw [Bool.and_eq_true] at hc
          have hset : isSet iter = false := by simpa using hc.2
          split at h
          · rename_i t it cnd ek ev g1 g2 g3 g4 g5
            split at h
            · rename_i ht
              cases h
              exact .of (dc_ok n (fun XO h => compE_ok n XO h) XO hc.1 hset g1 g2 g3 g4 g5 ht) (fun i e => by cases e)
            · cases h
          · cases h
        · cases h
      · cases h
    | Dict ks vs p =>
      cases ks with
      | nil =>
        cases vs with
        | nil =>
          unfold compE at h
          cases h
          exact .of (PE.imp pe_dnewK rd_dct0) (fun i e => by cases e)
        | cons _ _ => unfold compE at h; cases h
      | cons _ _ => unfold compE at h; cases h
    | Attribute o f p =>
      unfold compE at h
      dsimp only at h
      split at h
      · cases h
      · rename_i ho
        have ho : isCall0 o = false := by simpa using ho
        split at h
        · rename_i s x g1 g2
          cases h
          have e := nmOf_ok g1
          subst e
          exact .of (PE.imp (pe_fld (ih _ _ g2).pe (base_of ho)) (rd_fld XO.fld)) (fun i e => by cases e)
        · cases h
    | _ => unfold compE at h; cases h
end
end Rw

set_option Elab.async false
set_option linter.all false
set_option maxRecDepth 100000
/-! RwQ: statements: from the text's trees to the core syntax; each keeps its reading. -/
namespace Rw
open PySem PySem.Spec PyProof.Rows L2
/-! ### an own error class, made without arguments -/
theorem pmk_own0 {X : Cx} {C : Addr} {bmB : List Value} {B newId initId : String} {x : Str} {p pos : Pos} (F : ExcBaseFacts B newId initId bmB) (q : PySem.W.excIn X.K C bmB newId = true) (gC : X.mg x = some (.ref C)) (kC : PySem.W.keepIn X.K (.ref C) = true) (r : Raises X (.ref C)) (hg : Gl X x)
    (hdb : (x == ("__debug__" : Str)) = false) : PMk X (.Call (.Name x p) [] [] pos) (fun _ H Q => Q (.ref C) none H) := by
  intro pins s σ H Q I h
  refine wpAny_Call_Name_kw (ld_glob I hg gC ?_ hdb)
  refine PySem.W.callWith_K0 I.kIn kC ?_
  obtain ⟨bm, N, nm, qn, bs, hdct, sn, sub, ab, col, dd, k0, k1, k2, k3, k5, mN, hC, hN, hni, T⟩ := exc_obj I.kIn q
  show wpAny _ _ (call (.ref C) []) _ _ _
  refine wpAny_call_exc_subT F T hC hN hni (fun h' e hm => ?_) (by show 0 ≤ sizeLine; omega)
  exact mk_of I hm r h (I.hok.gone hm.new)
/-! ### the compiler -/
def compR (n : Nat) (cc : CC) (e : Expr) : Option Ex := match e with
  | .Tuple es _ _ => (compL (compE n cc) es).map fun cs => .tup (mvLast cs)
  | .List es _ => (compL (compE n cc) es).map fun cs => .lst (mvLast cs)
  | e => (compE n cc e).map fun c => match c with
    | .var i => .mv i
    | c => c
def bkOf (sc : Scope) : ScopeKind := if sc.kind.isAnnotationScope then .function else sc.kind
def swN (sc : Scope) (ts : List Expr) : List Str := ts.filterMap fun
  | .Name id pos => if sc.names.lookup id == some .local && pos.line == (ts.head?.map (·.pos.line)).getD 0 then some id else none
  | _ => none
def swB1 (sc : Scope) (ts vs : List Expr) : Bool := !(ts.length == 2 || ts.length == 3) || vs.length != ts.length || bkOf sc != .function
def swB3 (sc : Scope) (ts : List Expr) : Bool := (swN sc ts).length != ts.length || (swN sc ts).eraseDups.length != (swN sc ts).length
/-- which names a display's items are stored to from the right -/
def swp (sc : Scope) (ts vs : List Expr) : Option (Option (List Str)) :=
  if swB1 sc ts vs then some none else if vs.any isStar then some none else if swB3 sc ts then some none else if vs.all (foldedForSure 8) then some none else if vs.all (constantsAlone 8) then none else some (some (swN sc ts))
def isLoc (cc : CC) (x : Str) : Bool := match cc.sc.names.lookup x with
  | some .local => true
  | _ => false
/-- what is stored: an empty dict is one's own -/
def compV (n : Nat) (cc : CC) (e : Expr) : Option Ex := match e with
  | .Dict [] [] _ => some .dctN
  | e => compE n cc e
def compA (n : Nat) (cc : CC) (tg e : Expr) : Option St := match tg with
  | .Subscript o i _ => if isSli i then none else (match compV n cc e, compE n cc o, compE n cc i with
    | some x, some y, some z => some (.sub y z x)
    | _, _, _ => none)
  | .Name y py => (match e with
    | .ListComp elt gs scope pos => if isLoc cc y && (py.line == pos.line && !(scope.names.any fun (n, k) => n == y && (k == .local || k == .cell))) then (match idx cc.N y, compE n cc (.ListComp elt gs scope pos) with
        | some i, some c => some (.asg (.nm i) c)
        | _, _ => none) else none
    | .DictComp kx vx gs scope pos => if isLoc cc y && (py.line == pos.line && !(scope.names.any fun (n, k) => n == y && (k == .local || k == .cell))) then (match idx cc.N y, compE n cc (.DictComp kx vx gs scope pos) with
        | some i, some c => some (.asg (.nm i) c)
        | _, _ => none) else none
    | e => if isComp e then none else (match compT cc n (.Name y py), compV n cc e with
      | some t, some c => some (.asg t c)
      | _, _ => none))
  | .Tuple ts k pt => (match e with
    | .Tuple vs k2 pt2 => (match swp cc.sc ts vs with
      | some none => (match compT cc n (.Tuple ts k pt), compE n cc (.Tuple vs k2 pt2) with
        | some t, some c => some (.asg t c)
        | _, _ => none)
      | some (some nm) => (match ts, vs with
        | [.Name x _, .Name y _], [a, b] => if nm = [x, y] ∧ isLoc cc x ∧ isLoc cc y then (match idx cc.N x, idx cc.N y, compL (compE n cc) [a, b] with
            | some i, some j, some cs => if i ≠ j then some (.asg (.tp [.nm i, .nm j]) (.tup cs)) else none
            | _, _, _ => none) else none
        | [.Name x _, .Name y _, .Name z _], [a, b, c] => if nm = [x, y, z] ∧ isLoc cc x ∧ isLoc cc y ∧ isLoc cc z then (match idx cc.N x, idx cc.N y, idx cc.N z, compL (compE n cc) [a, b, c] with
            | some i, some j, some l, some cs => if i ≠ j ∧ i ≠ l ∧ j ≠ l then some (.asg (.tp [.nm i, .nm j, .nm l]) (.tup cs)) else none
            | _, _, _, _ => none) else none
        | _, _ => none)
      | none => none)
    | e => if isComp e then none else (match compT cc n (.Tuple ts k pt), compE n cc e with
      | some t, some c => some (.asg t c)
      | _, _ => none))
  | .Attribute o f _ => (match nmOf cc.ns f, compV n cc e, compE n cc o with
    | some s, some x, some y => some (.sfld y s x)
    | _, _, _ => none)
  | _ => none
/-- an except clause: name = constant -/
def compH (cc : CC) : ExceptHandler → Option (Str × Nat × D)
  | .ExceptHandler (some (.Name x _)) none [.Assign [.Name y _] (.Constant k _ _) _] _ => if okName x && (isGl cc x && (cc.xc x && isLoc cc y)) then (match idx cc.N y, litC k with
    | some i, some d => some (x, i, d)
    | _, _ => none) else none
  | _ => none
def compHs (cc : CC) : List ExceptHandler → Option (List (Str × Nat × D))
  | [] => some []
  | h :: hs => match compH cc h, compHs cc hs with
    | some x, some xs => some (x :: xs)
    | _, _ => none
/-- what is not taken must not be come to -/
def compSL (f : Stmt → Option St) : List Stmt → Option (List St)
  | [] => some []
  | s :: ss => match compSL f ss with
    | some cs => some ((f s).getD .dead :: cs)
    | none => none
mutual
/-- without what is let go of -/
def strS : St → St
  | .whl _ c b => .whl [] c (strSs b)
  | .fr _ t it b => .fr [] t it (strSs b)
  | .ifs c a b => .ifs c (strSs a) (strSs b)
  | .tryx b hs => .tryx (strSs b) hs
  | s => s
def strSs : List St → List St
  | [] => []
  | s :: ss => strS s :: strSs ss
end
def leaf : St → Bool
  | .whl .. | .fr .. | .ifs .. | .tryx .. => false
  | _ => true
theorem strS_leaf {s c : St} (h : leaf c = true) (e : strS s = c) : s = c := by
  cases s <;> simp only [strS] at e <;> first | exact e | (subst e; cases h)
theorem strS_ifs {s : St} {c : Ex} {a b : List St} (e : strS s = .ifs c a b) : ∃ a' b', s = .ifs c a' b' ∧ strSs a' = a ∧ strSs b' = b := by
  cases s <;> simp [strS] at e
  obtain ⟨rfl, h1, h2⟩ := e
  exact ⟨_, _, rfl, h1, h2⟩
theorem strS_whl {s : St} {c : Ex} {b : List St} (e : strS s = .whl [] c b) : ∃ ks b', s = .whl ks c b' ∧ strSs b' = b := by
  cases s <;> simp [strS] at e
  obtain ⟨rfl, h1⟩ := e
  exact ⟨_, _, rfl, h1⟩
theorem strS_fr {s : St} {t : Tg} {it : It} {b : List St} (e : strS s = .fr [] t it b) : ∃ ks b', s = .fr ks t it b' ∧ strSs b' = b := by
  cases s <;> simp [strS] at e
  obtain ⟨rfl, rfl, h1⟩ := e
  exact ⟨_, _, rfl, h1⟩
theorem strS_try {s : St} {b : List St} {hs : List (Str × Nat × D)} (e : strS s = .tryx b hs) : ∃ b', s = .tryx b' hs ∧ strSs b' = b := by
  cases s <;> simp [strS] at e
  obtain ⟨h1, rfl⟩ := e
  exact ⟨_, rfl, h1⟩
def compS : Nat → CC → Stmt → Option St
  | 0, _, _ => none
  | n + 1, cc, s => match s with
    | .Pass _ => some .pass
    | .Break _ => some .brk
    | .Continue _ => some .cont
    | .Expr e _ => (match e with
      | .Constant (.str _) _ _ => some .pass
      | e => if isComp e then none else (compE n cc e).map .ex)
    | .Return v _ => (match v with
      | none => some .retN
      | some e => (compR n cc e).map .ret)
    | .If c a b _ => (match compE n cc c, compSL (compS n cc) a, compSL (compS n cc) b with
      | some x, some y, some z => some (.ifs x y z)
      | _, _, _ => none)
    | .While c b [] _ => (match compE n cc c, compSL (compS n cc) b with
      | some x, some y => some (.whl [] x y)
      | _, _ => none)
    | .For tg it b [] _ => if isSet it then none else (match compT cc n tg, compI cc (compE n cc) (isTupT tg) it, compSL (compS n cc) b with
      | some t, some i, some y => some (.fr [] t i y)
      | _, _, _ => none)
    | .Assign [tg] e _ => (match compA n cc tg e with
      | some c => if leaf c then some c else none
      | none => none)
    | .AugAssign (.Name x _) .Add e _ => if cc.st x then (match idx cc.N x, compE n cc e with
      | some i, some c => some (.aug i c)
      | _, _ => none) else none
    | .Raise (some (.Call (.Name x _) [] [] _)) none _ => if okName x && (isGl cc x && cc.xc x) then some (.rse x) else none
    | .Try b (h :: hs) [] [] _ => (match compSL (compS n cc) b, compHs cc (h :: hs) with
      | some x, some y => some (.tryx x y)
      | _, _ => none)
    | _ => none
/-- a context that statements may run in -/
structure XSk (xg : Str → Option Value) (F : Fn) (sub : Str → Str → Option Bool) (cc : CC) (X : Cx) (W : WX) : Prop where
  x : XOk xg F cc X W
  po : PassesOwn (model X.prog X.w) X.A X.env X.xe
  stk : X.stack = X.env :: X.outer
  fr : X.env.frame = some X.env.locals
  knd : cc.sc.kind = .function
  loc : ∀ y, cc.sc.names.lookup y = some .local → cc.st y = true
  xc : ∀ x, cc.xc x = true → ∃ (C : Addr) (bmB : List Value) (B newId initId : String), ExcBaseFacts B newId initId bmB ∧ PySem.W.excIn X.K C bmB newId = true ∧ X.mg x = some (.ref C) ∧ PySem.W.keepIn X.K (.ref C) = true ∧ Raises X (.ref C) ∧ xg x = some (.ref C)
  sub : ∀ c k r, sub c k = some r → ∀ cls ck, xg c = some cls → xg k = some ck → PySem.W.exmOne X.K cls ck = some r
section
variable {xg : Str → Option Value} {F : Fn} {sub : Str → Str → Option Bool} {cc : CC} {X : Cx} {W : WX} {N : Nat}
theorem XSk.tr (h : XSk xg F sub cc X W) {W' : WX} {pn : List (Addr × Obj)} {xe : Value → Shared → Prop} (tk : Takes (X.tr pn xe) W') (po : PassesOwn (model X.prog X.w) X.A X.env xe) : XSk xg F sub cc (X.tr pn xe) W' where
  x := ⟨h.x.N, h.x.nd, h.x.sc, h.x.calm, tk, h.x.un, h.x.st, h.x.gc, h.x.bn, h.x.fn, h.x.fld, h.x.mt, h.x.mkc⟩
  po := po
  stk := h.stk
  fr := h.fr
  knd := h.knd
  loc := h.loc
  xc := h.xc
  sub := h.sub
theorem isLoc_ok (XO : XOk xg F cc X W) {x : Str} (h : isLoc cc x = true) : X.env.scope.names.lookup x = some .local := by
  unfold isLoc at h
  rw [XO.sc]
  split at h
  · assumption
  · cases h
theorem sole_of {tg e : Expr} {l : Nat} {env : PySem.Env} (h : isComp e = false) : swapsWithSole [tg] e l env = pure false := by
  cases e <;> first | rfl | cases h
theorem swaps_of {e : Expr} {t : Option Expr} {l : Nat} {env : PySem.Env} (h : isComp e = false) : swapsWith e t l env = pure false := by
  cases e <;> first | rfl | cases h
theorem pip_add : PIp X .Add rAddV := fun pins s σ H x y v u Q I r1 r2 h => by
  rcases h with ⟨i, j, e1, e2, q⟩ | ⟨a, b, e1, e2, hl, q⟩
  · exact ip_add pins s σ H x y v u Q I r1 r2 ⟨i, j, e1, e2, q⟩
  · exact iop_add_str pins s σ H x y v u Q I r1 r2 ⟨a, b, e1, e2, hl, q⟩
theorem swaps_attr {e o : Expr} {f : Str} {p : Pos} {l : Nat} {env : PySem.Env} : swapsWith e (some (.Attribute o f p)) l env = pure false := by
  cases e <;> rfl
theorem ps_dead {X : Cx} {K : KW} {s : Stmt} : PS X s (tS K xg W F sub N .dead) := ⟨fun pins s σ H D I q => (rs_dead (t := fun _ _ _ => False) D σ H q).elim⟩
theorem stores_sub {o i e : Expr} {p : Pos} {env : PySem.Env} : swappedStores [.Subscript o i p] e env = pure none := rfl
theorem stores_name {x : Str} {e : Expr} {p : Pos} {env : PySem.Env} : swappedStores [.Name x p] e env = pure none := rfl
def isTup : Expr → Bool
  | .Tuple .. => true
  | _ => false
theorem stores_tup {ts : List Expr} {e : Expr} {k : Nat} {p : Pos} {env : PySem.Env} (h : isTup e = false) : swappedStores [.Tuple ts k p] e env = pure none := by
  cases e <;> first | rfl | cases h
theorem compR_ok (XO : XOk xg F cc X W) {n : Nat} {e : Expr} {c : Ex} (h : compR n cc e = some c) : PE X e (tE X.kw xg W F c) := by
  have ih : ∀ e c, compE n cc e = some c → Kp xg F X W e c := fun e c h => compE_ok n XO h
  have stars : ∀ e c, compE n cc e = some c → isStar e = false := fun e c h => compE_star h
  have dflt : ∀ {e : Expr}, (compE n cc e).map (fun c => match c with
    | .var i => Ex.mv i
    | c => c) = some c → PE X e (tE X.kw xg W F c) := fun {e} h => by
    cases g : compE n cc e with
    | none => rw [g] at h; cases h
    | some y =>
      rw [g] at h
      have kk := ih e y g
      cases y <;> first | (cases h; exact kk.mv _ rfl) | (cases h; exact kk.pe)
  unfold compR at h
  split at h
  · rename_i es k p
    cases g : compL (compE n cc) es with
    | none => rw [g] at h; cases h
    | some cs =>
      rw [g] at h
      cases h
      exact PE.imp (pe_tup (compL_ok stars g ih).2) rd_tup
  · rename_i es p
    cases g : compL (compE n cc) es with
    | none => rw [g] at h; cases h
    | some cs =>
      rw [g] at h
      cases h
      exact PE.imp (pe_lst (compL_ok stars g ih).2) rd_lst
  · exact dflt h
theorem swp_ok {ts vs : List Expr} {r : Option (List Str)} {k k2 : Nat} {pt pt2 : Pos} {env : PySem.Env} (h : swp env.scope ts vs = some r) : swappedStores [.Tuple ts k pt] (.Tuple vs k2 pt2) env = pure r := by
  have es : (vs.any fun | .Starred .. => true | _ => false) = vs.any isStar := by
    congr 1
  unfold swp at h
  split at h
  · rename_i h1
    cases h
    exact if_pos h1
  · rename_i h1
    refine Eq.trans (if_neg h1) ?_
    split at h
    · rename_i h2
      cases h
      exact if_pos (es.trans h2)
    · rename_i h2
      refine Eq.trans (if_neg fun z => h2 (es.symm.trans z)) ?_
      split at h
      · rename_i h3
        cases h
        exact if_pos h3
      · rename_i h3
        refine Eq.trans (if_neg h3) ?_
        split at h
        · rename_i h4
          cases h
          exact if_pos h4
        · rename_i h4
          refine Eq.trans (if_neg h4) ?_
          split at h
          · cases h
          · rename_i h5
            cases h
            exact if_neg h5
/-- a display whose items are stored to names -/
theorem rs_disp {ts : List Tg} {es : List Ex} {K : KW} : ∀ D σ H, tS K xg W F sub N (.asg (.tp ts) (.tup es)) D σ H → tEs K xg W F es σ H fun vs H1 => gTs K ts vs σ H1 D.nx := fun D σ H ⟨A₀, A, ρ, fp, S, h⟩ => by
  rw [evS, evE] at h
  have h : oAll K xg A₀ A fp σ H ρ W D ((evEs F es ρ).out fun os ρ1 => ((match if okPts os es then aliases ρ1 os else none with
    | some (ds, b, ρ2) => if ds.length ≤ line then Rr.ok (if b then Opd.fz (.tup ds) else .ow (.tup ds)) ρ2 else .stuck
    | none => .stuck).out fun o ρ1 => match alias_ ρ1 o with
      | some (o', ρ2) => (match asgT (.tp ts) o'.isFz o'.val ρ2 with | some ρ3 => .nx ρ3 | none => .stuck)
      | none => .stuck)) := by
    cases he : evEs F es ρ with
    | ok os ρ1 => rw [he] at h; exact h
    | exc x ρ1 => rw [he] at h; exact h
    | stuck => rw [he] at h; exact h
  refine ⟨A₀, A, ρ, fp, S, (out_all (evEs_pin F es ρ) h).imp (fun os ρ1 _ ⟨hp, h⟩ => ?_) fun _ _ h => h⟩
  split at h
  · rename_i ds b ρ2 ha
    obtain ⟨hk, ha⟩ := if_some ha
    refine ⟨hk, fun vs H1 A1 fp1 q g rs nd hq => ?_⟩
    obtain ⟨fp2, g2, l, hb, _⟩ := als g rs ha
    have pn := hp.trans (aliases_pin ha)
    split at h
    · rename_i hl
      have fin : ∀ {o : Opd}, alias_ ρ2 o = some (o, ρ2) → o.val = .tup ds → (o.isFz = true → q = []) → oAll K xg A₀ A fp σ H ρ W D ((Rr.ok o ρ2).out fun o ρ1 => match alias_ ρ1 o with
          | some (o', ρ2) => (match asgT (.tp ts) o'.isFz o'.val ρ2 with | some ρ3 => .nx ρ3 | none => .stuck)
          | none => .stuck) → gTs K ts vs σ H1 D.nx := fun {o} e1 e2 e3 h => by
        have h : oAll K xg A₀ A fp σ H ρ W D (match alias_ ρ2 o with
          | some (o', ρ2) => (match asgT (.tp ts) o'.isFz o'.val ρ2 with | some ρ3 => .nx ρ3 | none => .stuck)
          | none => .stuck) := h
        rw [e1] at h
        dsimp only at h
        rw [e2, asgT] at h
        split at h
        · rename_i ρ3 hg
          refine gTs_ok ts g2.si l nd (fun a z => ⟨(hq a z).1, fun y => (hq a z).2 (S.sub a y)⟩) e3 hg fun σ' fp3 T => h σ' H1 fp3 ⟨?_, ⟨fun _ h => h, g2.tr.k, fun a b => g2.tr.b a (T.b a ?_)⟩, fun j hj => T.pin j (pn.keep hj), pn.trans (asgTs_pin ts hg)⟩
          · exact T.si.drop S.sub fun a hA => ⟨g2.tr.a a hA, fun z => (hq a z).2 hA⟩
          · exact b.imp (fun hA => ⟨g2.tr.a a hA, fun z => (hq a z).2 hA⟩) id
        · exact h.elim
      cases b with
      | true => exact fin (o := .fz (.tup ds)) rfl rfl (fun _ => hb rfl) h
      | false => exact fin (o := .ow (.tup ds)) rfl rfl (fun z => by cases z) h
    · exact h.elim
  · exact h.elim
theorem rs_par {i j : Nat} {es : List Ex} {K : KW} : ∀ D σ H, tS K xg W F sub N (.asg (.tp [.nm i, .nm j]) (.tup es)) D σ H → tPar i j (tEs K xg W F es) D σ H := fun D σ H q => by
  obtain ⟨A₀, A, ρ, fp, S, h⟩ := rs_disp D σ H q
  refine ⟨A₀, A, ρ, fp, S, h.imp (fun os ρ1 _ h => ⟨h.1, fun vs H' A' fp' q g r nd hq => ?_⟩) fun _ _ h => h⟩
  obtain ⟨v, r, rfl, w, r', rfl, rfl, k⟩ := h.2 vs H' A' fp' q g r nd hq
  exact ⟨v, w, rfl, k⟩
theorem rs_par3 {i j l : Nat} {es : List Ex} {K : KW} : ∀ D σ H, tS K xg W F sub N (.asg (.tp [.nm i, .nm j, .nm l]) (.tup es)) D σ H → tPar3 i j l (tEs K xg W F es) D σ H := fun D σ H q => by
  obtain ⟨A₀, A, ρ, fp, S, h⟩ := rs_disp D σ H q
  refine ⟨A₀, A, ρ, fp, S, h.imp (fun os ρ1 _ h => ⟨h.1, fun vs H' A' fp' q g r nd hq => ?_⟩) fun _ _ h => h⟩
  obtain ⟨v, r, rfl, w, r', rfl, u, r'', rfl, rfl, k⟩ := h.2 vs H' A' fp' q g r nd hq
  exact ⟨v, w, u, rfl, k⟩
theorem PS.imp {X : Cx} {s : Stmt} {t t' : TS} (h : PS X s t) (i : ∀ D σ H, t' D σ H → t D σ H) : PS X s t' := ⟨fun pins s σ H D I q => h.run pins s σ H D I (i D σ H q)⟩
theorem PSs.imp {X : Cx} {s : List Stmt} {t t' : TS} (h : PSs X s t) (i : ∀ D σ H, t' D σ H → t D σ H) : PSs X s t' := ⟨fun pins s σ H D I q => h.run pins s σ H D I (i D σ H q)⟩
theorem compV_ok (XO : XOk xg F cc X W) {n : Nat} {e : Expr} {c : Ex} (h : compV n cc e = some c) : PE X e (tE X.kw xg W F c) := by
  unfold compV at h
  split at h
  · cases h
    exact PE.imp pe_dnewK rd_dctN
  · exact (compE_ok n XO h).pe
theorem set_a (hu : X.A.units + 64 < cLine) : PSet X (rSetA X.kw) := fun pins s σ H o i v ov iv u Q I ro ri rv h => h.elim (set_list pins s σ H o i v ov iv u Q I ro ri rv) (set_dct hu pins s σ H o i v ov iv u Q I ro ri rv)
theorem sub_sole {o i e : Expr} {p : Pos} {l : Nat} {env : PySem.Env} : swapsWithSole [.Subscript o i p] e l env = pure false := by
  cases e <;> rfl
theorem sw_dict {kx vx : Expr} {gs : List Comprehension} {scope : Scope} {pos py : Pos} {y : Str} {l : Nat} {env : PySem.Env} (hk : env.scope.kind = .function) (hy : env.scope.names.lookup y = some .local) (hl : (py.line == pos.line) = true)
    (ha : (scope.names.any fun (n, k) => n == y && (k == .local || k == .cell)) = false) : swapsWith (.DictComp kx vx gs scope pos) (some (.Name y py)) l env = pure true := by
  have k1 : env.kindOf y = some .local := hy
  have k2 : env.blockKind = .function := by unfold PySem.Env.blockKind; rw [hk] <;> rfl
  unfold swapsWith
  simp only [k1, k2, ha, Expr.pos, hl]
  rfl
/-- name = [.. for .. for ..] -/
theorem set_lc2 (XS : XSk xg F sub cc X W) (n : Nat) {tg iter tg1 iter1 elt : Expr} {ifs ifs1 : List Expr} {scope : Scope} {p py lpos : Pos} {y : Str} {i : Nat} {t t1 : Tg} {it it1 : It} {c c1 : Option Ex} {e : Ex}
    (hN : X.N[i]? = some y) (hl : X.env.scope.names.lookup y = some .local) (sw : swapsWith (.ListComp elt [⟨tg, iter, ifs, 0⟩, ⟨tg1, iter1, ifs1, 0⟩] scope lpos) (some (.Name y py)) p.line X.env = pure true)
    (hb : blkC cc.N cc.sc scope (ownP cc.N scope) = true) (hs : isSet iter = false) (hs1 : isSet iter1 = false) (g1 : compT (cc.blk scope) n tg = some t) (g2 : compI cc (compE n cc) (isTupT tg) iter = some it) (g3 : compIf (compE n (cc.blk scope)) ifs = some c)
    (g4 : compT (cc.blk scope) n tg1 = some t1) (g5 : compI (cc.blk scope) (compE n (cc.blk scope)) (isTupT tg1) iter1 = some it1) (g6 : compIf (compE n (cc.blk scope)) ifs1 = some c1) (g7 : compE n (cc.blk scope) elt = some e)
    (ht : ((tgN t).all (fun j => ((ownP cc.N scope).map (·.2)).contains j) && (tgN t1).all (fun j => ((ownP cc.N scope).map (·.2)).contains j)) = true) :
    PS X (.Assign [.Name y py] (.ListComp elt [⟨tg, iter, ifs, 0⟩, ⟨tg1, iter1, ifs1, 0⟩] scope lpos) p) (tS X.kw xg W F sub N (.asg (.nm i) (.lc2 ((ownP cc.N scope).map (·.2)) t it c (tgN t1) t1 it1 c1 e))) := by
  have XO := XS.x
  have ih : EAll xg F n := fun XO h => compE_ok n XO h
  rw [Bool.and_eq_true] at ht
  have BO : BlkOk X.N X.env.scope scope (ownP cc.N scope) := by
    rw [XO.N, XO.sc]
    exact blkOk_by hb
  have ht0 : ∀ j ∈ tgN t, j ∈ (ownP cc.N scope).map (·.2) := fun j hj => by simpa using List.all_eq_true.mp ht.1 j hj
  have ht1 : ∀ j ∈ tgN t1, j ∈ (ownP cc.N scope).map (·.2) := fun j hj => by simpa using List.all_eq_true.mp ht.2 j hj
  have XB := fun (s : Shared) (H : Hp) (C : Addr) (cl : List (Str × Addr)) (fp : List Addr) => XO.blk s H scope cl C fp
  have e1 := compI_ok XO id g2 (fun e c h => compE_star h) fun e c h => ih XO h
  have h := ps_setLc2 (vs1 := tgN t1) XO.calm XO.nd hN hl sw e1 BO ht1 (g := gT X.kw t) (tt := tC1 X.kw xg F c) (wi1 := tI X.kw xg NoW F it1) (g1 := gT X.kw t1) (tt1 := tC1 X.kw xg F c1) (te := tE X.kw xg NoW F e)
    (fun s H C cl fp => compT_ok (XB s H C cl fp) g1) (fun s H C cl fp => compIf_ok (XB s H C cl fp) g3 fun e c h => ih (XB s H C cl fp) h) (fun s H C cl fp => compI_ok (XB s H C cl fp) id g5 (fun e c h => compE_star h) fun e c h => ih (XB s H C cl fp) h)
    (fun s H C cl fp => compT_ok (XB s H C cl fp) g4) (fun s H C cl fp => compIf_ok (XB s H C cl fp) g6 fun e c h => ih (XB s H C cl fp) h) (fun s H C cl fp => (ih (XB s H C cl fp) g7).pe) (folded_of hs) (folded_any hs1)
  exact PS.imp h (fun D σ H q => rd_lc2 ht0 (fun _ h => h) σ H _ (rs_asg D σ H q))
/-- name = {..} -/
theorem set_dc (XS : XSk xg F sub cc X W) (n : Nat) {tg iter kx vx : Expr} {ifs : List Expr} {scope : Scope} {p py lpos : Pos} {y : Str} {i : Nat} {t : Tg} {it : It} {c : Option Ex} {ek ev : Ex}
    (hN : X.N[i]? = some y) (hl : X.env.scope.names.lookup y = some .local) (sw : swapsWith (.DictComp kx vx [⟨tg, iter, ifs, 0⟩] scope lpos) (some (.Name y py)) p.line X.env = pure true)
    (hb : blkC cc.N cc.sc scope (ownP cc.N scope) = true) (hs : isSet iter = false) (g1 : compT (cc.blk scope) n tg = some t) (g2 : compI cc (compE n cc) (isTupT tg) iter = some it) (g3 : compIf (compE n (cc.blk scope)) ifs = some c)
    (g4 : compE n (cc.blk scope) kx = some ek) (g5 : compE n (cc.blk scope) vx = some ev) (ht : (tgN t).all (fun j => ((ownP cc.N scope).map (·.2)).contains j) = true) :
    PS X (.Assign [.Name y py] (.DictComp kx vx [⟨tg, iter, ifs, 0⟩] scope lpos) p) (tS X.kw xg W F sub N (.asg (.nm i) (.dc ((ownP cc.N scope).map (·.2)) t it c ek ev))) := by
  have XO := XS.x
  have ih : EAll xg F n := fun XO h => compE_ok n XO h
  have BO : BlkOk X.N X.env.scope scope (ownP cc.N scope) := by
    rw [XO.N, XO.sc]
    exact blkOk_by hb
  have ht0 : ∀ j ∈ tgN t, j ∈ (ownP cc.N scope).map (·.2) := fun j hj => by simpa using List.all_eq_true.mp ht j hj
  have XB := fun (s : Shared) (H : Hp) (C : Addr) (cl : List (Str × Addr)) (fp : List Addr) => XO.blk s H scope cl C fp
  have h := ps_setDcX XO.un XO.calm XO.nd hN hl sw (compI_ok XO id g2 (fun e c h => compE_star h) fun e c h => ih XO h) BO (g := gT X.kw t) (tt := tC1 X.kw xg F c) (tk := tE X.kw xg NoW F ek) (tv := tE X.kw xg NoW F ev)
    (fun s H C cl fp => ⟨compT_ok (XB s H C cl fp) g1, compIf_ok (XB s H C cl fp) g3 (fun e c h => ih (XB s H C cl fp) h), (ih (XB s H C cl fp) g4).pe, (ih (XB s H C cl fp) g5).pe⟩) (folded_of hs)
  exact PS.imp h (fun D σ H q => rd_dc ht0 σ H _ (rs_asg D σ H q))
theorem compA_ok (XS : XSk xg F sub cc X W) {n : Nat} {tg e : Expr} {c : St} {p : Pos} (h : compA n cc tg e = some c) : PS X (.Assign [tg] e p) (tS X.kw xg W F sub N c) := by
  have XO := XS.x
  have ih : ∀ e c, compE n cc e = some c → Kp xg F X W e c := fun e c h => compE_ok n XO h
  have stars : ∀ e c, compE n cc e = some c → isStar e = false := fun e c h => compE_star h
  cases tg with
  | Subscript o i p2 =>
    unfold compA at h
    dsimp only at h
    split at h
    · cases h
    · rename_i hc2
      have hc2 : isSli i = false := by simpa using hc2
      split at h
      · rename_i x y z g1 g2 g3
        cases h
        have ha : ∀ v, assign (.Subscript o i p2) X.env v = (do
          let ov ← holding [v] (eval o X.env)
          let iv ← holding [v, ov] (eval i X.env)
          standAt p2
          holding [v, ov, iv] (setItem ov iv v)
          release [v, ov, iv] []) := fun v => by
            cases i <;> first | rfl | cases hc2
        exact PS.imp (ps_asg (compV_ok XO g1) (pg_sub (ih _ _ g2).pe (ih _ _ g3).pe (set_a XO.un) ha) sub_sole stores_sub (by rw [asg_of rfl] <;> rfl)) rs_sub
      · cases h
  | Name y py =>
    have dflt : ∀ {e : Expr} {c : St}, (if isComp e then none else (match compT cc n (.Name y py), compV n cc e with
      | some t, some c => some (St.asg t c)
      | _, _ => none)) = some c → PS X (.Assign [.Name y py] e p) (tS X.kw xg W F sub N c) := fun {e c} h => by
      split at h
      · cases h
      · rename_i hc
        have hc : isComp e = false := by simpa using hc
        split at h
        · rename_i t x g1 g2
          cases h
          exact PS.imp (ps_asg (compV_ok XO g2) (compT_ok XO g1) (sole_of hc) stores_name (by rw [asg_of rfl] <;> rfl)) rs_asg
        · cases h
    cases e with
    | ListComp elt gs scope lpos =>
      unfold compA at h
      dsimp only at h
      split at h
      · rename_i hc
        rw [Bool.and_eq_true, Bool.and_eq_true] at hc
        have hl := isLoc_ok XO hc.1
        split at h
        · rename_i i cx g1 g2
          cases h
          have hN : X.N[i]? = some y := by rw [XO.N]; exact idx_get g1
          cases n with
          | zero => cases g2
          | succ n =>
            unfold compE at g2
            dsimp only at g2
            split at g2
            · rename_i tg iter ifs
              split at g2
              · rename_i hb
                rw [Bool.and_eq_true] at hb
                have hset : isSet iter = false := by simpa using hb.2
                split at g2
                · rename_i t it cnd c0 k1 k2 k3 k4
                  split at g2
                  · rename_i ht
                    cases g2
                    have BO : BlkOk X.N X.env.scope scope (ownP cc.N scope) := by
                      rw [XO.N, XO.sc]
                      exact blkOk_by hb.1
                    have ht : ∀ j ∈ tgN t, j ∈ (ownP cc.N scope).map (·.2) := fun j hj => by
                      have := List.all_eq_true.mp ht j hj
                      simpa using this
                    have sw : swapsWith (.ListComp elt [⟨tg, iter, ifs, 0⟩] scope lpos) (some (.Name y py)) p.line X.env = pure true :=
                      sw_true (by rw [XO.sc]; exact XS.knd) hl hc.2.1 (by simpa using hc.2.2)
                    refine PS.imp (ps_setLc XO.calm XO.nd hN hl sw (compI_ok XO id k2 (fun e c h => compE_star h) (fun e c h => compE_ok n XO h)) BO (g := gT X.kw t) (tt := tC1 X.kw xg F cnd) (te := tE X.kw xg NoW F c0) (fun s H C cl fp => ?_) (fun s H C cl fp => ?_) (fun s H C cl fp => ?_) (folded_of hset)) (fun D σ H q => rd_lc ht σ H _ (rs_asg D σ H q))
                    · exact compT_ok (XO.blk s H scope cl C fp) k1
                    · split at k3
                      · cases k3; exact pts_nil
                      · rename_i cx
                        cases g5 : compE n (cc.blk scope) cx with
                        | none => rw [g5] at k3; cases k3
                        | some y =>
                          rw [g5] at k3
                          cases k3
                          exact pts_one (compE_ok n (XO.blk s H scope cl C fp) g5).pt
                      · cases k3
                    · exact (compE_ok n (XO.blk s H scope cl C fp) k4).pe
                  · cases g2
                · cases g2
              · cases g2
            · rename_i tg iter ifs tg1 iter1 ifs1
              split at g2
              · rename_i hb
                rw [Bool.and_eq_true, Bool.and_eq_true] at hb
                split at g2
                · rename_i k1 k2 k3 k4 k5 k6 k7
                  split at g2
                  · rename_i ht
                    cases g2
                    exact set_lc2 XS n hN hl (sw_true (by rw [XO.sc]; exact XS.knd) hl hc.2.1 (by simpa using hc.2.2)) hb.1 (by simpa using hb.2.1) (by simpa using hb.2.2) k1 k2 k3 k4 k5 k6 k7 ht
                  · cases g2
                · cases g2
              · cases g2
            · cases g2
        · cases h
      · cases h
    | DictComp kx vx gs scope lpos =>
      unfold compA at h
      dsimp only at h
      split at h
      · rename_i hc
        rw [Bool.and_eq_true, Bool.and_eq_true] at hc
        have hl := isLoc_ok XO hc.1
        split at h
        · rename_i i cx g1 g2
          cases h
          have hN : X.N[i]? = some y := by rw [XO.N]; exact idx_get g1
          cases n with
          | zero => cases g2
          | succ n =>
            unfold compE at g2
            dsimp only at g2
            split at g2
            · rename_i tg iter ifs
              split at g2
              · rename_i hb
                rw [Bool.and_eq_true] at hb
                split at g2
                · rename_i k1 k2 k3 k4 k5
                  split at g2
                  · rename_i ht
                    cases g2
                    exact set_dc XS n hN hl (sw_dict (by rw [XO.sc]; exact XS.knd) hl hc.2.1 (by simpa using hc.2.2)) hb.1 (by simpa using hb.2) k1 k2 k3 k4 k5 ht
                  · cases g2
                · cases g2
              · cases g2
            · cases g2
        · cases h
      · cases h
    | _ => exact dflt h
  | Tuple ts k pt =>
    have dflt : ∀ {e : Expr} {c : St}, isTup e = false → (if isComp e then none else (match compT cc n (.Tuple ts k pt), compE n cc e with
      | some t, some c => some (St.asg t c)
      | _, _ => none)) = some c → PS X (.Assign [.Tuple ts k pt] e p) (tS X.kw xg W F sub N c) := fun {e c} ht h => by
      split at h
      · cases h
      · rename_i hc
        have hc : isComp e = false := by simpa using hc
        split at h
        · rename_i t x g1 g2
          cases h
          exact PS.imp (ps_asg (ih _ _ g2).pe (compT_ok XO g1) (sole_of hc) (stores_tup ht) (by rw [asg_of rfl] <;> rfl)) rs_asg
        · cases h
    cases e with
    | Tuple vs k2 pt2 =>
      unfold compA at h
      dsimp only at h
      split at h
      · rename_i hsw
        split at h
        · rename_i t x g1 g2
          cases h
          exact PS.imp (ps_asg (ih _ _ g2).pe (compT_ok XO g1) rfl (swp_ok (by rw [XO.sc]; exact hsw)) (by rw [asg_of rfl] <;> rfl)) rs_asg
        · cases h
      · rename_i nm hsw
        have hsw' : ∀ {k2 pt2}, swappedStores [.Tuple ts k pt] (.Tuple vs k2 pt2) X.env = pure (some nm) := swp_ok (by rw [XO.sc]; exact hsw)
        split at h
        · rename_i x px y py a b
          split at h
          · rename_i hc
            obtain ⟨rfl, hx, hy⟩ := hc
            split at h
            · rename_i i j cs g1 g2 g3
              split at h
              · rename_i hij
                cases h
                exact PS.imp (ps_par XO.calm XO.nd (by rw [XO.N]; exact idx_get g1) (by rw [XO.N]; exact idx_get g2) hij (isLoc_ok XO hx) (isLoc_ok XO hy) (compL_ok stars g3 ih).1 hsw' rfl) rs_par
              · cases h
            · cases h
          · cases h
        · rename_i x px y py z pz a b c'
          split at h
          · rename_i hc
            obtain ⟨rfl, hx, hy, hz⟩ := hc
            split at h
            · rename_i i j l cs g1 g2 g3 g4
              split at h
              · rename_i hij
                cases h
                exact PS.imp (ps_par3 XO.calm XO.nd (by rw [XO.N]; exact idx_get g1) (by rw [XO.N]; exact idx_get g2) (by rw [XO.N]; exact idx_get g3) hij.1 hij.2.1 hij.2.2 (isLoc_ok XO hx) (isLoc_ok XO hy) (isLoc_ok XO hz) (compL_ok stars g4 ih).1 hsw' rfl) rs_par3
              · cases h
            · cases h
          · cases h
        · cases h
      · cases h
    | _ => exact dflt rfl h
  | Attribute o f pa =>
    unfold compA at h
    dsimp only at h
    split at h
    · rename_i s x y g1 g2 g3
      cases h
      have e0 := nmOf_ok g1
      subst e0
      exact PS.imp (ps_fld (ih _ _ g3).pe (compV_ok XO g2) swaps_attr) (rs_sfld XO.fld)
    · cases h
  | _ => unfold compA at h; cases h
theorem compHs_ok (XS : XSk xg F sub cc X W) : ∀ {hs : List ExceptHandler} {l : List (Str × Nat × D)}, compHs cc hs = some l → HdsOk X hs (hsL xg l) ∧ ∀ h ∈ l, flat h.2.2 = true ∧ ∃ c, xg h.1 = some c
  | [], l, h => by cases h; exact ⟨.nil, fun _ z => nomatch z⟩
  | hd :: hs, l, h => by
    unfold compHs at h
    cases g1 : compH cc hd with
    | none => rw [g1] at h; cases h
    | some x =>
      cases g2 : compHs cc hs with
      | none => rw [g1, g2] at h; cases h
      | some xs =>
        rw [g1, g2] at h
        cases h
        obtain ⟨i1, i2⟩ := compHs_ok XS g2
        unfold compH at g1
        split at g1
        · rename_i x p y py k kk pk pa ph
          split at g1
          · rename_i hc
            rw [Bool.and_eq_true, Bool.and_eq_true, Bool.and_eq_true] at hc
            obtain ⟨hn, hgl, hxc, hloc⟩ := hc
            obtain ⟨C, bmB, B, newId, initId, f1, f2, f3, f4, f5, f6⟩ := XS.xc x hxc
            split at g1
            · rename_i i d e1 e2
              cases g1
              obtain ⟨hf, _⟩ := litC_ok (X := X) e2 (k := 0) (p := pk)
              refine ⟨?_, fun h hh => ?_⟩
              · have e3 : (xg x).getD .none = .ref C := by rw [f6] <;> rfl
                show HdsOk X _ (((xg x).getD .none, fun _ _ _ => tAsg (tC (dV d)) (gName i)) :: hsL xg xs)
                rw [e3]
                refine .cons ⟨isGl_ok XS.x hgl, (okName_ok hn).1, .inl f3⟩ (fun a oe cls dd pn _ _ => ?_) i1
                have hl := isLoc_ok XS.x hloc
                refine pss_one (ps_set (X := X.suite a ((a, oe) :: pn)) XS.x.nd (by show X.N[i]? = _; rw [XS.x.N]; exact idx_get e1) (.inl hl) ?_ rfl (.inr hl))
                exact (litC_ok (X := X.suite a ((a, oe) :: pn)) e2).2
              · rcases List.mem_cons.mp hh with z | z
                · rw [z]; exact ⟨hf, _, f6⟩
                · exact i2 h z
            · cases g1
          · cases g1
        · cases g1
theorem compSL_ok {f : Stmt → Option St} (k : ∀ s c c1, f s = some c → strS c1 = c → PS X s (tS X.kw xg W F sub N c1)) : ∀ {ss : List Stmt} {cs ds : List St}, compSL f ss = some cs → strSs ds = cs → PSs X ss (tSs X.kw xg W F sub N ds)
  | [], cs, ds, h, e => by
    cases h
    cases ds with
    | nil => exact PSs.imp pss_nil rs_nil
    | cons d ds => rw [strSs] at e; cases e
  | s :: ss, cs, ds, h, e => by
    unfold compSL at h
    cases g2 : compSL f ss with
    | none => rw [g2] at h; cases h
    | some cs' =>
      rw [g2] at h
      cases h
      cases ds with
      | nil => rw [strSs] at e; cases e
      | cons d ds =>
        rw [strSs] at e
        obtain ⟨e1, e2⟩ := List.cons.inj e
        refine PSs.imp (pss_cons ?_ (compSL_ok k g2 e2)) rs_cons
        cases g1 : f s with
        | none =>
          rw [g1] at e1
          cases strS_leaf rfl e1
          exact ps_dead
        | some c =>
          rw [g1] at e1
          exact k s c d g1 e1
theorem compS_ok : ∀ (n : Nat) {cc : CC} {X : Cx} {W : WX} {s : Stmt} {c c1 : St}, XSk xg F sub cc X W → compS n cc s = some c → strS c1 = c → PS X s (tS X.kw xg W F sub N c1)
  | 0, cc, X, W, s, c, c1, XS, h, e0 => by cases h
  | n + 1, cc, X, W, s, c, c1, XS, h, e0 => by
    have XO := XS.x
    have ihE : ∀ e c, compE n cc e = some c → Kp xg F X W e c := fun e c h => compE_ok n XO h
    have stars : ∀ e c, compE n cc e = some c → isStar e = false := fun e c h => compE_star h
    have ih : ∀ s c c1, compS n cc s = some c → strS c1 = c → PS X s (tS X.kw xg W F sub N c1) := fun s c c1 h e => compS_ok n XS h e
    unfold compS at h
    split at h
    · cases h; cases strS_leaf rfl e0; exact PS.imp ps_pass rs_pass
    · cases h; cases strS_leaf rfl e0; exact PS.imp ps_break rs_brk
    · cases h; cases strS_leaf rfl e0; exact PS.imp ps_continue rs_cont
    · rename_i e p
      split at h
      · cases h; cases strS_leaf rfl e0; exact PS.imp ps_doc rs_pass
      · split at h
        · cases h
        · rename_i hc
          cases g : compE n cc e with
          | none => rw [g] at h; cases h
          | some x =>
            rw [g] at h
            cases h
            cases strS_leaf rfl e0
            exact PS.imp (ps_expr (ihE _ _ g).pe (swaps_of (by simpa using hc))) rs_ex
    · rename_i v p
      split at h
      · cases h; cases strS_leaf rfl e0; exact PS.imp ps_retN rs_retN
      · rename_i e
        cases g : compR n cc e with
        | none => rw [g] at h; cases h
        | some x =>
          rw [g] at h
          cases h
          cases strS_leaf rfl e0
          exact PS.imp (ps_ret (compR_ok XO g)) rs_ret
    · split at h
      · rename_i x y z g1 g2 g3
        cases h
        obtain ⟨a', b', rfl, q1, q2⟩ := strS_ifs e0
        exact PS.imp (ps_if (ihE _ _ g1).pt (compSL_ok ih g2 q1) (compSL_ok ih g3 q2)) rs_ifs
      · cases h
    · split at h
      · rename_i x y g1 g2
        cases h
        obtain ⟨ks, b', rfl, q1⟩ := strS_whl e0
        exact PS.imp (ps_while XS.po (ihE _ _ g1).pt (compSL_ok ih g2 q1)) rs_whl
      · cases h
    · split at h
      · cases h
      · rename_i hset
        split at h
        · rename_i t i y g1 g2 g3
          cases h
          obtain ⟨ks, b', rfl, q1⟩ := strS_fr e0
          exact PS.imp (ps_for XS.po XO.calm (compI_ok XO id g2 stars ihE) (compT_ok XO g1) (compSL_ok ih g3 q1) (folded_of (by simpa using hset))) rs_fr
        · cases h
    · split at h
      · rename_i c' hc
        split at h
        · rename_i hl
          cases h
          cases strS_leaf hl e0
          exact compA_ok XS hc
        · cases h
      · cases h
    · rename_i x p e p2
      split at h
      · rename_i hst
        obtain ⟨h1, h2⟩ := XO.st x hst
        split at h
        · rename_i i c' g1 g2
          cases h
          cases strS_leaf rfl e0
          exact PS.imp (ps_aug XO.nd (by rw [XO.N]; exact idx_get g1) h1 (ihE _ _ g2).pe pip_add h2) rs_aug
        · cases h
      · cases h
    · rename_i x p p2 p3
      split at h
      · rename_i hc
        rw [Bool.and_eq_true, Bool.and_eq_true] at hc
        cases h
        cases strS_leaf rfl e0
        obtain ⟨C, bmB, B, newId, initId, f1, f2, f3, f4, f5, f6⟩ := XS.xc x hc.2.2
        exact PS.imp (ps_raise XO.calm XO.tk (pmk_own0 f1 f2 f3 f4 f5 (isGl_ok XO hc.2.1) (okName_ok hc.1).1)) (rs_rse f6)
      · cases h
    · rename_i b hd hs p
      split at h
      · rename_i x y g1 g2
        cases h
        obtain ⟨b', rfl, q1⟩ := strS_try e0
        obtain ⟨k1, k2⟩ := compHs_ok XS g2
        have := ps_try_many (pos := p) (body := b) (tb := fun W' => tSs X.kw xg W' F sub N b') XS.stk XS.fr XO.tk (fun W' pn xe tk po => compSL_ok (fun s c c1 h e => compS_ok n (XS.tr tk po) h e) g1 q1) k1
        exact PS.imp this (rs_try XS.sub k2)
      · cases h
    · cases h
end
end Rw

set_option Elab.async false
set_option linter.all false
set_option maxRecDepth 100000
/-! RwR: defs: each keeps the promise that the evaluator makes. -/
namespace Rw
open PySem PySem.Spec PyProof.Rows L2
/-- what the module's names mean -/
structure GG where
  gc : Str → Option D
  bn : Str → Bool
  xc : Str → Bool
  /-- its functions -/
  gl : Str → Bool
  ns : List String
  kc : Str → Option (String × Str × Nat × List D)
  ms : Str → List (String × Str)
  fl : String → String → Bool
def ccOf (G : GG) (tab : Tab) (N : List Str) (sc : Scope) : CC where
  N := N
  sc := sc
  st := fun y => match sc.names.lookup y with
    | some .local => true
    | some .cell => true
    | _ => false
  gc := G.gc
  fm := fun f => if G.gl f = true then (tab f).map Def.modes else none
  bn := G.bn
  xc := G.xc
  ns := G.ns
  kc := fun x => match G.kc x with
    | some (c, g, m, dl) => (match (tab g).map Def.modes with
      | some (.mu :: _) => some (c, g, m, dl)
      | _ => none)
    | none => none
  ms := G.ms
structure GOk (K : PySem.W.Frag) (mg xg : Str → Option Value) (sub : Str → Str → Option Bool) (G : GG) : Prop where
  gc : ∀ x d, G.gc x = some d → flat d = true ∧ ∃ u, mg x = some u ∧ RelV (dV d) u
  bn : ∀ x, G.bn x = true → mg x = none
  xc : ∀ x, G.xc x = true → ∃ (C : Addr) (bmB : List Value) (B newId initId : String), ExcBaseFacts B newId initId bmB ∧ PySem.W.excIn K C bmB newId = true ∧ mg x = some (.ref C) ∧ PySem.W.keepIn K (.ref C) = true ∧
    (PySem.W.subIn K (.ref C) (.type "BaseException") = some true ∧ PySem.W.typeIn K (.ref C) = some (.type "type")) ∧ xg x = some (.ref C)
  sub : ∀ c k r, sub c k = some r → ∀ cls ck, xg c = some cls → xg k = some ck → PySem.W.exmOne K cls ck = some r
  fl : ∀ c f, G.fl c f = true → Cls K (He.ga K (Str.ofString c)) ∧ NoAttr K (He.ga K (Str.ofString c)) (Str.ofString f)
section
variable {K : KW} {A₀ A A' : Addr → Prop} {σ σ' : L2.St} {H H' : Hp} {ρ ρ' : Env} {fp fp' : Nat → List Addr}
theorem initE_eq {ms : List Mode} {ns : Nat} {ds : List Rw.D} (h : ds.length = ms.length) (hn : ms.length ≤ ns) : initE ms ns ds = some (argE ms ds ++ List.replicate (ns - ms.length) .un) := by
  unfold initE
  rw [if_pos ⟨h, hn⟩]
  congr 2
  unfold argE
  apply List.map_congr_left
  rintro ⟨m, d⟩ _
  cases m <;> rfl
/-- more names, that hold nothing -/
theorem SI.more (S : SI K A₀ A σ H ρ fp) (n : Nat) : SI K A₀ A (σ ++ List.replicate n none) H (ρ ++ List.replicate n .un) fp := by
  have hl : ∀ i, look (σ ++ List.replicate n none) i = look σ i := fun i => by
    unfold look
    by_cases h : i < σ.length
    · rw [List.getElem?_append_left h]
    · rw [List.getElem?_append_right (by omega), List.getElem?_eq_none_iff.mpr (show σ.length ≤ i by omega)]
      by_cases h2 : i - σ.length < n
      · simp [List.getElem?_replicate, h2]
      · simp [List.getElem?_replicate, h2]
  have hs : ∀ i, slot (ρ ++ List.replicate n .un) i = slot ρ i := fun i => by
    unfold slot
    by_cases h : i < ρ.length
    · rw [List.getElem?_append_left h]
    · rw [List.getElem?_append_right (by omega), List.getElem?_eq_none_iff.mpr (show ρ.length ≤ i by omega)]
      by_cases h2 : i - ρ.length < n
      · simp [List.getElem?_replicate, h2]
      · simp [List.getElem?_replicate, h2]
  exact ⟨by simp [S.len], S.sub, S.nd, S.dj, S.na, S.tr, fun i => by rw [hl, hs]; exact S.sl i⟩
theorem musOf_ret : ∀ {ms : List Mode} {ρ : Env} {mus : List Rw.D}, musOf ms ρ = some mus → ∀ j, ms[j]? = some .mu → ∃ d, slot ρ j = .mw d ∧ slot (retE ms mus) j = .mw d
  | [], _, _, _, j, hj => by simp at hj
  | m :: ms, [], mus, h, j, hj => by cases m <;> cases h
  | m :: ms, s :: ρ, mus, h, j, hj => by
    have tl : ∀ {mus' : List Rw.D} {s' : Slot}, musOf ms ρ = some mus' → (∀ k : Nat, j = k + 1 → ∃ d, slot (s :: ρ) j = .mw d ∧ slot (s' :: retE ms mus') j = .mw d) := fun {mus' s'} e k ej => by
      subst ej
      obtain ⟨d, h1, h2⟩ := musOf_ret e k (by simpa using hj)
      exact ⟨d, by simpa [slot] using h1, by simpa [slot] using h2⟩
    cases m with
    | mu =>
      unfold musOf at h
      cases s with
      | mw d =>
        dsimp only at h
        cases e : musOf ms ρ with
        | none => rw [e] at h; cases h
        | some mus' =>
          rw [e] at h
          cases h
          cases j with
          | zero => exact ⟨d, rfl, rfl⟩
          | succ k => exact tl e k rfl
      | _ => cases h
    | al =>
      have h : musOf ms ρ = some mus := h
      cases j with
      | zero => simp at hj
      | succ k =>
        obtain ⟨d, h1, h2⟩ := tl (s' := .un) h k rfl
        exact ⟨d, h1, by cases mus <;> exact h2⟩
    | bw =>
      have h : musOf ms ρ = some mus := h
      cases j with
      | zero => simp at hj
      | succ k =>
        obtain ⟨d, h1, h2⟩ := tl (s' := .un) h k rfl
        exact ⟨d, h1, by cases mus <;> exact h2⟩
def fpR (ms : List Mode) (fp : Nat → List Addr) (j : Nat) : List Addr := if ms[j]? = some .mu then fp j else []
/-- a def's end, seen by the caller -/
theorem ret_si {ms : List Mode} {vs : List V} {ds mus : List Rw.D} {n n' : Nat} (hv : vs.length = ms.length) (hd : ds.length = ms.length) (S : SI K A A (vs.map some) H (argE ms ds) fp)
    (g : SOk K A A fp (vs.map some ++ List.replicate n none) H (argE ms ds ++ List.replicate n' .un) ρ' σ' H' A' fp') (hm : musOf ms ρ' = some mus) :
    SI K A A' (vs.map some) H' (retE ms mus) (fpR ms fp') ∧ Tr A fp H A' (fpR ms fp') H' ∧ ∀ a, Bs A' (fpR ms fp') a → Bs A' fp' a := by
  have le : ∀ j a, a ∈ fpR ms fp' j → a ∈ fp' j := fun j a h => by
    unfold fpR at h
    split at h
    · exact h
    · cases h
  have sub : ∀ a, Bs A' (fpR ms fp') a → Bs A' fp' a := fun a b => b.imp id fun ⟨j, h⟩ => ⟨j, le j a h⟩
  refine ⟨⟨by rw [List.length_map, retE_len, hv], g.si.sub, fun j => ?_, fun i j a h1 h2 => g.si.dj i j a (le i a h1) (le j a h2), fun i a h => g.si.na i a (le i a h), g.si.tr, fun j => ?_⟩, ⟨g.tr.a, g.tr.k, fun a b => g.tr.b a (sub a b)⟩, sub⟩
  · unfold fpR; split
    · exact g.si.nd j
    · exact .nil
  · by_cases hj : ms[j]? = some .mu
    · obtain ⟨d, h1, h2⟩ := musOf_ret hm j hj
      have so := g.si.sl j
      rw [h1] at so
      obtain ⟨v, hl, r⟩ := so
      have hlt : j < ms.length := (List.getElem?_eq_some_iff.mp hj).1
      have sj : slot (argE ms ds ++ List.replicate n' .un) j = .mw ds[j] := by
        have : (argE ms ds)[j]? = some (argSlot .mu ds[j]) := by
          unfold argE
          rw [List.getElem?_map, List.getElem?_zip_eq_some (z := (Mode.mu, ds[j])) |>.mpr ⟨hj, List.getElem?_eq_getElem (by omega)⟩]
          rfl
        unfold slot
        rw [List.getElem?_append_left (lt_of_get this), this]
        rfl
      have hk := g.look j (by rw [sj] <;> rfl)
      have hl' : look (vs.map some) j = some v := by
        rw [← hl, hk]
        unfold look
        rw [List.getElem?_append_left (by rw [List.length_map]; omega)]
      rw [h2, hl']
      have ef : fpR ms fp' j = fp' j := if_pos hj
      rw [ef]
      exact ⟨v, rfl, r.mono (fun _ _ e _ => e) fun a b => .inl (sub a b)⟩
    · rw [slot_retE hj]
      exact if_neg hj
end
/-- what is known of the defs, calls k deep -/
structure TabOk (P : Program) (w : World) (K : PySem.W.Frag) (mg xg : Str → Option Value) (base : Heap) (sub : Str → Str → Option Bool) (N : Nat) (G : GG) (tab : Tab) (adr : Str → Addr) (k : Nat) : Prop where
  fn : ∀ f d, tab f = some d → FnR P w K mg base (L2.CX P w) (2 * k) (adr f) (spD ⟨K, w⟩ xg d.modes (run tab G.fl sub N k f))
  gl : ∀ f d, G.gl f = true → tab f = some d → mg f = some (.ref (adr f)) ∧ PySem.W.keepIn K (.ref (adr f)) = true
  mt : ∀ m c g d, (G.ms m).lookup c = some g → tab g = some d → Cls K (He.ga K (Str.ofString c)) ∧ Meth K (He.ga K (Str.ofString c)) m (adr g)
  kc : ∀ x c g m dl d, G.kc x = some (c, g, m, dl) → tab g = some d → Str.ofString c = x ∧ dl.all flat = true ∧ FnR P w K mg base (L2.CX P w) (2 * k) (adr g) (fun vs H Q E => spD ⟨K, w⟩ xg d.modes (run tab G.fl sub N k g) (vs ++ dl.map dV) H Q E) ∧ Mk K (He.ga K x) (adr g) ∧ mg x = some (.ref (He.ga K x))
/-- THE DEF: its body's run is the evaluator's -/
theorem fn_step {P : Program} {w : World} {K : PySem.W.Frag} {mg xg : Str → Option Value} {base : Heap} {sub : Str → Str → Option Bool} {N : Nat} {G : GG} {tab : Tab} {adr : Str → Addr} {k : Nat} (GO : GOk K mg xg sub G)
    (hf : TabOk P w K mg xg base sub N G tab adr k)
    {f x qual : Str} {params : Arguments} {body : List Stmt} {scope : Scope} {a : Addr} {fd : FuncData} {Nn ps : List Str} {d : Def} {m : Nat} {dvs : List V} {kws : List (Str × V)} (F : FunD K x qual params body scope dvs kws a fd) (S : FnScope Nn ps scope) (hm : d.modes.length = ps.length) (hn : d.ns = Nn.length)
    (hc : compSL (compS m (ccOf G tab Nn scope)) body = some (strSs d.body)) (ht : tab f = some d) : FnOk P w K mg base (L2.CX P w) (2 * (k + 1)) a fd ps (spD ⟨K, w⟩ xg d.modes (run tab G.fl sub N (k + 1) f)) := by
  have hpl : ps.length ≤ Nn.length := by have := congrArg List.length S.pre; rw [List.length_take] at this; omega
  refine F.ok (k := 2 * k + 1) S (fun vs H Q E ⟨A, ds, fp, h1, _⟩ => h1.trans hm) fun cdv A outer s H vs Q E hr hsp => ?_
  let X := cxOf (L2.CX P w) P w K mg base Nn qual scope a cdv A outer s H E
  have XS : XSk xg ⟨G.fl, fun g => (tab g).map Def.modes, run tab G.fl sub N k⟩ sub (ccOf G tab Nn scope) X (fun cls d _ H => E cls d H) := by
    refine ⟨⟨rfl, S.nd, rfl, rfl, takes_of rfl rfl rfl rfl, hr.units, fun y hy => ?_, GO.gc, GO.bn, fun g ms hg => ?_, GO.fl, fun mm c g ms h1 h2 => ?_, fun y c g m dl hy => ?_⟩, passes_of rfl, rfl, rfl, S.kind, fun y hy => ?_, fun y hy => ?_, GO.sub⟩
    · unfold ccOf at hy
      dsimp only at hy
      refine ⟨?_, .inl rfl⟩
      split at hy
      · rename_i e; exact .inl e
      · rename_i e; exact .inr e
      · cases hy
    · have hg : (if G.gl g = true then (tab g).map Def.modes else none) = some ms := hg
      split at hg
      · rename_i hgl
        cases e : tab g with
        | none => rw [e] at hg; cases hg
        | some d' =>
          rw [e] at hg
          cases hg
          obtain ⟨k3, k4⟩ := hf.gl g d' hgl e
          exact ⟨by show (tab g).map Def.modes = _; rw [e] <;> rfl, adr g, ⟨2 * k, hf.fn g d' e, hr⟩, k3, k4⟩
      · cases hg
    · have h2 : (tab g).map Def.modes = some ms := h2
      cases e : tab g with
      | none => rw [e] at h2; cases h2
      | some d' =>
        rw [e] at h2
        cases h2
        obtain ⟨k3, k4⟩ := hf.mt mm c g d' h1 e
        exact ⟨adr g, ⟨2 * k, hf.fn g d' e, hr⟩, k3, k4⟩
    · unfold ccOf at hy
      dsimp only at hy
      cases e : G.kc y with
      | none => rw [e] at hy; cases hy
      | some q =>
        obtain ⟨c', g', m', dl'⟩ := q
        rw [e] at hy
        dsimp only at hy
        cases e2 : tab g' with
        | none => rw [e2] at hy; cases hy
        | some d' =>
          rw [e2] at hy
          cases e3 : d'.modes with
          | nil =>
            simp only [Option.map_some, e3] at hy
            cases hy
          | cons m0 ms0 =>
            simp only [Option.map_some, e3] at hy
            cases m0 with
            | mu =>
              cases hy
              obtain ⟨q1, q2, q3, q4, q5⟩ := hf.kc y c g m dl d' e e2
              have q0 := hf.fn g d' e2
              rw [e3] at q0 q3
              exact ⟨q1, q2, ms0, adr g, by show (tab g).map Def.modes = _; rw [e2] <;> exact congrArg some e3, ⟨2 * k, q0, hr⟩, ⟨2 * k, q3, hr⟩, q4, q5⟩
            | al => cases hy
            | bw => cases hy
    · unfold ccOf
      dsimp only at hy ⊢
      rw [show scope.names.lookup y = some .local from hy]
    · obtain ⟨C, bmB, B, n1, n2, f1, f2, f3, f4, f5, f6⟩ := GO.xc y hy
      exact ⟨C, bmB, B, n1, n2, f1, f2, f3, f4, raises_own f5.1 f5.2, f6⟩
  refine ⟨_, compSL_ok (N := N) (fun s c c1 h e => compS_ok m XS h e) hc rfl, ?_⟩
  obtain ⟨A1, ds, fp, h1, h2, S1, h⟩ := hsp
  rw [run, ht] at h
  dsimp only at h
  unfold callD at h
  have hmn : d.modes.length ≤ d.ns := by omega
  rw [initE_eq h2 hmn] at h
  dsimp only at h
  have S2 := S1.more (d.ns - d.modes.length)
  have e0 : vs.map some ++ List.replicate (d.ns - d.modes.length) none = L2.start Nn vs := by
    unfold L2.start
    rw [hn, h1]
  refine ⟨A1, A1, _, fp, by rw [← e0]; exact S2, ?_⟩
  rw [← e0]
  generalize hev : evSs ⟨G.fl, fun g => (tab g).map Def.modes, run tab G.fl sub N k⟩ sub N d.body (argE d.modes ds ++ List.replicate (d.ns - d.modes.length) .un) = o at h ⊢
  cases o with
  | nx ρ' =>
    intro σ' H' fp' g
    unfold finish at h
    dsimp only at h
    split at h
    · rename_i mus hm
      obtain ⟨k1, k2, k3⟩ := ret_si h1 h2 S1 g hm
      exact h .non H' A1 _ k1 k2 (.fz .non)
    · exact h.elim
  | rt dr ρ' =>
    intro v σ' H' A' fp' g ok
    unfold finish at h
    dsimp only at h
    split at h
    · rename_i mus hm
      obtain ⟨k1, k2, k3⟩ := ret_si h1 h2 S1 g hm
      refine h v H' A' _ k1 k2 ?_
      obtain ⟨q, r, nd, hq⟩ := ok
      refine ⟨q, ?_, nd, hq⟩
      unfold opd at r ⊢
      split
      · rename_i hf
        rw [if_pos hf] at r
        exact ⟨r.1, r.2.mono (fun _ _ e _ => e) fun a b => .inl (k3 a b)⟩
      · rename_i hf
        rw [if_neg hf] at r
        exact Rp.mono (fun _ _ e _ => e) (fun a b => .inl (k3 a b)) r
    · exact h.elim
  | exc xx ρ' =>
    intro cls dx σ' H' fp' g xa
    unfold finish at h
    dsimp only at h
    split at h
    · rename_i mus hm
      obtain ⟨k1, k2, k3⟩ := ret_si h1 h2 S1 g hm
      exact h cls dx H' _ k1 k2 xa
    · exact h.elim
  | bk ρ' => exact h.elim
  | ct ρ' => exact h.elim
  | stuck => exact h.elim
/-- one def of the table -/
structure Ent where
  d : He.DefD
  N : List Str
  df : Def
def Ent.ps (e : Ent) : List Str := e.d.params.args.map (·.arg)
/-- how its parameters are bound -/
def BiOk (e : Ent) : Prop :=
  (e.d.dfl = [] ∧ ∀ (kV doc pm : Value) (an : Option Addr) (cdv ct : Value) (us : List Value), us.length = e.ps.length → bindArgs (PySem.W.fnOf e.d.name e.d.qual e.d.params e.d.body e.d.scope .none kV doc pm an cdv ct) ⟨us, []⟩ = pure (e.ps.zip us)) ∨
  (e.d.dfl ≠ [] ∧ ∃ n, n + e.d.dfl.length = e.ps.length ∧
    (∀ (T : Addr) (kV doc pm : Value) (an : Option Addr) (cdv ct : Value) (us its : List Value), us.length = e.ps.length → its.length = e.d.dfl.length →
      ∃ k, bindArgs (PySem.W.fnOf e.d.name e.d.qual e.d.params e.d.body e.d.scope (.ref T) kV doc pm an cdv ct) ⟨us, []⟩ = seqItems? (.ref T) >>= k ∧ k (some its.toArray) = pure (e.ps.zip (us ++ its.drop e.d.dfl.length))) ∧
    (∀ (T : Addr) (kV doc pm : Value) (an : Option Addr) (cdv ct : Value) (us its : List Value), us.length = n → its.length = e.d.dfl.length →
      ∃ k, bindArgs (PySem.W.fnOf e.d.name e.d.qual e.d.params e.d.body e.d.scope (.ref T) kV doc pm an cdv ct) ⟨us, []⟩ = seqItems? (.ref T) >>= k ∧ k (some its.toArray) = pure (e.ps.zip (us ++ its.drop 0))))
structure EntOk (G : GG) (tab : Tab) (e : Ent) : Prop where
  kwd : e.d.kwd = []
  sc : FnScope e.N e.ps e.d.scope
  ml : e.df.modes.length = e.ps.length
  nl : e.df.ns = e.N.length
  bd : compSL (compS 60 (ccOf G tab e.N e.d.scope)) e.d.body = some (strSs e.df.body)
  bi : BiOk e
theorem BiOk.full {e : Ent} {K : PySem.W.Frag} {f : Addr} {fd : FuncData} (h : BiOk e) (F : FunD K e.d.name e.d.qual e.d.params e.d.body e.d.scope (e.d.dvs K) (e.d.kws K) f fd) : ∃ ds, Vals [] ds ∧ Binds K fd e.ps ds := by
  rcases h with ⟨h1, h2⟩ | ⟨h1, n, h2, h3, h4⟩
  · have e1 : e.d.dvs K = [] := by unfold He.DefD.dvs; rw [h1] <;> rfl
    rw [e1] at F
    exact ⟨[], .nil, F.bindsN h2⟩
  · have hl : (e.d.dvs K).length = e.d.dfl.length := by unfold He.DefD.dvs; rw [List.length_map]
    obtain ⟨ds, q1, q2⟩ := F.binds1 (ps := e.ps) e.ps.length (e.d.dvs K).length (by intro z; rw [z] at hl; exact h1 (List.eq_nil_of_length_eq_zero hl.symm)) (by omega) (fun T kV doc pm an cdv ct us its l1 l2 => by
      rw [hl] at l2 ⊢
      exact h3 T kV doc pm an cdv ct us its l1 l2)
    rw [List.drop_length] at q1
    exact ⟨ds, q1, q2⟩
theorem BiOk.few {e : Ent} {K : PySem.W.Frag} {f : Addr} {fd : FuncData} (h : BiOk e) (F : FunD K e.d.name e.d.qual e.d.params e.d.body e.d.scope (e.d.dvs K) (e.d.kws K) f fd) : ∃ ds, Vals (e.d.dvs K) ds ∧ Binds K fd e.ps ds := by
  rcases h with ⟨h1, h2⟩ | ⟨h1, n, h2, h3, h4⟩
  · have e1 : e.d.dvs K = [] := by unfold He.DefD.dvs; rw [h1] <;> rfl
    rw [e1] at F ⊢
    exact ⟨[], .nil, F.bindsN h2⟩
  · have hl : (e.d.dvs K).length = e.d.dfl.length := by unfold He.DefD.dvs; rw [List.length_map]
    exact F.binds1 (ps := e.ps) n 0 (by intro z; rw [z] at hl; exact h1 (List.eq_nil_of_length_eq_zero hl.symm)) (by omega) (fun T kV doc pm an cdv ct us its l1 l2 => by
      rw [hl] at l2
      exact h4 T kV doc pm an cdv ct us its l1 l2)
/-- where a class is made -/
def dvD : D → He.Dv
  | .bl b => .bl b
  | .int i => .int i
  | .str x => .str ⟨x.toArray⟩
  | _ => .non
theorem dvD_ok {K : PySem.W.Frag} {d : D} : (dvD d).v K = dV d := by cases d <;> rfl
/-- the entries fit together -/
structure EntsOk (K : PySem.W.Frag) (mg : Str → Option Value) (G : GG) (ents : List (Str × Ent)) : Prop where
  ok : ∀ f e, ents.lookup f = some e → EntOk G (fun f => (ents.lookup f).map Ent.df) e
  fd : ∀ f e, ents.lookup f = some e → ∃ fd, FunD K e.d.name e.d.qual e.d.params e.d.body e.d.scope (e.d.dvs K) (e.d.kws K) (He.fAd K e.d.at_) fd
  gl : ∀ f e, G.gl f = true → ents.lookup f = some e → mg f = some (.ref (He.fAd K e.d.at_))
  mt : ∀ m c g e, (G.ms m).lookup c = some g → ents.lookup g = some e → Cls K (He.ga K (Str.ofString c)) ∧ Meth K (He.ga K (Str.ofString c)) m (He.fAd K e.d.at_)
  kc : ∀ x c g m dl e, G.kc x = some (c, g, m, dl) → ents.lookup g = some e → Str.ofString c = x ∧ dl.all flat = true ∧ dl.map dvD = e.d.dfl ∧ Mk K (He.ga K x) (He.fAd K e.d.at_) ∧ mg x = some (.ref (He.ga K x))
/-- ALL DEFS -/
theorem fn_all {P : Program} {w : World} {K : PySem.W.Frag} {mg xg : Str → Option Value} {base : Heap} {sub : Str → Str → Option Bool} {N : Nat} {G : GG} {ents : List (Str × Ent)} (GO : GOk K mg xg sub G) (hE : EntsOk K mg G ents) :
    ∀ k f e, ents.lookup f = some e → ∀ fd, FunD K e.d.name e.d.qual e.d.params e.d.body e.d.scope (e.d.dvs K) (e.d.kws K) (He.fAd K e.d.at_) fd →
      FnOk P w K mg base (L2.CX P w) (2 * k) (He.fAd K e.d.at_) fd e.ps (spD ⟨K, w⟩ xg e.df.modes (run (fun f => (ents.lookup f).map Ent.df) G.fl sub N k f)) := by
  intro k
  induction k with
  | zero =>
    intro f e he fd F
    refine ⟨fun vs H Q E ⟨A, ds, fp, h1, _⟩ => h1.trans (hE.ok f e he).ml, fun A outer s H args us vs Q E _ _ _ _ ⟨A1, ds, fp, _, _, _, h⟩ => ?_⟩
    rw [run] at h
    exact h.elim
  | succ k ih =>
    intro f e he fd F
    have EO := hE.ok f e he
    let adr : Str → Addr := fun g => match ents.lookup g with
      | some e => He.fAd K e.d.at_
      | none => 0
    have hadr : ∀ g e, ents.lookup g = some e → adr g = He.fAd K e.d.at_ := fun g e h => by show (match ents.lookup g with | some e => He.fAd K e.d.at_ | none => 0) = _; rw [h]
    have T : TabOk P w K mg xg base sub N G (fun f => (ents.lookup f).map Ent.df) adr k := by
      have ex : ∀ {g d}, (ents.lookup g).map Ent.df = some d → ∃ e, ents.lookup g = some e ∧ e.df = d := fun {g d} h => by
        cases e2 : ents.lookup g with
        | none => rw [e2] at h; cases h
        | some e' => rw [e2] at h; cases h; exact ⟨e', rfl, rfl⟩
      refine ⟨fun g d hg => ?_, fun g d hgl hg => ?_, fun m c g d hm hg => ?_, fun x c g m dl d hk hg => ?_⟩
      · obtain ⟨e', e2, rfl⟩ := ex hg
        rw [hadr g e' e2]
        obtain ⟨fd', F2⟩ := hE.fd g e' e2
        obtain ⟨ds, q1, q2⟩ := (hE.ok g e' e2).bi.full F2
        have := (ih g e' e2 fd' F2).raw q2 q1
        simp only [List.append_nil] at this
        exact this
      · obtain ⟨e', e2, rfl⟩ := ex hg
        rw [hadr g e' e2]
        obtain ⟨fd', F2⟩ := hE.fd g e' e2
        exact ⟨hE.gl g e' hgl e2, F2.kp⟩
      · obtain ⟨e', e2, rfl⟩ := ex hg
        rw [hadr g e' e2]
        exact hE.mt m c g e' hm e2
      · obtain ⟨e', e2, rfl⟩ := ex hg
        rw [hadr g e' e2]
        obtain ⟨q1, q2, q3, q4, q5⟩ := hE.kc x c g m dl e' hk e2
        obtain ⟨fd', F2⟩ := hE.fd g e' e2
        obtain ⟨ds, r1, r2⟩ := (hE.ok g e' e2).bi.few F2
        refine ⟨q1, q2, ?_, q4, q5⟩
        have := (ih g e' e2 fd' F2).raw r2 r1
        have ed : e'.d.dvs K = dl.map dV := by
          unfold He.DefD.dvs
          rw [← q3, List.map_map]
          exact List.map_congr_left fun d _ => dvD_ok
        rw [ed] at this
        exact this
    exact fn_step GO T F EO.sc EO.ml EO.nl EO.bd (by show (ents.lookup f).map Ent.df = _; rw [he] <;> rfl)
end Rw

set_option Elab.async false
set_option linter.all false
set_option maxRecDepth 100000
/-! RwS: a whole program: facts of its names, its law. -/
namespace Rw
open PySem PySem.Spec PyProof.Rows L2
def gcF : List He.Fa → Str → Option D
  | [], _ => none
  | .int y i :: r, x => if y = x then some (.int i) else gcF r x
  | .str y z :: r, x => if y = x then some (.str z.cps.toList) else gcF r x
  | _ :: r, x => gcF r x
def hasFree : List He.Fa → Str → Bool
  | [], _ => false
  | .free y :: r, x => decide (y = x) || hasFree r x
  | _ :: r, x => hasFree r x
def hasGlo : List He.Fa → Str → Bool
  | [], _ => false
  | .glo y :: r, x => decide (y = x) || hasGlo r x
  | _ :: r, x => hasGlo r x
def hasExc : List He.Fa → Str → Bool
  | [], _ => false
  | .exc y :: r, x => decide (y = x) || hasExc r x
  | _ :: r, x => hasExc r x
def subF : List He.Fa → Str → Str → Option Bool
  | [], _, _ => none
  | .exm y z b :: r, c, k => if y = c ∧ z = k then some b else subF r c k
  | _ :: r, c, k => subF r c k
def hasCls : List He.Fa → Str → Bool
  | [], _ => false
  | .cls y :: r, x => decide (y = x) || hasCls r x
  | _ :: r, x => hasCls r x
def hasMkr : List He.Fa → Str → Bool
  | [], _ => false
  | .mkr y :: r, x => decide (y = x) || hasMkr r x
  | _ :: r, x => hasMkr r x
def hasNoat : List He.Fa → Str → Str → Bool
  | [], _, _ => false
  | .noat y g :: r, x, f => decide (y = x ∧ g = f) || hasNoat r x f
  | _ :: r, x, f => hasNoat r x f
def hasMeth : List He.Fa → Str → Str → Bool
  | [], _, _ => false
  | .meth y g :: r, x, f => decide (y = x ∧ g = f) || hasMeth r x f
  | _ :: r, x, f => hasMeth r x f
/-- a class that is made: the key of its __init__; where m values are written the defaults fill up -/
structure Kls where
  c : String
  g : Str
  m : Nat
  dl : List D
/-- a method's name: the classes, its keys -/
abbrev Mts := List (Str × List (String × Str))
structure Pgm where
  fa : List He.Fa
  ns : List String
  kcs : List Kls
  mss : Mts
def ggF (p : Pgm) : GG where
  gc := gcF p.fa
  bn := hasFree p.fa
  xc := fun x => hasExc p.fa x && hasGlo p.fa x
  gl := hasGlo p.fa
  ns := p.ns
  kc := fun x => (p.kcs.find? fun k => decide (Str.ofString k.c = x)).map fun k => (k.c, k.g, k.m, k.dl)
  ms := fun m => (p.mss.lookup m).getD []
  fl := fun c f => hasCls p.fa (Str.ofString c) && hasNoat p.fa (Str.ofString c) (Str.ofString f)
def dvB : He.Dv → D → Bool
  | .bl b, .bl c => b == c
  | .int i, .int j => decide (i = j)
  | .str x, .str y => decide (x = ⟨y.toArray⟩)
  | .non, .non => true
  | _, _ => false
theorem dvB_ok {v : He.Dv} {d : D} (h : dvB v d = true) : dvD d = v := by
  cases v <;> cases d <;> first | (exact Bool.noConfusion h) | rfl | skip
  · rw [eq_of_beq h] <;> rfl
  · rw [of_decide_eq_true h] <;> rfl
  · rw [of_decide_eq_true h] <;> rfl
def dvL : List He.Dv → List D → Bool
  | [], [] => true
  | v :: vs, d :: ds => dvB v d && dvL vs ds
  | _, _ => false
theorem dvL_ok : ∀ {vs : List He.Dv} {ds : List D}, dvL vs ds = true → ds.map dvD = vs
  | [], [], _ => rfl
  | [], _ :: _, h => by cases h
  | _ :: _, [], h => by cases h
  | v :: vs, d :: ds, h => by
    have h : (dvB v d && dvL vs ds) = true := h
    rw [Bool.and_eq_true] at h
    rw [List.map_cons, dvB_ok h.1, dvL_ok h.2]
def atIs (ents : List (Str × Ent)) (g : Str) (a : Str × Option Str) : Bool := match ents.lookup g with
  | some e => decide (e.d.at_ = a)
  | none => false
def mssB (p : Pgm) (ents : List (Str × Ent)) : Bool := p.mss.all fun q => q.2.all fun r => hasCls p.fa (Str.ofString r.1) && (hasMeth p.fa (Str.ofString r.1) q.1 && atIs ents r.2 (Str.ofString r.1, some q.1))
def kcsB (p : Pgm) (ents : List (Str × Ent)) : Bool := p.kcs.all fun k => hasMkr p.fa (Str.ofString k.c) && (hasGlo p.fa (Str.ofString k.c) && (k.dl.all flat && (atIs ents k.g (Str.ofString k.c, some "__init__") && (match ents.lookup k.g with
  | some e => dvL e.d.dfl k.dl
  | none => false))))
def xgF (fa : List He.Fa) (K : PySem.W.Frag) (x : Str) : Option Value := if hasGlo fa x then some (.ref (He.ga K x)) else none
section
variable {x : Str}
theorem free_mem : ∀ {fa : List He.Fa}, hasFree fa x = true → He.Fa.free x ∈ fa
  | [], h => by cases h
  | f :: r, h => by
    cases f <;> first
      | (have h : hasFree r x = true := h; exact List.mem_cons_of_mem _ (free_mem h))
      | (rename_i y
         have h : (decide (y = x) || hasFree r x) = true := h
         rw [Bool.or_eq_true] at h
         rcases h with h | h
         · rw [of_decide_eq_true h]; exact List.mem_cons_self
         · exact List.mem_cons_of_mem _ (free_mem h))
theorem glo_mem : ∀ {fa : List He.Fa}, hasGlo fa x = true → He.Fa.glo x ∈ fa
  | [], h => by cases h
  | f :: r, h => by
    cases f <;> first
      | (have h : hasGlo r x = true := h; exact List.mem_cons_of_mem _ (glo_mem h))
      | (rename_i y
         have h : (decide (y = x) || hasGlo r x) = true := h
         rw [Bool.or_eq_true] at h
         rcases h with h | h
         · rw [of_decide_eq_true h]; exact List.mem_cons_self
         · exact List.mem_cons_of_mem _ (glo_mem h))
theorem exc_mem : ∀ {fa : List He.Fa}, hasExc fa x = true → He.Fa.exc x ∈ fa
  | [], h => by cases h
  | f :: r, h => by
    cases f <;> first
      | (have h : hasExc r x = true := h; exact List.mem_cons_of_mem _ (exc_mem h))
      | (rename_i y
         have h : (decide (y = x) || hasExc r x) = true := h
         rw [Bool.or_eq_true] at h
         rcases h with h | h
         · rw [of_decide_eq_true h]; exact List.mem_cons_self
         · exact List.mem_cons_of_mem _ (exc_mem h))
theorem cls_mem : ∀ {fa : List He.Fa}, hasCls fa x = true → He.Fa.cls x ∈ fa
  | [], h => by cases h
  | f :: r, h => by
    cases f <;> first
      | (have h : hasCls r x = true := h; exact List.mem_cons_of_mem _ (cls_mem h))
      | (rename_i y
         have h : (decide (y = x) || hasCls r x) = true := h
         rw [Bool.or_eq_true] at h
         rcases h with h | h
         · rw [of_decide_eq_true h]; exact List.mem_cons_self
         · exact List.mem_cons_of_mem _ (cls_mem h))
theorem mkr_mem : ∀ {fa : List He.Fa}, hasMkr fa x = true → He.Fa.mkr x ∈ fa
  | [], h => by cases h
  | f :: r, h => by
    cases f <;> first
      | (have h : hasMkr r x = true := h; exact List.mem_cons_of_mem _ (mkr_mem h))
      | (rename_i y
         have h : (decide (y = x) || hasMkr r x) = true := h
         rw [Bool.or_eq_true] at h
         rcases h with h | h
         · rw [of_decide_eq_true h]; exact List.mem_cons_self
         · exact List.mem_cons_of_mem _ (mkr_mem h))
theorem noat_mem {f : Str} : ∀ {fa : List He.Fa}, hasNoat fa x f = true → He.Fa.noat x f ∈ fa
  | [], h => by cases h
  | a :: r, h => by
    cases a <;> first
      | (have h : hasNoat r x f = true := h; exact List.mem_cons_of_mem _ (noat_mem h))
      | (rename_i y g
         have h : (decide (y = x ∧ g = f) || hasNoat r x f) = true := h
         rw [Bool.or_eq_true] at h
         rcases h with h | h
         · obtain ⟨h1, h2⟩ := of_decide_eq_true h
           rw [h1, h2]; exact List.mem_cons_self
         · exact List.mem_cons_of_mem _ (noat_mem h))
theorem meth_mem {f : Str} : ∀ {fa : List He.Fa}, hasMeth fa x f = true → He.Fa.meth x f ∈ fa
  | [], h => by cases h
  | a :: r, h => by
    cases a <;> first
      | (have h : hasMeth r x f = true := h; exact List.mem_cons_of_mem _ (meth_mem h))
      | (rename_i y g
         have h : (decide (y = x ∧ g = f) || hasMeth r x f) = true := h
         rw [Bool.or_eq_true] at h
         rcases h with h | h
         · obtain ⟨h1, h2⟩ := of_decide_eq_true h
           rw [h1, h2]; exact List.mem_cons_self
         · exact List.mem_cons_of_mem _ (meth_mem h))
theorem sub_mem {c k : Str} {b : Bool} : ∀ {fa : List He.Fa}, subF fa c k = some b → He.Fa.exm c k b ∈ fa
  | [], h => by cases h
  | f :: r, h => by
    cases f <;> first
      | (have h : subF r c k = some b := h; exact List.mem_cons_of_mem _ (sub_mem h))
      | (rename_i y z b'
         have h : (if y = c ∧ z = k then some b' else subF r c k) = some b := h
         split at h
         · rename_i e
           cases h
           rw [e.1, e.2]; exact List.mem_cons_self
         · exact List.mem_cons_of_mem _ (sub_mem h))
theorem gc_mem {d : D} : ∀ {fa : List He.Fa}, gcF fa x = some d → (∃ i, d = .int i ∧ He.Fa.int x i ∈ fa) ∨ ∃ z : Str, d = .str z.cps.toList ∧ He.Fa.str x z ∈ fa
  | [], h => by cases h
  | f :: r, h => by
    have up : ((∃ i, d = .int i ∧ He.Fa.int x i ∈ r) ∨ ∃ z : Str, d = .str z.cps.toList ∧ He.Fa.str x z ∈ r) → (∃ i, d = .int i ∧ He.Fa.int x i ∈ f :: r) ∨ ∃ z : Str, d = .str z.cps.toList ∧ He.Fa.str x z ∈ f :: r :=
      fun h => h.imp (fun ⟨i, a, b⟩ => ⟨i, a, List.mem_cons_of_mem _ b⟩) fun ⟨i, a, b⟩ => ⟨i, a, List.mem_cons_of_mem _ b⟩
    cases f with
    | int y i =>
      have h : (if y = x then some (D.int i) else gcF r x) = some d := h
      split at h
      · rename_i e; cases h; rw [e]; exact .inl ⟨i, rfl, List.mem_cons_self⟩
      · exact up (gc_mem h)
    | str y z =>
      have h : (if y = x then some (D.str z.cps.toList) else gcF r x) = some d := h
      split at h
      · rename_i e; cases h; rw [e]; exact .inr ⟨z, rfl, List.mem_cons_self⟩
      · exact up (gc_mem h)
    | _ => exact up (gc_mem (show gcF r x = some d from h))
end
theorem says_mem {fa : List He.Fa} {fn : List He.DefD} {K : PySem.W.Frag} (c : He.SaysD fa fn K) {f : He.Fa} (h : f ∈ fa) : f.ok K = true := by
  obtain ⟨i, hi, e⟩ := List.getElem_of_mem h
  exact c.fact i (by rw [List.getElem?_eq_getElem hi, e])
theorem gok_of {p : Pgm} {fn : List He.DefD} {K : PySem.W.Frag} {h : Heap} {mg : Str → Option Value} (X : K.In h) (G : h.Ns mainGlobals mg) (c : He.SaysD p.fa fn K) : GOk K mg (xgF p.fa K) (subF p.fa) (ggF p) where
  gc := fun x d hd => by
    rcases gc_mem hd with ⟨i, rfl, hm⟩ | ⟨z, rfl, hm⟩
    · obtain ⟨t, e⟩ := He.int_ok X G (says_mem c hm)
      exact ⟨rfl, _, e, ⟨t, rfl⟩⟩
    · obtain ⟨t, e⟩ := He.str_ok X G (says_mem c hm)
      exact ⟨rfl, _, e, ⟨t, rfl⟩⟩
  bn := fun x hx => He.free_ok X G (says_mem c (free_mem hx))
  xc := fun x hx => by
    have hx : (hasExc p.fa x && hasGlo p.fa x) = true := hx
    rw [Bool.and_eq_true] at hx
    obtain ⟨f1, f2, f3, f4⟩ := He.exc_ok (says_mem c (exc_mem hx.1))
    exact ⟨He.ga K x, _, _, _, _, PySem.F.excBase_ValueError, f1, He.glo_ok X G (says_mem c (glo_mem hx.2)), f2, ⟨f3, f4⟩, by unfold xgF; rw [if_pos hx.2]⟩
  sub := fun a b r hr cls ck h1 h2 => by
    have e := He.exm_ok (says_mem c (sub_mem hr))
    unfold xgF at h1 h2
    split at h1
    · split at h2
      · cases h1; cases h2; exact e
      · cases h2
    · cases h1
  fl := fun a f hf => by
    have hf : (hasCls p.fa (Str.ofString a) && hasNoat p.fa (Str.ofString a) (Str.ofString f)) = true := hf
    rw [Bool.and_eq_true] at hf
    exact ⟨He.cls_ok (says_mem c (cls_mem hf.1)), He.noat_ok (says_mem c (noat_mem hf.2))⟩
/-- the law's own call -/
theorem law_sp {K : KW} {xg : Str → Option Value} {m : List D → FRes} {a : Addr} {ns : List Int} {H : Hp} {E : XK} (hm : m [.scr ns] = .rt (.bl true) []) (hS : SqL K H a (ns.map V.int)) : spD K xg [.al] m [.ref a] H (fun v _ => v = .bl true) E := by
  refine ⟨fun _ => False, [.scr ns], fun _ => [], rfl, rfl, ⟨rfl, fun _ h => h, fun _ => .nil, fun _ _ _ h => (nomatch h), fun _ _ h => (nomatch h), fun _ h => h.elim, fun i => ?_⟩, ?_⟩
  · cases i with
    | zero =>
      refine ⟨rfl, .ref a, rfl, .scr ?_⟩
      rcases hS with h | h
      · exact .inl ⟨h, fun b => b.elim id fun ⟨_, z⟩ => nomatch z⟩
      · exact .inr h
    | succ i =>
      have : slot (argE [.al] [.scr ns]) (i + 1) = .un := slot_out (by simp [argE])
      rw [this]
      exact rfl
  · rw [hm]
    intro v H' A' fp' _ _ ok
    obtain ⟨q, ⟨_, r⟩, _⟩ := ok
    cases r
    rfl
/-- THE PROGRAM: each def of the table has its entry; the law's entry ends True -/
theorem prog_ok {P : Program} {n k : Nat} {p : Pgm} {ents : List (Str × Ent)} {el : Ent} {mo : Nat}
    (hE : ∀ f e, ents.lookup f = some e → EntOk (ggF p) (fun f => (ents.lookup f).map Ent.df) e ∧ e.d ∈ ents.map (·.2.d) ∧ (hasGlo p.fa f = true → e.d.at_ = (f, none)))
    (hM : mssB p ents = true) (hK : kcsB p ents = true)
    (hl : ents.lookup ("law" : Str) = some el) (hgl : hasGlo p.fa "law" = true) (hdl : el.d.dfl = []) (hps : el.ps = ([("script" : Str)])) (hmo : el.df.modes = [.al])
    (hlaw : ∀ ns : List Int, ns.length ≤ mo → ∃ N, run (fun f => (ents.lookup f).map Ent.df) (ggF p).fl (subF p.fa) N k "law" [.scr ns] = .rt (.bl true) []) :
    ∀ (w : World) (mg : Str → Option Value) (a : Addr) (h : Heap), (He.hookD n p.fa (ents.map (·.2.d))).says w h → h.Ns mainGlobals mg → mg "law" = some (.ref a) →
      ∃ (K : PySem.W.Frag) (fd : FuncData) (sp : Sp), K.In h ∧ (∀ (s : Shared) (u : Value), BindsTo s fd ⟨[u], []⟩ [("script", u)]) ∧
        (∀ (H : Hp) (a : Addr) (ns : List Int), ns.length ≤ mo → Only H → SqL K H a (ns.map V.int) → sp [.ref a] H (fun v _ => v = .bl true) fun _ _ _ => False) ∧
        ∀ base : Heap, K.In base → base.Ns mainGlobals mg → FnOk P w K mg base (L2.CX P w) (2 * k) a fd ["script"] sp := by
  intro w mg a h Y G hmg
  obtain ⟨K, KX, c⟩ := Y
  have GO := gok_of KX G c
  have at_of : ∀ {g a e}, atIs ents g a = true → ents.lookup g = some e → e.d.at_ = a := fun {g a e} h1 h2 => by
    unfold atIs at h1
    rw [h2] at h1
    exact of_decide_eq_true h1
  have hEE : EntsOk K mg (ggF p) ents := by
    refine ⟨fun f e he => (hE f e he).1, fun f e he => ?_, fun f e hg he => ?_, fun m cl g e hm he => ?_, fun x cl g m dl e hk he => ?_⟩
    · obtain ⟨_, h4, _⟩ := hE f e he
      obtain ⟨i, hi, ei⟩ := List.getElem_of_mem h4
      exact c.def_ i (by rw [List.getElem?_eq_getElem hi, ei])
    · obtain ⟨_, _, h3⟩ := hE f e he
      have hg : hasGlo p.fa f = true := hg
      rw [h3 hg]
      exact He.glo_ok KX G (says_mem c (glo_mem hg))
    · have hm : ((p.mss.lookup m).getD []).lookup cl = some g := hm
      cases e2 : p.mss.lookup m with
      | none => rw [e2] at hm; cases hm
      | some l =>
        rw [e2] at hm
        have m1 := PySem.mem_of_lookup e2
        have m2 : (cl, g) ∈ l := by
          have hm2 : l.lookup cl = some g := hm
          clear e2 m1 hm he
          revert hm2
          induction l with
          | nil => intro hm2; cases hm2
          | cons q l ih =>
            obtain ⟨a1, b1⟩ := q
            rw [List.lookup_cons]
            intro hm2
            split at hm2
            · rename_i h0
              cases hm2
              rw [eq_of_beq h0]
              exact List.mem_cons_self
            · exact List.mem_cons_of_mem _ (ih hm2)
        have b1 := List.all_eq_true.mp (List.all_eq_true.mp hM _ m1) _ m2
        rw [Bool.and_eq_true, Bool.and_eq_true] at b1
        obtain ⟨b1, b2, b3⟩ := b1
        rw [at_of b3 he]
        exact ⟨He.cls_ok (says_mem c (cls_mem b1)), He.meth_ok (says_mem c (meth_mem b2))⟩
    · have hk : (p.kcs.find? fun k => decide (Str.ofString k.c = x)).map (fun k => (k.c, k.g, k.m, k.dl)) = some (cl, g, m, dl) := hk
      cases e2 : p.kcs.find? fun k => decide (Str.ofString k.c = x) with
      | none => rw [e2] at hk; cases hk
      | some kk =>
        rw [e2] at hk
        cases hk
        have ex : Str.ofString kk.c = x := by
          have := List.find?_some (p := fun k : Kls => decide (Str.ofString k.c = x)) e2
          exact of_decide_eq_true this
        subst ex
        have b := List.all_eq_true.mp hK _ (List.mem_of_find?_eq_some e2)
        rw [Bool.and_eq_true, Bool.and_eq_true, Bool.and_eq_true, Bool.and_eq_true] at b
        obtain ⟨b1, b2, b3, b4, b5⟩ := b
        rw [he] at b5
        refine ⟨rfl, b3, dvL_ok b5, ?_, He.glo_ok KX G (says_mem c (glo_mem b2))⟩
        rw [at_of b4 he]
        exact He.mkr_ok (says_mem c (mkr_mem b1))
  obtain ⟨EL, _, hat⟩ := hE _ _ hl
  obtain ⟨fd, Fd⟩ := hEE.fd _ _ hl
  have ea : He.fAd K el.d.at_ = a := by
    have := hEE.gl _ _ hgl hl
    rw [hmg] at this
    cases this
    rfl
  have Fd' : FunD K el.d.name el.d.qual el.d.params el.d.body el.d.scope [] [] (He.fAd K el.d.at_) fd := by
    have h1 : el.d.dvs K = [] := by unfold He.DefD.dvs; rw [hdl] <;> rfl
    have h2 : el.d.kws K = [] := by unfold He.DefD.kws; rw [EL.kwd] <;> rfl
    rw [h1, h2] at Fd
    exact Fd
  refine ⟨K, fd, fun vs H Q E => ∃ N, spD ⟨K, w⟩ (xgF p.fa K) el.df.modes (run (fun f => (ents.lookup f).map Ent.df) (ggF p).fl (subF p.fa) N k "law") vs H Q E, KX, fun s u => ?_, fun H a ns hns _ hS => ?_, fun base _ _ => ?_⟩
  · have bi : ∀ (kV doc pm : Value) (an : Option Addr) (cdv ct : Value) (us : List Value), us.length = el.ps.length → bindArgs (PySem.W.fnOf el.d.name el.d.qual el.d.params el.d.body el.d.scope .none kV doc pm an cdv ct) ⟨us, []⟩ = pure (el.ps.zip us) := by
      rcases EL.bi with ⟨_, z⟩ | ⟨z, _⟩
      · exact z
      · exact (z hdl).elim
    have := Fd'.bindsA bi s [u] (by rw [hps] <;> rfl)
    rw [hps] at this
    exact this
  · obtain ⟨N, hN⟩ := hlaw ns hns
    refine ⟨N, ?_⟩
    rw [hmo]
    exact law_sp hN hS
  · have ok : ∀ N, FnOk P w K mg base (L2.CX P w) (2 * k) (He.fAd K el.d.at_) fd el.ps (spD ⟨K, w⟩ (xgF p.fa K) el.df.modes (run (fun f => (ents.lookup f).map Ent.df) (ggF p).fl (subF p.fa) N k "law")) := fun N => fn_all GO hEE k "law" el hl fd Fd
    rw [hps, ea] at ok
    exact ⟨fun vs H Q E ⟨N, q⟩ => (ok N).len vs H Q E q, fun A outer s H args us vs Q E r e b v ⟨N, q⟩ => (ok N).run A outer s H args us vs Q E r e b v q⟩
theorem cx_none {P : Program} {w : World} (H : Hp) (s : Shared) (e : Value) (s' : Shared) : L2.CX P w [] H s (fun _ _ _ => False) e s' → False := fun h => by
  obtain ⟨_, _, _, _, _, _, _, _, _, _, _, _, z⟩ := h
  exact z
/-- the law of a program, walked: errors lie as the world says -/
theorem walkX {l : PySem.W.OpenLaw} {n k : Nat} {q : Program} {loose : List Str}
    {XP : (Str → Option Value) → Heap → Prop} {YP : World → Heap → Prop}
    {d : PySem.DefRec} {x : Str}
    (hn : l.most = some n) (hz : n ≤ sizeLine) (hd0 : d.params.defaults = [])
    (hr : Room k callerA)
    (F : ∀ (w : World) (mg : Str → Option Value) (f : Addr) (h : Heap),
      YP w h → h.Ns mainGlobals mg → mg d.name = some (.ref f) →
      ∃ (K : PySem.W.Frag) (fd : FuncData) (sp : Sp), K.In h ∧
        (∀ (s : Shared) (u : Value), BindsTo s fd ⟨[u], []⟩ [(x, u)]) ∧
        (∀ (H : Hp) (b : Addr) (ns : List Int), ns.length ≤ n → Only H →
          SqL K H b (ns.map V.int) →
          sp [.ref b] H (fun v _ => v = .bl true) fun _ _ _ => False) ∧
        ∀ base : Heap, K.In base → base.Ns mainGlobals mg →
          FnOk l.prog w K mg base (L2.CX l.prog w) k f fd [x] sp) :
    PySem.W.WalkO q loose XP YP l.row.toRowW d [] (fun f vs => PySem.call f vs) := by
  refine Att.attach_call hn hd0 fun w t₀ t₁ mg mb f o pm cd doc b vs ns G Y u1 u2 u3 hm u4 u5 hl hg => ?_
  obtain ⟨K, fd, sp, k1, k2, k3, k4⟩ := F w mg f _ Y G.T.g hm
  exact law_call k1 G.T.g G.T.b G.T.builtins G.T.nolimit hg u4 u5 (Nat.le_trans hl hz) hr k4 k2
    (fun H hO hS => k3 H b ns hl hO hS) fun H e s' => cx_none H t₁ e s'
end Rw

set_option Elab.async false
set_option linter.all false
set_option maxRecDepth 100000
/-! RwT: rules for runs of the evaluator. -/
namespace Rw
open PySem
theorem bi_len (ds : List D) : biV "len" ds = (match ds with
    | [d] => (lenV d).map .int
    | _ => none) := by unfold biV; rw [if_pos rfl] <;> rfl
theorem bi_abs (ds : List D) : biV "abs" ds = (match ds with
    | [.int i] => some (.int (if i < 0 then -i else i))
    | _ => none) := by unfold biV; rw [if_neg (by decide +kernel), if_pos rfl] <;> rfl
theorem bi_int (ds : List D) : biV "int" ds = (match ds with
    | [.int i] => some (.int i)
    | [.bl b] => some (.int (if b then 1 else 0))
    | _ => none) := by unfold biV; rw [if_neg (by decide +kernel), if_neg (by decide +kernel), if_pos rfl] <;> rfl
theorem bi_sum (ds : List D) : biV "sum" ds = (match ds with
    | [.lst _ xs] => (intsOf xs).map fun ns => .int ns.sum
    | _ => none) := by unfold biV; rw [if_neg (by decide +kernel), if_neg (by decide +kernel), if_neg (by decide +kernel), if_pos rfl] <;> rfl
theorem bi_all (ds : List D) : biV "all" ds = (match ds with
    | [.lst _ xs] => (blsOf xs).map fun bs => .bl (bs.all id)
    | _ => none) := by unfold biV; rw [if_neg (by decide +kernel), if_neg (by decide +kernel), if_neg (by decide +kernel), if_neg (by decide +kernel), if_pos rfl] <;> rfl
theorem bi_any (ds : List D) : biV "any" ds = (match ds with
    | [.lst _ xs] => (blsOf xs).map fun bs => .bl (bs.any id)
    | _ => none) := by unfold biV; rw [if_neg (by decide +kernel), if_neg (by decide +kernel), if_neg (by decide +kernel), if_neg (by decide +kernel), if_neg (by decide +kernel), if_pos rfl] <;> rfl
theorem bi_tuple (ds : List D) : biV "tuple" ds = (match ds with
    | [.lst _ xs] => some (.tup xs)
    | [.tup xs] => some (.tup xs)
    | _ => none) := by unfold biV; rw [if_neg (by decide +kernel), if_neg (by decide +kernel), if_neg (by decide +kernel), if_neg (by decide +kernel), if_neg (by decide +kernel), if_neg (by decide +kernel), if_pos rfl] <;> rfl
theorem bi_list (ds : List D) : biV "list" ds = (match ds with
    | [.lst _ xs] => some (.lst true xs)
    | [.tup xs] => some (.lst true xs)
    | _ => none) := by unfold biV; rw [if_neg (by decide +kernel), if_neg (by decide +kernel), if_neg (by decide +kernel), if_neg (by decide +kernel), if_neg (by decide +kernel), if_neg (by decide +kernel), if_neg (by decide +kernel), if_pos rfl] <;> rfl
/-- it has a type that isinstance may be asked of -/
def tyd : D → Bool
  | .scr _ | .obj .. | .dct _ (_ :: _) => false
  | _ => true
def isIntD : D → Bool
  | .int _ | .bl _ => true
  | _ => false
def isBlD : D → Bool
  | .bl _ => true
  | _ => false
def isStrD : D → Bool
  | .str _ => true
  | _ => false
def isTupD : D → Bool
  | .tup _ => true
  | _ => false
def isLstD : D → Bool
  | .lst .. => true
  | _ => false
theorem ii_int {d : D} (h : tyd d = true) : isInst d "int" = some (isIntD d) := by
  cases d with
  | dct o kvs => cases kvs <;> first | (exact Bool.noConfusion h) | (unfold isInst; refine (if_neg Bool.false_ne_true).trans ?_; rw [if_pos rfl] <;> rfl)
  | _ => first | (exact Bool.noConfusion h) | (unfold isInst; refine (if_neg Bool.false_ne_true).trans ?_; rw [if_pos rfl] <;> rfl)
theorem ii_bool {d : D} (h : tyd d = true) : isInst d "bool" = some (isBlD d) := by
  cases d with
  | dct o kvs => cases kvs <;> first | (exact Bool.noConfusion h) | (unfold isInst; refine (if_neg Bool.false_ne_true).trans ?_; rw [if_neg (by decide +kernel), if_pos rfl] <;> rfl)
  | _ => first | (exact Bool.noConfusion h) | (unfold isInst; refine (if_neg Bool.false_ne_true).trans ?_; rw [if_neg (by decide +kernel), if_pos rfl] <;> rfl)
theorem ii_str {d : D} (h : tyd d = true) : isInst d "str" = some (isStrD d) := by
  cases d with
  | dct o kvs => cases kvs <;> first | (exact Bool.noConfusion h) | (unfold isInst; refine (if_neg Bool.false_ne_true).trans ?_; rw [if_neg (by decide +kernel), if_neg (by decide +kernel), if_pos rfl] <;> rfl)
  | _ => first | (exact Bool.noConfusion h) | (unfold isInst; refine (if_neg Bool.false_ne_true).trans ?_; rw [if_neg (by decide +kernel), if_neg (by decide +kernel), if_pos rfl] <;> rfl)
theorem ii_tuple {d : D} (h : tyd d = true) : isInst d "tuple" = some (isTupD d) := by
  cases d with
  | dct o kvs => cases kvs <;> first | (exact Bool.noConfusion h) | (unfold isInst; refine (if_neg Bool.false_ne_true).trans ?_; rw [if_neg (by decide +kernel), if_neg (by decide +kernel), if_neg (by decide +kernel), if_pos rfl] <;> rfl)
  | _ => first | (exact Bool.noConfusion h) | (unfold isInst; refine (if_neg Bool.false_ne_true).trans ?_; rw [if_neg (by decide +kernel), if_neg (by decide +kernel), if_neg (by decide +kernel), if_pos rfl] <;> rfl)
theorem ii_list {d : D} (h : tyd d = true) : isInst d "list" = some (isLstD d) := by
  cases d with
  | dct o kvs => cases kvs <;> first | (exact Bool.noConfusion h) | (unfold isInst; refine (if_neg Bool.false_ne_true).trans ?_; rw [if_neg (by decide +kernel), if_neg (by decide +kernel), if_neg (by decide +kernel), if_neg (by decide +kernel), if_pos rfl] <;> rfl)
  | _ => first | (exact Bool.noConfusion h) | (unfold isInst; refine (if_neg Bool.false_ne_true).trans ?_; rw [if_neg (by decide +kernel), if_neg (by decide +kernel), if_neg (by decide +kernel), if_neg (by decide +kernel), if_pos rfl] <;> rfl)
theorem bi2_max (ds : List D) : biV "max" ds = (match ds with
    | [.lst _ xs] => (intsOf xs).bind fun ns => if ns.isEmpty then none else some (.int (maxI ns))
    | [.int i, .int j] => some (.int (if j > i then j else i))
    | _ => none) := by
  have e : biV "max" ds = biV2 "max" ds := by
    unfold biV; rw [if_neg (by decide +kernel), if_neg (by decide +kernel), if_neg (by decide +kernel), if_neg (by decide +kernel), if_neg (by decide +kernel), if_neg (by decide +kernel), if_neg (by decide +kernel), if_neg (by decide +kernel)]
  rw [e]; unfold biV2; rw [if_pos rfl] <;> rfl
theorem bi2_min (ds : List D) : biV "min" ds = (match ds with
    | [.lst _ xs] => (intsOf xs).bind fun ns => if ns.isEmpty then none else some (.int (minI ns))
    | [.int i, .int j] => some (.int (if j < i then j else i))
    | _ => none) := by
  have e : biV "min" ds = biV2 "min" ds := by
    unfold biV; rw [if_neg (by decide +kernel), if_neg (by decide +kernel), if_neg (by decide +kernel), if_neg (by decide +kernel), if_neg (by decide +kernel), if_neg (by decide +kernel), if_neg (by decide +kernel), if_neg (by decide +kernel)]
  rw [e]; unfold biV2; rw [if_neg (by decide +kernel), if_pos rfl] <;> rfl
theorem bi2_sorted (ds : List D) : biV "sorted" ds = (match ds with
    | [.lst _ xs] => (intsOf xs).map fun ns => .lst true ((sortI ns).map .int)
    | _ => none) := by
  have e : biV "sorted" ds = biV2 "sorted" ds := by
    unfold biV; rw [if_neg (by decide +kernel), if_neg (by decide +kernel), if_neg (by decide +kernel), if_neg (by decide +kernel), if_neg (by decide +kernel), if_neg (by decide +kernel), if_neg (by decide +kernel), if_neg (by decide +kernel)]
  rw [e]; unfold biV2; rw [if_neg (by decide +kernel), if_neg (by decide +kernel), if_pos rfl] <;> rfl
theorem mut_find : isMut "find" = false := by decide +kernel
theorem mut_extend : isMut "extend" = true := by decide +kernel
theorem ty_find (d : D) : tyOk "find" d = isStrD d := by unfold tyOk; rw [mut_find]; cases d <;> rfl
theorem ty_extend (xs : List D) : tyOk "extend" (.lst true xs) = true := by unfold tyOk; rw [mut_extend] <;> rfl
theorem mt_find' (a : Sg) (c : Nat) : mthV "find" (.str a) [.str [c]] = (findS a c).map .int := by
  unfold mthV; rw [if_neg (by decide +kernel), if_pos rfl]
theorem mv_extend (xs ys : List D) (o : Bool) (h : xs.length + ys.length ≤ 16777216) : mutV "extend" (.lst true xs) [.lst o ys] = some (.non, .lst true (xs ++ ys)) := by
  unfold mutV; rw [if_neg (by decide +kernel), if_neg (by decide +kernel), if_pos rfl]; exact if_pos h
theorem bp_mt {xs : List D} {k : Int} (h : xs ≠ [] ∧ 2 ≤ k ∧ k ≤ 1000 ∧ xs.length ≤ 1000) : bop .Mult (.tup xs) (.int k) = some (.tup (List.replicate k.toNat xs).flatten) := if_pos h
theorem mut_join : isMut "join" = false := by decide +kernel
theorem mut_append : isMut "append" = true := by decide +kernel
theorem mut_pop : isMut "pop" = true := by decide +kernel
theorem ty_join (d : D) : tyOk "join" d = isStrD d := by unfold tyOk; rw [mut_join]; cases d <;> rfl
theorem ty_pop (xs : List D) : tyOk "pop" (.lst true xs) = true := by unfold tyOk; rw [mut_pop] <;> rfl
theorem ty_append (xs : List D) : tyOk "append" (.lst true xs) = true := by unfold tyOk; rw [mut_append] <;> rfl
theorem mv_append (xs : List D) (x : D) (h : xs.length < line) : mutV "append" (.lst true xs) [x] = some (.non, .lst true (xs ++ [x])) := by
  unfold mutV; rw [if_pos rfl]; exact if_pos h
theorem mv_pop (xs : List D) : mutV "pop" (.lst true xs) [] = (xs[xs.length - 1]?).map fun y => (y, .lst true xs.dropLast) := by
  unfold mutV; rw [if_neg (by decide +kernel), if_pos rfl]
theorem mv_popi (xs : List D) (i : Int) : mutV "pop" (.lst true xs) [.int i] = if -(2 ^ 63) ≤ i ∧ i < 2 ^ 63 then (ixN xs.length i).bind fun k => (xs[k]?).map fun y => (y, .lst true (xs.eraseIdx k)) else none := by
  unfold mutV; rw [if_neg (by decide +kernel), if_pos rfl]
theorem mt_join (a : Sg) (o : Bool) (xs : List D) : mthV "join" (.str a) [.lst o xs] = (strsOf xs).bind fun ys => if (ys.map List.length).sum + ys.length * a.length ≤ line then some (.str (joinS a ys)) else none := by
  unfold mthV; rw [if_pos rfl]
theorem run_eq {tab : Tab} {fl : String → String → Bool} {sub : Str → Str → Option Bool} {N k : Nat} {f : Str} {d : Def} {ds : List D} (h : tab f = some d) : run tab fl sub N (k + 1) f ds = callD ⟨fl, fun g => (tab g).map Def.modes, run tab fl sub N k⟩ sub N d ds := by
  rw [run, h]
theorem lookup_map {α β : Type} (g : α → β) : ∀ (l : List (Str × α)) (f : Str), (l.lookup f).map g = (l.map fun p => (p.1, g p.2)).lookup f
  | [], f => rfl
  | (x, a) :: l, f => by
    rw [List.map_cons, List.lookup_cons, List.lookup_cons]
    cases f == x
    · exact lookup_map g l f
    · rfl
/-- the defs that a def may call -/
def FFn (tab : Tab) (fl : String → String → Bool) (sub : Str → Str → Option Bool) (N k : Nat) : Fn := ⟨fl, fun g => (tab g).map Def.modes, run tab fl sub N k⟩
theorem ff_run {tab : Tab} {fl : String → String → Bool} {sub : Str → Str → Option Bool} {N k : Nat} {f : Str} : (FFn tab fl sub N k).run f = run tab fl sub N k f := rfl
theorem ff_modes {tab : Tab} {fl : String → String → Bool} {sub : Str → Str → Option Bool} {N k : Nat} {f : Str} : (FFn tab fl sub N k).modes f = (tab f).map Def.modes := rfl
theorem run_u {tab : Tab} {fl : String → String → Bool} {sub : Str → Str → Option Bool} {N k : Nat} {f : Str} {d : Def} {ds : List D} (h : tab f = some d) : run tab fl sub N (k + 1) f ds = callD (FFn tab fl sub N k) sub N d ds := run_eq h
/-! ### loops -/
/-- a comprehension's turns by a word of the state -/
theorem lcL_inv {f : D → Env → Rr (Option D)} {own : List Nat} (P : Env → Prop) (E : D → Prop) : ∀ (xs acc : List D) (ρ : Env), P ρ → acc.length + xs.length ≤ line →
    (∀ x ∈ xs, ∀ ρ, P ρ → ∃ y ρ', f x (wipeE ρ own) = .ok (some y) ρ' ∧ P ρ' ∧ E y) → ∃ ys ρ', lcL f own xs acc ρ = .ok (acc ++ ys) ρ' ∧ P ρ' ∧ ys.length = xs.length ∧ ∀ y ∈ ys, E y
  | [], acc, ρ, hP, _, _ => ⟨[], ρ, by rw [lcL, List.append_nil], hP, rfl, fun _ h => nomatch h⟩
  | x :: xs, acc, ρ, hP, hl, h => by
    obtain ⟨y, ρ1, e1, P1, E1⟩ := h x List.mem_cons_self ρ hP
    rw [List.length_cons] at hl
    obtain ⟨ys, ρ2, e2, P2, l2, E2⟩ := lcL_inv P E xs (acc ++ [y]) ρ1 P1 (by rw [List.length_append, List.length_singleton]; omega) fun x hx => h x (List.mem_cons_of_mem _ hx)
    refine ⟨y :: ys, ρ2, ?_, P2, by rw [List.length_cons, List.length_cons, l2], fun z hz => ?_⟩
    · rw [lcL, e1]
      show (if acc.length < line then lcL f own xs (acc ++ [y]) ρ1 else .stuck) = _
      rw [if_pos (by omega), e2, List.append_assoc]
      rfl
    · rcases List.mem_cons.mp hz with e | e
      · rw [e]; exact E1
      · exact E2 z e
/-- a comprehension that changes nothing: g what it makes of an item -/
theorem lcL_pure {f : D → Env → Rr (Option D)} {own : List Nat} {ρ0 : Env} (g : D → Option D) : ∀ (xs acc : List D) (ρ : Env), wipeE ρ own = ρ0 → acc.length + xs.length ≤ line →
    (∀ x ∈ xs, ∃ ρ', f x ρ0 = .ok (g x) ρ' ∧ wipeE ρ' own = ρ0) → ∃ ρ', lcL f own xs acc ρ = .ok (acc ++ xs.filterMap g) ρ' ∧ wipeE ρ' own = ρ0
  | [], acc, ρ, hP, _, _ => ⟨ρ, by rw [lcL, List.filterMap_nil, List.append_nil], hP⟩
  | x :: xs, acc, ρ, hP, hl, h => by
    obtain ⟨ρ1, e1, P1⟩ := h x List.mem_cons_self
    rw [List.length_cons] at hl
    have h' : ∀ x ∈ xs, ∃ ρ', f x ρ0 = .ok (g x) ρ' ∧ wipeE ρ' own = ρ0 := fun x hx => h x (List.mem_cons_of_mem _ hx)
    rw [lcL, hP, e1]
    cases hg : g x with
    | none =>
      obtain ⟨ρ2, e2, P2⟩ := lcL_pure g xs acc ρ1 P1 (by omega) h'
      refine ⟨ρ2, ?_, P2⟩
      rw [List.filterMap_cons_none hg]
      exact e2
    | some y =>
      obtain ⟨ρ2, e2, P2⟩ := lcL_pure g xs (acc ++ [y]) ρ1 P1 (by rw [List.length_append, List.length_singleton]; omega) h'
      refine ⟨ρ2, ?_, P2⟩
      rw [List.filterMap_cons_some hg]
      show (if acc.length < line then lcL f own xs (acc ++ [y]) ρ1 else .stuck) = _
      rw [if_pos (by omega), e2, List.append_assoc]
      rfl
/-- a for's turns by a word of the state: all of them -/
theorem forL_inv {f : D → Env → Out} (P : Env → Prop) : ∀ (xs : List D) (ρ : Env), P ρ → (∀ x ∈ xs, ∀ ρ, P ρ → ∃ ρ', (f x ρ = .nx ρ' ∨ f x ρ = .ct ρ') ∧ P ρ') → ∃ ρ', forL f xs ρ = .nx ρ' ∧ P ρ'
  | [], ρ, hP, _ => ⟨ρ, by rw [forL], hP⟩
  | x :: xs, ρ, hP, h => by
    obtain ⟨ρ1, e1, P1⟩ := h x List.mem_cons_self ρ hP
    obtain ⟨ρ2, e2, P2⟩ := forL_inv P xs ρ1 P1 fun x hx => h x (List.mem_cons_of_mem _ hx)
    refine ⟨ρ2, ?_, P2⟩
    rw [forL]
    rcases e1 with e1 | e1 <;> rw [e1] <;> exact e2
/-- a for that may leave at the first item that p takes -/
theorem forL_find {f : D → Env → Out} {ρ0 : Env} {r : D} (p : D → Bool) (same : Env → Prop) (h0 : same ρ0) : ∀ (xs : List D) (ρ : Env), same ρ → (∀ x ∈ xs, ∀ ρ, same ρ → if p x then ∃ ρ', f x ρ = .rt r ρ' ∧ same ρ' else ∃ ρ', f x ρ = .nx ρ' ∧ same ρ') →
    if xs.any p then ∃ ρ', forL f xs ρ = .rt r ρ' ∧ same ρ' else ∃ ρ', forL f xs ρ = .nx ρ' ∧ same ρ'
  | [], ρ, hP, _ => ⟨ρ, by rw [forL], hP⟩
  | x :: xs, ρ, hP, h => by
    have hx := h x List.mem_cons_self ρ hP
    cases hp : p x with
    | true =>
      rw [hp] at hx
      obtain ⟨ρ1, e1, P1⟩ := hx
      rw [List.any_cons, hp, Bool.true_or, if_pos rfl, forL, e1]
      exact ⟨ρ1, rfl, P1⟩
    | false =>
      rw [hp] at hx
      obtain ⟨ρ1, e1, P1⟩ := hx
      rw [List.any_cons, hp, Bool.false_or, forL, e1]
      exact forL_find p same h0 xs ρ1 P1 fun x hx => h x (List.mem_cons_of_mem _ hx)
/-! ### the evaluator's steps, shape by shape -/
section
variable {α β : Type} {ρ ρ' : Env} {F : Fn} {sub : Str → Str → Option Bool} {N : Nat}
theorem b_ok {a : α} {f : α → Env → Rr β} : (Rr.ok a ρ).bind f = f a ρ := rfl
theorem b_exc {x : Exc} {f : α → Env → Rr β} : (Rr.exc x ρ).bind f = .exc x ρ := rfl
theorem o_ok {a : α} {f : α → Env → Out} : (Rr.ok a ρ).out f = f a ρ := rfl
theorem o_exc {x : Exc} {f : α → Env → Out} : (Rr.exc x ρ).out f = .exc x ρ := rfl
theorem th_nx {f : Env → Out} : (Out.nx ρ).then f = f ρ := rfl
theorem th_rt {d : D} {f : Env → Out} : (Out.rt d ρ).then f = .rt d ρ := rfl
theorem th_bk {f : Env → Out} : (Out.bk ρ).then f = .bk ρ := rfl
theorem th_ct {f : Env → Out} : (Out.ct ρ).then f = .ct ρ := rfl
theorem th_exc {x : Exc} {f : Env → Out} : (Out.exc x ρ).then f = .exc x ρ := rfl
theorem c_fz {d : D} : con ρ (.fz d) = some d := rfl
theorem c_ow {d : D} : con ρ (.ow d) = some d := rfl
theorem c_pt {i : Nat} {p : List Stp} : con ρ (.pt i p) = getP ρ i p := rfl
theorem al_fz {d : D} : alias_ ρ (.fz d) = some (.fz d, ρ) := rfl
theorem al_ow {d : D} : alias_ ρ (.ow d) = some (.ow d, ρ) := rfl
theorem v_fz {d : D} : (Opd.fz d).val = d := rfl
theorem v_ow {d : D} : (Opd.ow d).val = d := rfl
theorem z_fz {d : D} : (Opd.fz d).isFz = true := rfl
theorem z_ow {d : D} : (Opd.ow d).isFz = false := rfl
theorem k_fz {d : D} {e : Ex} : okPt (.fz d) e = true := rfl
theorem k_ow {d : D} {e : Ex} : okPt (.ow d) e = true := rfl
theorem k_pt0 {i : Nat} {e : Ex} : okPt (.pt i []) e = true := rfl
theorem k_pt {i : Nat} {s : Stp} {p : List Stp} {e : Ex} : okPt (.pt i (s :: p)) e = pureE e := rfl
theorem ko_fz {d : D} {e : Option Ex} : okPtO (.fz d) e = true := rfl
theorem ko_ow {d : D} {e : Option Ex} : okPtO (.ow d) e = true := rfl
theorem ko_pt0 {i : Nat} {e : Option Ex} : okPtO (.pt i []) e = true := rfl
theorem ko_pt {i : Nat} {s : Stp} {p : List Stp} {e : Option Ex} : okPtO (.pt i (s :: p)) e = pureO e := rfl
theorem n_fz {d : D} : (Opd.fz d).noPlB = true := rfl
theorem n_ow {d : D} : (Opd.ow d).noPlB = true := rfl
theorem n_pt0 {i : Nat} : (Opd.pt i []).noPlB = true := rfl
theorem n_pt {i : Nat} {s : Stp} {p : List Stp} : (Opd.pt i (s :: p)).noPlB = false := rfl
theorem p_un : Slot.un.pin = false := rfl
theorem p_fz {d : D} : (Slot.fz d).pin = false := rfl
theorem p_ow {d : D} : (Slot.ow d).pin = false := rfl
theorem sc_fz {d : D} : (Slot.fz d).con = some d := rfl
theorem sc_ow {d : D} : (Slot.ow d).con = some d := rfl
theorem sc_bw {d : D} : (Slot.bw d).con = some d := rfl
theorem sc_mw {d : D} : (Slot.mw d).con = some d := rfl
theorem p_bw {d : D} : (Slot.bw d).pin = true := rfl
theorem p_mw {d : D} : (Slot.mw d).pin = true := rfl
theorem z_pt {i : Nat} {p : List Stp} : (Opd.pt i p).isFz = false := rfl
theorem calm_ok {a : α} : (Rr.ok a ρ).calm = .ok a ρ := rfl
theorem al_pt0 {i : Nat} : alias_ ρ (.pt i []) = (match ρ[i]? with
      | some (.ow d) => some (.fz (freeze d), ρ.set i (.fz (freeze d)))
      | _ => none) := rfl
theorem pd_tup {xs : List D} : opd (.tup xs) = if isFrL xs then .fz (.tup xs) else .ow (.tup xs) := rfl
theorem so_tup {b : Bool} {xs : List D} : slotOf b (.tup xs) = if b || isFrL xs then .fz (.tup xs) else .ow (.tup xs) := rfl
theorem cm_isb {a b : Bool} : cmpV .is (.bl a) (.bl b) = some (decide (a = b)) := by simp [cmpV, Bool.beq_eq_decide_eq]
theorem cm_isnb {a b : Bool} : cmpV .isnot (.bl a) (.bl b) = some (!decide (a = b)) := by simp [cmpV, Bool.beq_eq_decide_eq]
theorem cm_isn {a : D} : cmpV .is a .non = some (match a with | .non => true | _ => false) := by cases a <;> rfl
theorem cm_isnn {a : D} : cmpV .isnot a .non = some (match a with | .non => false | _ => true) := by cases a <;> rfl
theorem eo_bb {x y : Bool} : eqOk (.bl x) (.bl y) = true := rfl
theorem ed_bb {x y : Bool} : eqD (.bl x) (.bl y) = decide (x = y) := by simp [eqD, Bool.beq_eq_decide_eq]
theorem bp_at {xs ys : List D} (h : xs.length + ys.length ≤ line) : bop .Add (.tup xs) (.tup ys) = some (.tup (xs ++ ys)) := if_pos h
/-- a length that is small -/
theorem line_le {n : Nat} (h : n ≤ 16777216) : n ≤ line := h
theorem line_s {n : Nat} : n ≤ line ↔ n ≤ 16777216 := .rfl
theorem line_t {n : Nat} : n < line ↔ n < 16777216 := .rfl
theorem as_nm {i : Nat} {b : Bool} {d : D} : asgT (.nm i) b d ρ = (match ρ[i]? with
    | some s => if s.pin then none else some (ρ.set i (slotOf b d))
    | none => none) := by rw [asgT] <;> rfl
theorem as_tp {ts : List Tg} {b : Bool} {xs : List D} : asgT (.tp ts) b (.tup xs) ρ = asgTs ts b xs ρ := by rw [asgT] <;> rfl
theorem as_0 {b : Bool} : asgTs [] b [] ρ = some ρ := by rw [asgTs] <;> rfl
theorem as_1 {t : Tg} {ts : List Tg} {b : Bool} {x : D} {xs : List D} : asgTs (t :: ts) b (x :: xs) ρ = (match asgT t b x ρ with
    | some ρ' => asgTs ts b xs ρ'
    | none => none) := by rw [asgTs] <;> rfl
theorem s_fz {d : D} {x : D} : shr (.fz d) x = true := rfl
theorem s_ow {d : D} {x : D} : shr (.ow d) x = sub1 x := rfl
theorem s_pt {i : Nat} {p : List Stp} {x : D} : shr (.pt i p) x = sub1 x := rfl
theorem pd_non : opd .non = .fz .non := rfl
theorem pd_bl {b : Bool} : opd (.bl b) = .fz (.bl b) := rfl
theorem pd_int {b : Int} : opd (.int b) = .fz (.int b) := rfl
theorem pd_str {b : Sg} : opd (.str b) = .fz (.str b) := rfl
theorem pd_lst {xs : List D} : opd (.lst true xs) = .ow (.lst true xs) := rfl
theorem pd_fr {d : D} (h : isFr d = true) : opd d = .fz d := if_pos h
theorem so_t {d : D} : slotOf true d = .fz d := rfl
theorem so_non {b : Bool} : slotOf b .non = .fz .non := by cases b <;> rfl
theorem so_bl {b c : Bool} : slotOf b (.bl c) = .fz (.bl c) := by cases b <;> rfl
theorem so_int {b : Bool} {c : Int} : slotOf b (.int c) = .fz (.int c) := by cases b <;> rfl
theorem so_str {b : Bool} {c : Sg} : slotOf b (.str c) = .fz (.str c) := by cases b <;> rfl
theorem so_lst {xs : List D} : slotOf false (.lst true xs) = .ow (.lst true xs) := rfl
theorem so_fr {b : Bool} {d : D} (h : isFr d = true) : slotOf b d = .fz d := by unfold slotOf; rw [h, Bool.or_true, if_pos rfl]
theorem tr_bl {b : Bool} : tru (.bl b) = some b := rfl
theorem tr_non : tru .non = some false := rfl
theorem tr_int {i : Int} : tru (.int i) = some (!decide (i = 0)) := by simp [tru, bne, Bool.beq_eq_decide_eq]
theorem f_nx {ms : List Mode} : finish ms (.nx ρ) = (match musOf ms ρ with | some mus => .rt .non mus | none => .stuck) := rfl
theorem f_rt {ms : List Mode} {d : D} : finish ms (.rt d ρ) = (match musOf ms ρ with | some mus => .rt d mus | none => .stuck) := rfl
theorem f_exc {ms : List Mode} {d : Exc} : finish ms (.exc d ρ) = (match musOf ms ρ with | some mus => .exc d mus | none => .stuck) := rfl
theorem ad_pt {m : Mode} {i : Nat} {p : List Stp} : argD ρ m (.pt i p) = getP ρ i p := by cases m <;> rfl
theorem ad_fz {d : D} : argD ρ .al (.fz d) = some d := rfl
theorem ad_ow {d : D} : argD ρ .al (.ow d) = some (freeze d) := rfl
theorem ad_bfz {d : D} : argD ρ .bw (.fz d) = some d := rfl
theorem ad_bow {d : D} : argD ρ .bw (.ow d) = some (freeze d) := rfl
theorem cm_eq {a b : D} : cmpV .eq a b = if eqOk a b then some (eqD a b) else none := rfl
theorem cm_ne {a b : D} : cmpV .ne a b = if eqOk a b then some (!eqD a b) else none := rfl
theorem cm_lt {a b : Int} : cmpV .lt (.int a) (.int b) = some (decide (a < b)) := rfl
theorem cm_le {a b : Int} : cmpV .le (.int a) (.int b) = some (decide (a ≤ b)) := rfl
theorem cm_gt {a b : Int} : cmpV .gt (.int a) (.int b) = some (decide (b < a)) := rfl
theorem cm_ge {a b : Int} : cmpV .ge (.int a) (.int b) = some (decide (b ≤ a)) := rfl
theorem cm_in {a b : D} : cmpV .isin a b = isIn a b := rfl
theorem cm_ni {a b : D} : cmpV .notin a b = (isIn a b).map (!·) := rfl
theorem is_in {c : Nat} {z : Sg} : isIn (.str [c]) (.str z) = some (decide (c ∈ z)) := rfl
theorem eo_ss {x y : Sg} : eqOk (.str x) (.str y) = true := rfl
theorem eo_ii {x y : Int} : eqOk (.int x) (.int y) = true := rfl
theorem ed_ss {x y : Sg} : eqD (.str x) (.str y) = decide (x = y) := by simp [eqD, Bool.beq_eq_decide_eq]
theorem ed_ii {x y : Int} : eqD (.int x) (.int y) = decide (x = y) := by simp [eqD, Bool.beq_eq_decide_eq]
theorem bp_ai {i j : Int} : bop .Add (.int i) (.int j) = some (.int (i + j)) := rfl
theorem bp_si {i j : Int} : bop .Sub (.int i) (.int j) = some (.int (i - j)) := rfl
theorem bp_mi {i j : Int} (h : (small i || small j) = true) : bop .Mult (.int i) (.int j) = some (.int (i * j)) := if_pos h
theorem bp_fi {i j : Int} (h : 0 < j ∧ j < 1073741824) : bop .FloorDiv (.int i) (.int j) = some (.int (i / j)) := if_pos h
theorem bp_ri {i j : Int} (h : 0 < j) : bop .Mod (.int i) (.int j) = some (.int (i % j)) := if_pos h
theorem bp_pi {i j : Int} (h : 0 ≤ j ∧ j ≤ 1000 ∧ small i = true) : bop .Pow (.int i) (.int j) = some (.int (i ^ j.toNat)) := if_pos h
theorem bp_as {x y : Sg} (h : x.length + y.length ≤ line) : bop .Add (.str x) (.str y) = some (.str (x ++ y)) := if_pos h
theorem bp_ms {x : Sg} {k : Int} (h : x.length * k.toNat ≤ line ∧ k < 1000000 ∧ -1000000 < k) : bop .Mult (.str x) (.int k) = some (.str (List.replicate k.toNat x).flatten) := if_pos h
theorem bp_al {o o' : Bool} {xs ys : List D} (h : xs.length + ys.length ≤ line) : bop .Add (.lst o xs) (.lst o' ys) = some (.lst true (xs ++ ys)) := if_pos h
theorem ln_str {x : Sg} (h : x.length ≤ line) : lenV (.str x) = some (x.length : Int) := if_pos h
theorem ln_tup {xs : List D} : lenV (.tup xs) = some (xs.length : Int) := rfl
theorem ln_lst {o : Bool} {xs : List D} : lenV (.lst o xs) = some (xs.length : Int) := rfl
theorem iv_lst {o : Bool} {xs : List D} {i : Int} : ixVal (.lst o xs) (.int i) = (ixN xs.length i).bind fun j => xs[j]? := rfl
theorem iv_tup {xs : List D} {i : Int} : ixVal (.tup xs) (.int i) = (ixN xs.length i).bind fun j => xs[j]? := rfl
theorem iv_str {x : Sg} {i : Int} (h : x.length ≤ line) : ixVal (.str x) (.int i) = ((ixN x.length i).bind fun j => x[j]?).map fun c => .str [c] := if_pos h
theorem is_lst {o : Bool} {xs : List D} {i : Int} : ixStp (.lst o xs) (.int i) = (ixN xs.length i).map Stp.ix := rfl
theorem ixN_nat {n j : Nat} : ixN n (j : Int) = if j < n then some j else none := by
  unfold ixN
  rw [if_pos (by omega)]
  by_cases h : j < n
  · rw [if_pos (by omega), if_pos h]; simp
  · rw [if_neg (by omega), if_neg h]
theorem ixN_0 {n : Nat} : ixN (n + 1) 0 = some 0 := by
  have := ixN_nat (n := n + 1) (j := 0)
  simpa using this
theorem sl_str {x : Sg} {lo hi : Option Int} (h : x.length ≤ line) : slice (.str x) lo hi = some (.str (cut x lo hi)) := if_pos h
theorem sl_lst {o : Bool} {xs : List D} {lo hi : Option Int} : slice (.lst o xs) lo hi = some (.lst true (cut xs lo hi)) := rfl
theorem sl_tup {xs : List D} {lo hi : Option Int} : slice (.tup xs) lo hi = some (.tup (cut xs lo hi)) := rfl
theorem sl_scr {xs : List Int} {lo hi : Option Int} : slice (.scr xs) lo hi = some (.lst true ((cut xs lo hi).map .int)) := rfl
theorem it_str {x : Sg} : items (.str x) = some (x.map fun c => .str [c]) := rfl
theorem it_lst {o : Bool} {xs : List D} : items (.lst o xs) = some xs := rfl
theorem it_tup {xs : List D} : items (.tup xs) = some xs := rfl
theorem ipt_fz {d : D} : isPt (.fz d) = none := rfl
theorem ipt_ow {d : D} : isPt (.ow d) = none := rfl
theorem ipt_pt {i : Nat} {p : List Stp} : isPt (.pt i p) = some i := rfl
theorem lk_n : lock ρ none = ρ := rfl
theorem ul_n : unlock ρ' none ρ = some ρ := rfl
theorem st_str {x : Sg} : isStr (.str x) = true := rfl
theorem st_lst {o : Bool} {xs : List D} : isStr (.lst o xs) = false := rfl
theorem st_tup {xs : List D} : isStr (.tup xs) = false := rfl
theorem u1_lst {o : Bool} {xs : List D} : sub1 (.lst o xs) = isFrL xs := rfl
theorem u1_tup {xs : List D} : sub1 (.tup xs) = isFrL xs := rfl
theorem u1_str {x : Sg} : sub1 (.str x) = true := rfl
theorem fl_int {i : Int} : flat (.int i) = true := rfl
theorem fl_bl {i : Bool} : flat (.bl i) = true := rfl
theorem fl_str {i : Sg} : flat (.str i) = true := rfl
theorem uo_nx : unlockO ρ' none (.nx ρ) = .nx ρ := rfl
theorem uo_rt {d : D} : unlockO ρ' none (.rt d ρ) = .rt d ρ := rfl
theorem uo_exc {d : Exc} : unlockO ρ' none (.exc d ρ) = .exc d ρ := rfl
theorem oo_s {a : α} : ofOpt ρ (some a) = .ok a ρ := rfl
theorem cr_0 {ms : List Mode} {os : List Opd} {m : List D → FRes} {ds : List D} {d : D} (h1 : argV ρ ms os = some ds) (h2 : muPl ms os = []) (h3 : m ds = .rt d []) : callR ρ ms os m = .ok (opd d) ρ := by
  unfold callR; rw [h1]; dsimp only; rw [h2]; dsimp only; rw [h3]
/-- a for's turn -/
def frB (F : Fn) (sub : Str → Str → Option Bool) (N : Nat) (ks : List Bool) (t : Tg) (bz : Bool) (b : List St) (x : D) (ρ : Env) : Out := match asgT t bz x ρ with
  | some ρ' => (evSs F sub N b ρ').mp ks
  | none => .stuck
/-- a comprehension's turn -/
def lcB (F : Fn) (t : Tg) (bz : Bool) (c : Option Ex) (e : Ex) (x : D) (ρ : Env) : Rr (Option D) := lcT t bz (fun ρ => evC F c ρ) (fun ρ => evE F e ρ) x ρ
def whC (F : Fn) (c : Ex) (ρ : Env) : Rr Bool := tst (evE F c ρ)
def whB (F : Fn) (sub : Str → Str → Option Bool) (N : Nat) (ks : List Bool) (b : List St) (ρ : Env) : Out := (evSs F sub N b ρ).mp ks
theorem fr_ap {ks : List Bool} {t : Tg} {bz : Bool} {b : List St} {x : D} : frB F sub N ks t bz b x ρ = (match asgT t bz x ρ with
  | some ρ' => (evSs F sub N b ρ').mp ks
  | none => .stuck) := rfl
theorem lc_ap {t : Tg} {bz : Bool} {c : Option Ex} {e : Ex} {x : D} : lcB F t bz c e x ρ = (match asgT t bz x ρ with
  | none => .stuck
  | some ρ' => (evC F c ρ').bind fun b ρ2 => if b then (evE F e ρ2).bind fun o ρ3 => (match alias_ ρ3 o with
    | some (o', ρ4) => .ok (some o'.val) ρ4
    | none => .stuck) else .ok none ρ2) := rfl
theorem wc_ap {c : Ex} : whC F c ρ = tst (evE F c ρ) := rfl
theorem wb_ap {ks : List Bool} {b : List St} : whB F sub N ks b ρ = (evSs F sub N b ρ).mp ks := rfl
theorem e_asg {t : Tg} {e : Ex} : evS F sub N (.asg t e) ρ = (evE F e ρ).out fun o ρ1 => match alias_ ρ1 o with
    | some (o', ρ2) => (match asgT t o'.isFz o'.val ρ2 with | some ρ3 => .nx ρ3 | none => .stuck)
    | none => .stuck := by rw [evS] <;> rfl
theorem e_sub {a i e : Ex} : evS F sub N (.sub a i e) ρ = (evE F e ρ).out fun o ρ1 => match alias_ ρ1 o with
    | some (o', ρ2) => (evE F a ρ2).out fun x ρ3 => (evE F i ρ3).out fun y ρ4 => (match x, con ρ4 x, con ρ4 y with
      | .pt j p, some (.dct true kvs), some k => if okPt x i && y.isFz then (match dPut kvs k (freeze o'.val) with
        | some kvs' => (match setP ρ4 j p (.dct true kvs') with
          | some ρ5 => .nx ρ5
          | none => .stuck)
        | none => .stuck) else .stuck
      | .pt j p, some d, some k => if okPt x i then (match ixStp d k with
        | some st => (match setP ρ4 j (p ++ [st]) o'.val with
          | some ρ5 => .nx ρ5
          | none => .stuck)
        | none => .stuck) else .stuck
      | _, _, _ => .stuck)
    | none => .stuck := by rw [evS] <;> rfl
theorem e_ret {e : Ex} : evS F sub N (.ret e) ρ = (evE F e ρ).out fun o ρ1 => match alias_ ρ1 o with
    | some (o', ρ2) => .rt o'.val ρ2
    | none => .stuck := by rw [evS] <;> rfl
theorem e_retN : evS F sub N .retN ρ = .rt .non ρ := by rw [evS]
theorem e_ifs {c : Ex} {a b : List St} : evS F sub N (.ifs c a b) ρ = (tst (evE F c ρ)).out fun t ρ1 => if t then evSs F sub N a ρ1 else evSs F sub N b ρ1 := by rw [evS]
theorem e_whl {ks : List Bool} {c : Ex} {b : List St} : evS F sub N (.whl ks c b) ρ = whlL (whC F c) (whB F sub N ks b) N (killE ks ρ) := by rw [evS] <;> rfl
theorem e_fr {ks : List Bool} {t : Tg} {it : It} {b : List St} : evS F sub N (.fr ks t it b) ρ = (evI F it ρ).out fun x ρ1 => unlockO ρ1 x.2.2 (forL (frB F sub N ks t x.2.1 b) x.1 (killE ks (lock ρ1 x.2.2))) := by rw [evS] <;> rfl
theorem e_ex {e : Ex} : evS F sub N (.ex e) ρ = (evE F e ρ).out fun _ ρ1 => .nx ρ1 := by rw [evS]
theorem e_rse {c : Str} : evS F sub N (.rse c) ρ = .exc ⟨c, []⟩ ρ := by rw [evS]
theorem e_try {b : List St} {hs : List (Str × Nat × D)} : evS F sub N (.tryx b hs) ρ = (match evSs F sub N b ρ with
    | .exc x ρ1 => (match pick sub x.cls hs with
      | some (some (i, d)) => (match asgT (.nm i) true d ρ1 with | some ρ2 => .nx ρ2 | none => .stuck)
      | some none => .exc x ρ1
      | none => .stuck)
    | o => o) := by rw [evS] <;> rfl
theorem e_brk : evS F sub N .brk ρ = .bk ρ := by rw [evS]
theorem e_cont : evS F sub N .cont ρ = .ct ρ := by rw [evS]
theorem e_pass : evS F sub N .pass ρ = .nx ρ := by rw [evS]
theorem e_lc {own : List Nat} {t : Tg} {it : It} {c : Option Ex} {e : Ex} : evE F (.lc own t it c e) ρ = (evI F it ρ).bind fun x ρ1 =>
    (lcL (lcB F t x.2.1 c e) own x.1 [] (lock ρ1 x.2.2)).calm.bind fun ys ρ2 =>
    match (backE ρ1 ρ2 own).bind (unlock ρ1 x.2.2) with
    | some ρ3 => .ok (.ow (.lst true ys)) ρ3
    | none => .stuck := by rw [evE] <;> rfl
theorem x_var {i : Nat} : evE F (.var i) ρ = (match ρ[i]? with
    | some (.fz d) => .ok (.fz d) ρ
    | some (.ow _) => .ok (.pt i []) ρ
    | some (.bw _) => .ok (.pt i []) ρ
    | some (.mw _) => .ok (.pt i []) ρ
    | _ => .stuck) := by rw [evE] <;> rfl
theorem x_mv {i : Nat} : evE F (.mv i) ρ = (match ρ[i]? with
    | some (.fz d) => .ok (.fz d) ρ
    | some (.ow d) => .ok (.ow d) (ρ.set i .un)
    | _ => .stuck) := by rw [evE] <;> rfl
theorem x_lit {d : D} : evE F (.lit d) ρ = .ok (.fz d) ρ := by rw [evE]
theorem x_dctN : evE F .dctN ρ = .ok (.ow (.dct true [])) ρ := by rw [evE]
theorem x_dget {a i : Ex} : evE F (.dget a i) ρ = (evE F a ρ).bind fun x ρ1 => match con ρ1 x with
    | some (.dct _ _) => (evE F i ρ1).bind fun y ρ2 => (match con ρ2 x, con ρ2 y with
      | some (.dct _ kvs), some k => if okPt x i then (match dGet kvs k with
        | some r => .ok (.fz (r.getD .non)) ρ2
        | none => .stuck) else .stuck
      | _, _ => .stuck)
    | _ => .stuck := by rw [evE] <;> rfl
theorem i_enm {e : Ex} : evI F (.enm e) ρ = (evE F e ρ).bind fun o ρ1 => match con ρ1 o with
    | some (.lst b xs) => if shr o (.lst b xs) then .ok (enumF 0 xs, o.isFz, isPt o) ρ1 else .stuck
    | _ => .stuck := by rw [evI] <;> rfl
theorem x_fld {a : Ex} {f : String} : evE F (.fld a f) ρ = (evE F a ρ).bind fun x ρ1 => match con ρ1 x with
    | some (.obj _ c fs) => if F.flds c f then (match fs.lookup f with
      | some e => (match x with
        | .fz _ => .ok (.fz e) ρ1
        | .ow _ => if isFr e then .ok (.fz e) ρ1 else .stuck
        | .pt j p => if isFr e then .ok (.fz e) ρ1 else .ok (.pt j (p ++ [.fld f])) ρ1)
      | none => .stuck) else .stuck
    | _ => .stuck := by rw [evE] <;> rfl
theorem x_mk {c : String} {g : Str} {es : List Ex} : evE F (.mk c g es) ρ = (evEs F es ρ).bind fun os ρ1 => match F.modes g with
    | some (.mu :: ms) => (match if okPts os es then alPass ρ1 ms os else none with
      | none => .stuck
      | some (os', ρ2) => ((callR (ρ2 ++ [.ow (.obj true c [])]) (.mu :: ms) (.pt ρ2.length [] :: os') (F.run g)).bind fun o ρ3 => match o, ρ3[ρ2.length]? with
        | .fz .non, some (.ow e) => .ok (opd e) (ρ3.take ρ2.length)
        | _, _ => .stuck).cutX ρ2.length)
    | _ => .stuck := by rw [evE] <;> rfl
theorem x_mcall {m : String} {gs : List (String × Str)} {a : Ex} {es : List Ex} : evE F (.mcall m gs a es) ρ = (evE F a ρ).bind fun x ρ1 => match con ρ1 x with
    | some (.obj _ c fs) => (match gs.lookup c, fs.lookup m with
      | some g, none => (match F.modes g with
        | none => .stuck
        | some ms => (evEs F es ρ1).bind fun os ρ2 => match if okPts (x :: os) (a :: es) then alPass ρ2 ms (x :: os) else none with
          | none => .stuck
          | some (os', ρ3) => callR ρ3 ms os' (F.run g))
      | _, _ => .stuck)
    | _ => .stuck := by rw [evE] <;> rfl
theorem e_sfld {a e : Ex} {f : String} : evS F sub N (.sfld a f e) ρ = (evE F e ρ).out fun o ρ1 => match alias_ ρ1 o with
    | some (o', ρ2) => (evE F a ρ2).out fun x ρ3 => (match x, con ρ3 x with
      | .pt j p, some (.obj true c fs) => if F.flds c f && decide (fs.length < 1000) then (match setP ρ3 j p (.obj true c (putF f o'.val fs)) with
        | some ρ4 => .nx ρ4
        | none => .stuck) else .stuck
      | _, _ => .stuck)
    | none => .stuck := by rw [evS] <;> rfl
theorem e_aug {i : Nat} {e : Ex} : evS F sub N (.aug i e) ρ = (match ρ[i]? with
    | some (.fz d) => (evE F e ρ).out fun o ρ1 => (match o with
      | .fz w => (match addV d w with
        | some z => (match asgT (.nm i) true z ρ1 with
          | some ρ2 => .nx ρ2
          | none => .stuck)
        | none => .stuck)
      | _ => .stuck)
    | _ => .stuck) := by rw [evS] <;> rfl
theorem av_int {i j : Int} : addV (.int i) (.int j) = some (.int (i + j)) := rfl
theorem av_str {x y : Sg} (h : x.length + y.length ≤ 16777216) : addV (.str x) (.str y) = some (.str (x ++ y)) := if_pos h
theorem iv_dct {o : Bool} {kvs : List (D × D)} {k : D} : ixVal (.dct o kvs) k = (dGet kvs k).bind id := by cases k <;> rfl
theorem in_dct {o : Bool} {kvs : List (D × D)} {k : D} : isIn k (.dct o kvs) = (dGet kvs k).map Option.isSome := by unfold isIn; rfl
theorem ff_flds {tab : Tab} {fl : String → String → Bool} {sub : Str → Str → Option Bool} {N k : Nat} : (FFn tab fl sub N k).flds = fl := rfl
theorem pd_obj {c : String} {fs : List (String × D)} : opd (.obj true c fs) = .ow (.obj true c fs) := rfl
theorem so_obj {c : String} {fs : List (String × D)} : slotOf false (.obj true c fs) = .ow (.obj true c fs) := rfl
theorem pd_dct {kvs : List (D × D)} : opd (.dct true kvs) = .ow (.dct true kvs) := rfl
theorem so_dct {kvs : List (D × D)} : slotOf false (.dct true kvs) = .ow (.dct true kvs) := rfl
theorem cx_ok {a : α} {n : Nat} : (Rr.ok a ρ).cutX n = .ok a ρ := rfl
theorem cx_exc {x : Exc} {n : Nat} : (Rr.exc (α := α) x ρ).cutX n = .exc x (ρ.take n) := rfl
theorem x_dct0 : evE F .dct0 ρ = .ok (.fz (.dct false [])) ρ := by rw [evE]
theorem x_bop {op : Operator} {a b : Ex} : evE F (.bop op a b) ρ = (evE F a ρ).bind fun x ρ1 => (evE F b ρ1).bind fun y ρ2 =>
    match con ρ2 x, con ρ2 y with
    | some d, some e => if okPt x b && (shr x d && shr y e) then ofOpt ρ2 ((bop op d e).map opd) else .stuck
    | _, _ => .stuck := by rw [evE] <;> rfl
theorem x_neg {a : Ex} : evE F (.neg a) ρ = (evE F a ρ).bind fun x ρ1 => match x with
    | .fz (.int i) => .ok (.fz (.int (-i))) ρ1
    | _ => .stuck := by rw [evE] <;> rfl
theorem x_cmp {op : Cop} {a b : Ex} : evE F (.cmp op a b) ρ = (evE F a ρ).bind fun x ρ1 => (evE F b ρ1).bind fun y ρ2 =>
    match con ρ2 x, con ρ2 y with
    | some d, some e => if okPt x b then ofOpt ρ2 ((cmpV op d e).map fun c => .fz (.bl c)) else .stuck
    | _, _ => .stuck := by rw [evE] <;> rfl
theorem x_cmp2 {op op' : Cop} {a b c : Ex} : evE F (.cmp2 op op' a b c) ρ = (evE F a ρ).bind fun x ρ1 => (evE F b ρ1).bind fun y ρ2 =>
    match con ρ2 x, con ρ2 y with
    | some d, some e => if okPt x b && okPt y c then (match cmpV op d e with
      | some true => (evE F c ρ2).bind fun z ρ3 => (match con ρ3 y, con ρ3 z with
        | some e', some g => ofOpt ρ3 ((cmpV op' e' g).map fun k => .fz (.bl k))
        | _, _ => .stuck)
      | some false => .ok (.fz (.bl false)) ρ2
      | none => .stuck) else .stuck
    | _, _ => .stuck := by rw [evE] <;> rfl
theorem x_band {a b : Ex} : evE F (.band a b) ρ = (evE F a ρ).bind fun x ρ1 => match (con ρ1 x).bind tru with
    | some true => evE F b ρ1
    | some false => .ok x ρ1
    | none => .stuck := by rw [evE] <;> rfl
theorem x_bor {a b : Ex} : evE F (.bor a b) ρ = (evE F a ρ).bind fun x ρ1 => match (con ρ1 x).bind tru with
    | some true => .ok x ρ1
    | some false => evE F b ρ1
    | none => .stuck := by rw [evE] <;> rfl
theorem x_bnot {a : Ex} : evE F (.bnot a) ρ = (evE F a ρ).bind fun x ρ1 => match (con ρ1 x).bind tru with
    | some c => .ok (.fz (.bl (!c))) ρ1
    | none => .stuck := by rw [evE] <;> rfl
theorem x_ife {c a b : Ex} : evE F (.ife c a b) ρ = (tst (evE F c ρ)).bind fun t ρ1 => if t then evE F a ρ1 else evE F b ρ1 := by rw [evE]
theorem x_tup {es : List Ex} : evE F (.tup es) ρ = (evEs F es ρ).bind fun os ρ1 => match if okPts os es then aliases ρ1 os else none with
    | some (ds, b, ρ2) => if ds.length ≤ line then .ok (if b then .fz (.tup ds) else .ow (.tup ds)) ρ2 else .stuck
    | none => .stuck := by rw [evE] <;> rfl
theorem x_lst {es : List Ex} : evE F (.lst es) ρ = (evEs F es ρ).bind fun os ρ1 => match if okPts os es then aliases ρ1 os else none with
    | some (ds, _, ρ2) => if ds.length ≤ line then .ok (.ow (.lst true ds)) ρ2 else .stuck
    | none => .stuck := by rw [evE] <;> rfl
theorem x_sub {a i : Ex} : evE F (.sub a i) ρ = (evE F a ρ).bind fun x ρ1 => (evE F i ρ1).bind fun y ρ2 =>
    match con ρ2 x, con ρ2 y with
    | some d, some k => if okPt x i then (match ixVal d k with
      | some e => (match x with
        | .fz _ => .ok (.fz e) ρ2
        | .ow _ => if isFr e then .ok (.fz e) ρ2 else .stuck
        | .pt j p => if isFr e then .ok (.fz e) ρ2 else (match ixStp d k with
          | some st => .ok (.pt j (p ++ [st])) ρ2
          | none => .stuck))
      | none => .stuck) else .stuck
    | _, _ => .stuck := by rw [evE] <;> rfl
theorem x_slc {a : Ex} {lo hi : Option Ex} : evE F (.slc a lo hi) ρ = (evE F a ρ).bind fun x ρ1 => (evO F lo ρ1).bind fun l ρ2 => (evO F hi ρ2).bind fun h ρ3 =>
    match con ρ3 x with
    | some d => if okPtO x lo && (okPtO x hi && shr x d) then ofOpt ρ3 ((slice d l h).map opd) else .stuck
    | none => .stuck := by rw [evE] <;> rfl
theorem x_call {f : Str} {es : List Ex} : evE F (.call f es) ρ = (evEs F es ρ).bind fun os ρ1 => match F.modes f with
    | none => .stuck
    | some ms => match if okPts os es then alPass ρ1 ms os else none with
      | none => .stuck
      | some (os', ρ2) => callR ρ2 ms os' (F.run f) := by rw [evE] <;> rfl
theorem x_bi {f : Str} {es : List Ex} : evE F (.bi f es) ρ = (evEs F es ρ).bind fun os ρ1 => match cons_ ρ1 os with
    | some ds => if okPts os es then (match biV f ds with
      | some r => if flat r || shrs os ds then .ok (opd r) ρ1 else .stuck
      | none => .stuck) else .stuck
    | none => .stuck := by rw [evE] <;> rfl
theorem x_isi {a : Ex} {t : Str} : evE F (.isi a t) ρ = (evE F a ρ).bind fun x ρ1 => match con ρ1 x with
    | some d => ofOpt ρ1 ((isInst d t).map fun b => .fz (.bl b))
    | none => .stuck := by rw [evE] <;> rfl
theorem x_mth {m : Str} {o : Ex} {es : List Ex} : evE F (.mth m o es) ρ = (evE F o ρ).bind fun x ρ1 => if ((con ρ1 x).map (tyOk m)).getD false then (evEs F es ρ1).bind fun os ρ2 =>
    if okPt x (.tup es) && okPts os es then (if isMut m then (match x with
      | .pt i p => (match aliases ρ2 os with
        | some (ds, _, ρ3) => (match getP ρ3 i p with
          | some d => (match mutV m d ds with
            | some (r, d') => (match setP ρ3 i p d' with
              | some ρ4 => .ok (opd r) ρ4
              | none => .stuck)
            | none => .stuck)
          | none => .stuck)
        | none => .stuck)
      | _ => .stuck)
    else (match con ρ2 x, cons_ ρ2 os with
      | some d, some ds => (match mthV m d ds with
        | some r => if flat r || (shr x d && shrs os ds) then .ok (opd r) ρ2 else .stuck
        | none => .stuck)
      | _, _ => .stuck)) else .stuck
    else .stuck := by rw [evE] <;> rfl
end
end Rw

set_option Elab.async false
set_option linter.all false
set_option maxRecDepth 100000
/-! RwU: what laws draw. -/
namespace Rw
open PySem
local macro_rules
  | `(tactic| trivial) => `(tactic| simp [callD, freeze, freezeL, freezeP, isFrP, calm_ok, z_pt, al_pt0, lock, unlock, backE, wipeE, killE, Slot.kl, Out.mp, pureE, pureEs, pureO, pureI, mv_popi, mv_append, mv_pop, ty_pop, ty_append, ty_join, mut_pop, mut_join, mut_append, isStrD, initE, musOf, evSs, evEs, evO, evI, evC, tst, getP, getAt, setP, setAt,
    isFr, isFrL, aliases, alPass, argV, callR, muPl, bwRoots, okPts, shrs, as_nm, as_tp, as_0, as_1, cons_, ff_run, ff_modes, bi_len, bi_int, bi_abs, bi_sum,
    fr_ap, lc_ap, wc_ap, wb_ap, e_asg, e_sub, e_ret, e_retN, e_ifs, e_whl, e_fr, e_ex, e_rse, e_try, e_brk, e_cont, e_pass, e_lc,
    x_var, x_mv, x_lit, x_dct0, x_bop, x_neg, x_cmp, x_cmp2, x_band, x_bor, x_bnot, x_ife, x_tup, x_lst, x_sub, x_slc, x_call, x_bi, x_isi, x_mth,
    b_ok, b_exc, o_ok, o_exc, th_nx, th_rt, th_bk, th_ct, th_exc, c_fz, c_ow, c_pt, al_fz, al_ow, v_fz, v_ow, z_fz, z_ow,
    k_fz, k_ow, k_pt0, k_pt, ko_fz, ko_ow, ko_pt0, ko_pt, n_fz, n_ow, n_pt0, n_pt, p_un, p_fz, p_ow, p_bw, p_mw, sc_fz, sc_ow, sc_bw, sc_mw,
    s_fz, s_ow, s_pt, pd_non, pd_bl, pd_int, pd_str, pd_lst, pd_tup, so_t, so_non, so_bl, so_int, so_str, so_lst, so_tup, tr_bl, tr_non, tr_int,
    f_nx, f_rt, f_exc, ad_pt, ad_fz, ad_ow, cm_eq, cm_ne, cm_lt, cm_le, cm_gt, cm_ge, cm_in, cm_ni, cm_isb, cm_isnb, cm_isn, cm_isnn, is_in, eo_ss, eo_ii, eo_bb, ed_ss, ed_ii, ed_bb,
    bp_ai, bp_si, bp_mi, bp_fi, bp_ri, bp_pi, bp_as, bp_ms, bp_al, bp_at, ln_str, ln_tup, ln_lst, iv_lst, iv_tup, iv_str, is_lst,
    sl_str, sl_lst, sl_tup, sl_scr, it_str, it_lst, it_tup, ipt_fz, ipt_ow, ipt_pt, lk_n, ul_n, st_str, st_lst, st_tup,
    x_dctN, x_dget, i_enm, x_fld, x_mk, x_mcall, e_sfld, ff_flds, pd_obj, so_obj, pd_dct, so_dct, cx_ok, cx_exc, bi2_max, bi2_min, bi2_sorted, mut_find, ty_find, mt_find', mut_extend, ty_extend, mv_extend, bp_mt, iv_dct, in_dct, e_aug, av_int, av_str, isFrF, freezeF, putF, List.lookup_cons,
    u1_lst, u1_tup, u1_str, fl_int, fl_bl, fl_str, uo_nx, uo_rt, uo_exc, oo_s, ixN_0, line_s, line_t, *])
def C__law_pot_0 : Ex := (.lc [2] (.nm 2) (.seq (.slc (.var 0) none (some (.lit (.int (63)))))) none (.bi "int" [(.var 2)]))
def C__law_pot_1 : Ex := (.lc [2] (.nm 2) (.seq (.var 1)) (some (.cmp .ge (.bi "abs" [(.var 2)]) (.bop .Pow (.lit (.int (10))) (.lit (.int (18)))))) (.bi "abs" [(.var 2)]))
def C__law_pot_2 : Ex := (.lc [2] (.nm 2) (.seq (.var 1)) (some (.cmp .lt (.bi "abs" [(.var 2)]) (.bop .Pow (.lit (.int (10))) (.lit (.int (18)))))) (.bop .Mod (.bi "int" [(.var 2)]) (.lit (.int (1000000007)))))
/-- _law_pot: 0=script 1=cells 2=item 3=greats 4=smalls -/
def c__law_pot : Def where
  modes := [.al]
  ns := 5
  body := [
  (.asg (.nm 1) C__law_pot_0),
  (.asg (.nm 3) C__law_pot_1),
  (.asg (.nm 4) (.bop .Add C__law_pot_2 (.lst [(.bop .Add (.bi "len" [(.var 1)]) (.lit (.int (1))))]))),
  (.ret (.lst [(.mv 3), (.var 4), (.lit (.int (0))), (.bop .Mod (.bi "int" [(.bi "sum" [(.var 4)])]) (.lit (.int (999983))))]))]
@[reducible] def V__law_pot (v_script v_cells v_item v_greats v_smalls : Rw.Slot := .un) : Rw.Env := [v_script, v_cells, v_item, v_greats, v_smalls]
/-- _law_draw: 0=pot 1=many 2=turn 3=number 4=seed -/
def c__law_draw : Def where
  modes := [.mu, .al]
  ns := 5
  body := [
  (.asg (.nm 2) (.sub (.var 0) (.lit (.int (2))))),
  (.sub (.var 0) (.lit (.int (2))) (.bop .Add (.var 2) (.lit (.int (1))))),
  (.ifs (.cmp .gt (.bi "len" [(.sub (.var 0) (.lit (.int (0))))]) (.lit (.int (0)))) [(.asg (.nm 3) (.sub (.sub (.var 0) (.lit (.int (0)))) (.lit (.int (0))))), (.sub (.sub (.var 0) (.lit (.int (0)))) (.lit (.int (0))) (.bop .FloorDiv (.var 3) (.var 1))), (.ifs (.cmp .lt (.var 3) (.var 1)) [(.ex (.mth "pop" (.sub (.var 0) (.lit (.int (0)))) [(.lit (.int (0)))]))] []), (.ret (.bop .Mod (.bi "int" [(.var 3)]) (.var 1)))] []),
  (.asg (.nm 4) (.bop .Add (.bop .Add (.bop .Mult (.sub (.sub (.var 0) (.lit (.int (1)))) (.bop .Mod (.bi "int" [(.var 2)]) (.bi "len" [(.sub (.var 0) (.lit (.int (1))))]))) (.lit (.int (7919)))) (.bop .Mult (.lit (.int (104729))) (.var 2))) (.bop .Mult (.sub (.var 0) (.lit (.int (3)))) (.lit (.int (31)))))),
  (.asg (.nm 3) (.bop .Mod (.bi "int" [(.bop .Add (.bop .Mult (.var 4) (.lit (.int (48271)))) (.lit (.int (11))))]) (.lit (.int (2147483647))))),
  (.asg (.nm 3) (.bop .Mod (.bi "int" [(.bop .Mult (.var 3) (.bop .Add (.bop .FloorDiv (.var 3) (.lit (.int (1009)))) (.lit (.int (69621)))))]) (.lit (.int (2147483629))))),
  (.asg (.nm 3) (.bop .Mod (.bi "int" [(.bop .Add (.bop .Mult (.var 3) (.bop .Add (.bop .FloorDiv (.var 3) (.lit (.int (2003)))) (.lit (.int (40692))))) (.var 2))]) (.lit (.int (2147483399))))),
  (.ret (.bop .Mod (.bi "int" [(.bop .FloorDiv (.var 3) (.lit (.int (64))))]) (.var 1)))]
@[reducible] def V__law_draw (v_pot v_many v_turn v_number v_seed : Rw.Slot := .un) : Rw.Env := [v_pot, v_many, v_turn, v_number, v_seed]
def C__law_string_0 : Ex := (.lc [3] (.nm 3) (.rng (.call "_law_draw" [(.var 0), (.bop .Add (.var 2) (.lit (.int (1))))])) none (.sub (.lit (.str [97, 98, 99])) (.call "_law_draw" [(.var 0), (.var 1)])))
/-- _law_string: 0=pot 1=letters 2=most 3=k -/
def c__law_string : Def where
  modes := [.mu, .al, .al]
  ns := 4
  body := [
  (.ret (.mth "join" (.lit (.str [])) [C__law_string_0]))]
@[reducible] def V__law_string (v_pot v_letters v_most v_k : Rw.Slot := .un) : Rw.Env := [v_pot, v_letters, v_most, v_k]
/-- _law_any: 0=pot 1=items -/
def c__law_any : Def where
  modes := [.mu, .al]
  ns := 2
  body := [
  (.ret (.sub (.var 1) (.call "_law_draw" [(.var 0), (.bi "len" [(.var 1)])])))]
@[reducible] def V__law_any (v_pot v_items : Rw.Slot := .un) : Rw.Env := [v_pot, v_items]

theorem frL_ints (xs : List Int) : isFrL (xs.map D.int) = true := by
  induction xs with
  | nil => rfl
  | cons x xs ih => simp [isFrL, isFr, ih]
theorem frzL_ints (xs : List Int) : freezeL (xs.map D.int) = xs.map D.int := by
  induction xs with
  | nil => rfl
  | cons x xs ih => simp [freezeL, freeze, ih]
theorem intsOf_ints (xs : List Int) : intsOf (xs.map D.int) = some xs := by
  induction xs with
  | nil => rfl
  | cons x xs ih => simp [intsOf, ih]
theorem i_rng {F : Fn} {a : Ex} {n : Int} {ρ ρ1 : Rw.Env} (h : evE F a ρ = .ok (.fz (.int n)) ρ1) (hr : rOk n = true) : evI F (.rng a) ρ = .ok (rangeD 0 n, true, none) ρ1 := by
  rw [evI, h]
  exact if_pos hr
theorem i_rng2 {F : Fn} {a b : Ex} {m n : Int} {ρ ρ1 ρ2 : Rw.Env} (h : evE F a ρ = .ok (.fz (.int m)) ρ1) (h2 : evE F b ρ1 = .ok (.fz (.int n)) ρ2) (hm : rOk m = true) (hr : rOk n = true) : evI F (.rng2 a b) ρ = .ok (rangeD m n, true, none) ρ2 := by
  rw [evI, h, b_ok, h2, b_ok]
  exact if_pos (by rw [hm, hr]; rfl)
theorem rOk_small {i : Int} (h : -1000000 ≤ i) (h2 : i ≤ 1000000) : rOk i = true := by
  unfold rOk
  exact decide_eq_true ⟨by omega, by omega⟩
/-- a for, run -/
theorem fr_run {F : Fn} {sub : Str → Str → Option Bool} {N : Nat} {ks : List Bool} {t : Tg} {it : It} {b : List St} {ρ ρ1 : Env} {xs : List D} {bz : Bool} {o : Out}
    (h : evI F it ρ = .ok (xs, bz, none) ρ1) (h2 : forL (frB F sub N ks t bz b) xs (killE ks ρ1) = o) : evS F sub N (.fr ks t it b) ρ = unlockO ρ1 none o := by
  rw [e_fr, h]
  show unlockO ρ1 none (forL _ xs (killE ks (lock ρ1 none))) = _
  rw [lk_n, h2]
theorem uo_id {ρ : Env} {o : Out} : unlockO ρ none o = o := by cases o <;> rfl
theorem mem_rangeD {x : D} {lo hi : Int} (h : x ∈ rangeD lo hi) : ∃ i : Int, x = .int i ∧ lo ≤ i ∧ i < hi := by
  obtain ⟨k, hk, rfl⟩ := List.mem_map.mp h
  have : k < (hi - lo).toNat := by simpa using hk
  exact ⟨lo + k, rfl, by omega, by omega⟩
/-- a while's turns over states -/
theorem whlL_st {σ : Type} (E : σ → Env) {c : Env → Rr Bool} {f : Env → Out} (I : σ → Prop) (Dn : σ → Prop) (μ : σ → Nat)
    (step : ∀ s, I s → (c (E s) = .ok false (E s) ∧ Dn s) ∨ (c (E s) = .ok true (E s) ∧ ∃ s', f (E s) = .nx (E s') ∧ I s' ∧ μ s' < μ s)) : ∀ (N : Nat) (s : σ), I s → μ s < N → ∃ s', whlL c f N (E s) = .nx (E s') ∧ I s' ∧ Dn s'
  | 0, s, _, h => by omega
  | N + 1, s, hi, h => by
    rcases step s hi with ⟨h1, h2⟩ | ⟨h1, s', h2, h3, h4⟩
    · exact ⟨s, by rw [whlL, h1]; rfl, hi, h2⟩
    · obtain ⟨s2, g1, g2⟩ := whlL_st E I Dn μ step N s' h3 (by omega)
      refine ⟨s2, ?_, g2⟩
      rw [whlL, h1]
      show (match f (E s) with
        | .nx ρ' => whlL c f N ρ'
        | .ct ρ' => whlL c f N ρ'
        | .bk ρ' => .nx ρ'
        | o => o) = _
      rw [h2]
      exact g1
/-- a for's turns over states: g what a turn makes of the state -/
theorem forL_st {σ : Type} (E : σ → Env) {f : D → Env → Out} (I : σ → Prop) : ∀ (xs : List D) (s : σ), I s → (∀ x ∈ xs, ∀ s, I s → ∃ s', f x (E s) = .nx (E s') ∧ I s') → ∃ s', forL f xs (E s) = .nx (E s') ∧ I s'
  | [], s, h, _ => ⟨s, by rw [forL], h⟩
  | x :: xs, s, h, k => by
    obtain ⟨s1, e1, h1⟩ := k x List.mem_cons_self s h
    obtain ⟨s2, e2, h2⟩ := forL_st E I xs s1 h1 fun x hx => k x (List.mem_cons_of_mem _ hx)
    exact ⟨s2, by rw [forL, e1]; exact e2, h2⟩
/-- a for's turns over a range, the state told by the turn's number -/
theorem forL_rng {σ : Type} (E : σ → Env) {f : D → Env → Out} (I : Int → σ → Prop) {hi : Int} : ∀ (n : Nat) (lo : Int) (s : σ), (hi - lo).toNat = n → lo ≤ hi → I lo s → (∀ i s, lo ≤ i → i < hi → I i s → ∃ s', f (.int i) (E s) = .nx (E s') ∧ I (i + 1) s') → ∃ s', forL f (rangeD lo hi) (E s) = .nx (E s') ∧ I hi s'
  | 0, lo, s, hn, hl, h, _ => by
    have : hi = lo := by omega
    subst this
    exact ⟨s, by simp [rangeD, forL], h⟩
  | n + 1, lo, s, hn, hl, h, k => by
    obtain ⟨s1, e1, h1⟩ := k lo s (Int.le_refl _) (by omega) h
    obtain ⟨s2, e2, h2⟩ := forL_rng E I n (lo + 1) s1 (by omega) (by omega) h1 fun i s a b c => k i s (by omega) b c
    refine ⟨s2, ?_, h2⟩
    have : rangeD lo hi = .int lo :: rangeD (lo + 1) hi := by
      unfold rangeD
      rw [hn, show (hi - (lo + 1)).toNat = n by omega, List.range_succ_eq_map, List.map_cons, List.map_map]
      congr 1
      · simp
      · apply List.map_congr_left
        intro a _
        simp only [Function.comp]
        congr 1
        push_cast
        omega
    rw [this, forL, e1]
    exact e2
/-- a for over a range that returns at the first number that p takes -/
theorem forL_ret {f : D → Env → Out} {E : Env} {r : Int → D} {E' : Int → Env} (p : Int → Bool) {hi : Int} : ∀ (n : Nat) (lo : Int), (hi - lo).toNat = n → (∀ i, lo ≤ i → i < hi → f (.int i) E = if p i then .rt (r i) (E' i) else .nx E) →
    (∃ i, lo ≤ i ∧ i < hi ∧ p i = true ∧ (∀ j, lo ≤ j → j < i → p j = false) ∧ forL f (rangeD lo hi) E = .rt (r i) (E' i)) ∨ ((∀ j, lo ≤ j → j < hi → p j = false) ∧ forL f (rangeD lo hi) E = .nx E)
  | 0, lo, hn, _ => by
    refine .inr ⟨fun j a b => by omega, ?_⟩
    have : rangeD lo hi = [] := by simp [rangeD, hn]
    rw [this, forL]
  | n + 1, lo, hn, k => by
    have e : rangeD lo hi = .int lo :: rangeD (lo + 1) hi := by
      unfold rangeD
      rw [hn, show (hi - (lo + 1)).toNat = n by omega, List.range_succ_eq_map, List.map_cons, List.map_map]
      congr 1
      · simp
      · apply List.map_congr_left
        intro a _
        simp only [Function.comp]
        congr 1
        push_cast
        omega
    have k0 := k lo (Int.le_refl _) (by omega)
    rw [e]
    cases hp : p lo with
    | true =>
      rw [hp, if_pos rfl] at k0
      exact .inl ⟨lo, Int.le_refl _, by omega, hp, fun j a b => by omega, by rw [forL, k0]⟩
    | false =>
      rw [hp] at k0
      have k0 : f (.int lo) E = .nx E := k0
      rcases forL_ret p n (lo + 1) (by omega) (fun i a b => k i (by omega) b) with ⟨i, a, b, c, d, g⟩ | ⟨d, g⟩
      · refine .inl ⟨i, by omega, b, c, fun j x y => ?_, by rw [forL, k0]; exact g⟩
        by_cases hj : j = lo
        · rw [hj]; exact hp
        · exact d j (by omega) y
      · refine .inr ⟨fun j x y => ?_, by rw [forL, k0]; exact g⟩
        by_cases hj : j = lo
        · rw [hj]; exact hp
        · exact d j (by omega) y
def pot (gs ss : List Int) (t s : Int) : D := .lst true [.lst true (gs.map .int), .lst false (ss.map .int), .int t, .int s]
def PotOk (d : D) : Prop := ∃ gs ss t s, d = pot gs ss t s ∧ (∀ g ∈ gs, 0 ≤ g) ∧ ss ≠ []
theorem pot_fr {p : D} (h : PotOk p) : isFr p = false := by
  obtain ⟨gs, ss, t, s, rfl, _⟩ := h
  rfl
theorem pot_opd {p : D} (h : PotOk p) : opd p = .ow p := by unfold opd; rw [pot_fr h] <;> rfl
theorem pot_slot {p : D} (h : PotOk p) : slotOf false p = .ow p := by unfold slotOf; rw [pot_fr h] <;> rfl
section
variable {tab : Tab} {fl : String → String → Bool} {sub : Str → Str → Option Bool} (N k : Nat)
theorem draw_g (td : tab "_law_draw" = some c__law_draw) {g : Int} {gs ss : List Int} {t s m : Int} (h1 : 0 < m) (h2 : m < 1073741824) :
    run tab fl sub N (k + 1) "_law_draw" [pot (g :: gs) ss t s, .int m] = .rt (.int (g % m)) [pot (if g < m then gs else g / m :: gs) ss (t + 1) s] := by
  rw [run_u td, c__law_draw]
  have e0 : ixN 4 0 = some 0 := rfl
  have e2 : ixN 4 2 = some 2 := rfl
  have e3 : ixN (gs.length + 1) 0 = some 0 := ixN_0
  have e4 := mut_pop
  have e5 := fun xs => ty_pop xs
  unfold pot
  clear td
  by_cases c : g < m
  · trivial
  · trivial
theorem small_mod {m : Int} (h : 0 < m) (h2 : m < 2 ^ 64) (x : Int) : small (x % m) = true := by
  unfold small
  have h3 := Int.emod_nonneg x (show m ≠ 0 by omega)
  have h4 := Int.emod_lt_of_pos x h
  exact decide_eq_true ⟨by omega, by omega⟩
theorem draw_s (td : tab "_law_draw" = some c__law_draw) {ss : List Int} {t s m : Int} (h0 : ss ≠ []) (h1 : 0 < m) (h2 : m < 1073741824) :
    ∃ n, run tab fl sub N (k + 1) "_law_draw" [pot [] ss t s, .int m] = .rt (.int (n % m)) [pot [] ss (t + 1) s] := by
  have hl : 0 < ss.length := List.length_pos_iff.mpr h0
  have r1 := Int.emod_nonneg t (show (ss.length : Int) ≠ 0 by omega)
  have r2 := Int.emod_lt_of_pos t (show (0 : Int) < ss.length by omega)
  obtain ⟨j, hj⟩ := Int.eq_ofNat_of_zero_le r1
  have hj2 : j < ss.length := by omega
  have e5 : ixN ss.length (j : Int) = some j := by rw [ixN_nat, if_pos hj2]
  have e6 : ss[j]? = some ss[j] := List.getElem?_eq_getElem hj2
  have s1 := fun x => small_mod (m := 2147483647) (by omega) (by omega) x
  have s2 := fun x => small_mod (m := 2147483629) (by omega) (by omega) x
  have s3 : small 7919 = true := by decide
  have s4 : small 104729 = true := by decide
  have s5 : small 31 = true := by decide
  have s6 : small 48271 = true := by decide
  have e0 : ixN 4 0 = some 0 := rfl
  have e1 : ixN 4 1 = some 1 := rfl
  have e2 : ixN 4 2 = some 2 := rfl
  have e3 : ixN 4 3 = some 3 := rfl
  have e7 := frL_ints ss
  rw [run_u td, c__law_draw]
  unfold pot
  clear td
  refine ⟨?_, ?_⟩
  rotate_left
  · trivial
    rfl
theorem r_draw (td : tab "_law_draw" = some c__law_draw) {p : D} {m : Int} (hp : PotOk p) (h1 : 0 < m) (h2 : m < 1073741824) :
    ∃ n p', run tab fl sub N (k + 1) "_law_draw" [p, .int m] = .rt (.int n) [p'] ∧ 0 ≤ n ∧ n < m ∧ PotOk p' := by
  obtain ⟨gs, ss, t, s, rfl, hg, hs⟩ := hp
  cases gs with
  | nil =>
    obtain ⟨n, hn⟩ := draw_s (fl := fl) (sub := sub) N k td (t := t) (s := s) hs h1 h2
    exact ⟨_, _, hn, Int.emod_nonneg _ (by omega), Int.emod_lt_of_pos _ h1, [], ss, t + 1, s, rfl, (fun _ h => nomatch h), hs⟩
  | cons g gs =>
    refine ⟨_, _, draw_g N k td h1 h2, Int.emod_nonneg _ (by omega), Int.emod_lt_of_pos _ h1, _, ss, t + 1, s, rfl, ?_, hs⟩
    intro x hx
    split at hx
    · exact hg x (List.mem_cons_of_mem _ hx)
    · rcases List.mem_cons.mp hx with e | e
      · rw [e]; exact Int.ediv_nonneg (hg g List.mem_cons_self) (by omega)
      · exact hg x (List.mem_cons_of_mem _ e)
def bigI (i : Int) : Bool := decide (10 ^ 18 ≤ (if i < 0 then -i else i))
def absI (i : Int) : Int := if i < 0 then -i else i
/-- a comprehension of ints over ints -/
theorem lc_ints {F : Fn} {bz : Bool} {c : Option Ex} {e : Ex} {ρ0 : Rw.Env} (g : Int → Option Int) (xs : List Int) (hl : xs.length ≤ line) (hw : wipeE ρ0 [2] = ρ0)
    (h : ∀ i ∈ xs, ∃ ρ', lcB F (.nm 2) bz c e (.int i) ρ0 = .ok ((g i).map .int) ρ' ∧ wipeE ρ' [2] = ρ0) :
    ∃ ρ', lcL (lcB F (.nm 2) bz c e) [2] (xs.map .int) [] ρ0 = .ok ((xs.filterMap g).map .int) ρ' ∧ ρ'.set 2 .un = ρ0 := by
  obtain ⟨ρ', e1, e2⟩ := lcL_pure (f := lcB F (.nm 2) bz c e) (own := [2]) (ρ0 := ρ0) (fun d => match d with
    | .int i => (g i).map .int
    | _ => none) (xs.map .int) [] ρ0 hw (by simpa using hl) (fun x hx => by
      obtain ⟨i, hi, rfl⟩ := List.mem_map.mp hx
      exact h i hi)
  refine ⟨ρ', ?_, e2⟩
  rw [e1]
  congr 1
  rw [List.nil_append, List.filterMap_map, List.map_filterMap]
  rfl
theorem r_pot (tp : tab "_law_pot" = some c__law_pot) (ns : List Int) (hn : ns.length ≤ 63) : ∃ p, run tab fl sub N (k + 1) "_law_pot" [.scr ns] = .rt p [] ∧ PotOk p := by
  have hc : cut ns none (some 63) = ns := by
    have e : sIx ns.length ns.length (some 63) = ns.length := by
      unfold sIx
      dsimp only
      rw [if_neg (by omega)]
      exact Nat.min_eq_right hn
    unfold cut
    rw [e]
    simp [sIx]
  have hl : ns.length ≤ 16777216 := by omega
  obtain ⟨ρ1, a1, b1⟩ := lc_ints (F := FFn tab fl sub N k) (bz := false) (c := none) (e := .bi "int" [(.var 2)]) (ρ0 := [.fz (.scr ns), .un, .un, .un, .un]) (fun i => some i) ns hl rfl (fun i _ => ⟨[.fz (.scr ns), .un, .fz (.int i), .un, .un], by clear tp; trivial, rfl⟩)
  rw [List.filterMap_some] at a1
  have s10 : small 10 = true := by decide
  have fr1 := frL_ints ns
  have fz1 := frzL_ints ns
  obtain ⟨ρ2, a2, b2⟩ := lc_ints (F := FFn tab fl sub N k) (bz := false) (c := some (.cmp .ge (.bi "abs" [(.var 2)]) (.bop .Pow (.lit (.int (10))) (.lit (.int (18)))))) (e := .bi "abs" [(.var 2)])
    (ρ0 := [.fz (.scr ns), .bw (.lst true (ns.map .int)), .un, .un, .un]) (fun i => if bigI i then some (absI i) else none) ns hl rfl (fun i _ => by
      refine ⟨[.fz (.scr ns), .bw (.lst true (ns.map .int)), .fz (.int i), .un, .un], ?_, rfl⟩
      unfold bigI absI
      clear tp
      trivial
      by_cases h : 1000000000000000000 ≤ (if i < 0 then -i else i)
      · rw [if_pos h, if_pos h]
      · rw [if_neg h, if_neg h])
  obtain ⟨ρ3, a3, b3⟩ := lc_ints (F := FFn tab fl sub N k) (bz := false) (c := some (.cmp .lt (.bi "abs" [(.var 2)]) (.bop .Pow (.lit (.int (10))) (.lit (.int (18)))))) (e := .bop .Mod (.bi "int" [(.var 2)]) (.lit (.int (1000000007))))
    (ρ0 := [.fz (.scr ns), .bw (.lst true (ns.map .int)), .un, .ow (.lst true ((ns.filterMap fun i => if bigI i then some (absI i) else none).map .int)), .un]) (fun i => if bigI i then none else some (i % 1000000007)) ns hl rfl (fun i _ => by
      refine ⟨[.fz (.scr ns), .bw (.lst true (ns.map .int)), .fz (.int i), .ow (.lst true ((ns.filterMap fun i => if bigI i then some (absI i) else none).map .int)), .un], ?_, rfl⟩
      unfold bigI
      clear tp
      trivial
      by_cases h : (if i < 0 then -i else i) < 1000000000000000000
      · rw [if_pos h, if_neg (by omega)]; rfl
      · rw [if_neg h, if_pos (by omega)]; rfl)
  have l2 : (ns.filterMap fun i => if bigI i then some (absI i) else none).length ≤ ns.length := List.length_filterMap_le _ _
  have l3 : (ns.filterMap fun i => if bigI i then none else some (i % 1000000007)).length ≤ ns.length := List.length_filterMap_le _ _
  have gn : ∀ g ∈ (ns.filterMap fun i => if bigI i then some (absI i) else none), 0 ≤ g := by
    intro g hg
    obtain ⟨i, _, hi⟩ := List.mem_filterMap.mp hg
    split at hi
    · cases hi
      unfold absI
      split <;> omega
    · cases hi
  generalize (ns.filterMap fun i => if bigI i then some (absI i) else none) = gs at *
  generalize (ns.filterMap fun i => if bigI i then none else some (i % 1000000007)) = ss at *
  have m2 : intsOf (List.map D.int ss ++ [D.int ((ns.length : Int) + 1)]) = some (ss ++ [(ns.length : Int) + 1]) := by
    have := intsOf_ints (ss ++ [(ns.length : Int) + 1])
    simpa using this
  have m3 : freezeL (List.map D.int ss ++ [D.int ((ns.length : Int) + 1)]) = List.map D.int ss ++ [D.int ((ns.length : Int) + 1)] := by
    have := frzL_ints (ss ++ [(ns.length : Int) + 1])
    simpa using this
  have m4 := frL_ints ss
  have m5 : ss.length + 1 ≤ 16777216 := by omega
  refine ⟨pot gs (ss ++ [(ns.length : Int) + 1]) 0 ((ss ++ [(ns.length : Int) + 1]).sum % 999983), ?_, gs, _, _, _, rfl, gn, by simp⟩
  rw [run_u tp, c__law_pot, C__law_pot_0, C__law_pot_1, C__law_pot_2]
  unfold pot
  clear tp gn
  trivial
theorem r_any (td : tab "_law_draw" = some c__law_draw) (ta : tab "_law_any" = some c__law_any) {p : D} {xs : List D} (hp : PotOk p) (h0 : xs ≠ []) (h1 : xs.length < 1000) : ∃ x p', run tab fl sub N (k + 2) "_law_any" [p, .tup xs] = .rt x [p'] ∧ x ∈ xs ∧ PotOk p' := by
  have hl : 0 < xs.length := List.length_pos_iff.mpr h0
  obtain ⟨n, p', d1, d2, d3, d4⟩ := r_draw (fl := fl) (sub := sub) N k td hp (m := xs.length) (by omega) (by omega)
  obtain ⟨j, rfl⟩ := Int.eq_ofNat_of_zero_le d2
  have hj : j < xs.length := by omega
  have e1 : ixN xs.length (j : Int) = some j := by rw [ixN_nat, if_pos hj]
  have e2 : xs[j]? = some xs[j] := List.getElem?_eq_getElem hj
  refine ⟨xs[j], p', ?_, List.getElem_mem _, d4⟩
  rw [run_u ta, c__law_any]
  have mo : c__law_draw.modes = [.mu, .al] := rfl
  clear ta
  trivial
/-! ### texts -/
theorem strs_of {S : Sg} : ∀ {ys : List D}, (∀ y ∈ ys, ∃ c, y = D.str [c] ∧ c ∈ S) → ∃ x : Sg, ys = x.map (fun c => D.str [c]) ∧ ∀ c ∈ x, c ∈ S
  | [], _ => ⟨[], rfl, fun _ h => nomatch h⟩
  | y :: ys, h => by
    obtain ⟨c, rfl, hc⟩ := h y List.mem_cons_self
    obtain ⟨x, rfl, hx⟩ := strs_of fun y hy => h y (List.mem_cons_of_mem _ hy)
    refine ⟨c :: x, rfl, fun a ha => ?_⟩
    rcases List.mem_cons.mp ha with e | e
    · rw [e]; exact hc
    · exact hx a e
theorem strsOf_map (x : Sg) : strsOf (x.map fun c => D.str [c]) = some (x.map fun c => [c]) := by
  induction x with
  | nil => rfl
  | cons c x ih => simp [strsOf, ih]
theorem join_map : ∀ (x : Sg), joinS [] (x.map fun c => [c]) = x
  | [] => rfl
  | [c] => rfl
  | c :: d :: x => by
    have ih := join_map (d :: x)
    simp [joinS] at ih ⊢
    exact ih
theorem sum_map (x : Sg) : ((x.map fun c => [c]).map List.length).sum = x.length := by
  induction x with
  | nil => rfl
  | cons c x ih => simp at ih ⊢; omega
/-- "".join of single signs -/
theorem join1 {x : Sg} {o : Bool} (h : x.length ≤ line) : mthV "join" (.str []) [.lst o (x.map fun c => D.str [c])] = some (.str x) := by
  rw [mt_join, strsOf_map x]
  show (if ((x.map fun c => [c]).map List.length).sum + (x.map fun c => [c]).length * ([] : Sg).length ≤ line then some (D.str (joinS [] (x.map fun c => [c]))) else none) = _
  rw [join_map, if_pos]
  rw [sum_map]
  simpa using h
def abc : Sg := [97, 98, 99]
theorem r_string (td : tab "_law_draw" = some c__law_draw) (ts : tab "_law_string" = some c__law_string) {p : D} {l m : Int} (hp : PotOk p) (h1 : 0 < l) (h2 : l ≤ 3) (h3 : 0 ≤ m) (h4 : m ≤ 100) :
    ∃ x p', run tab fl sub N (k + 2) "_law_string" [p, .int l, .int m] = .rt (.str x) [p'] ∧ PotOk p' ∧ x.length ≤ m ∧ ∀ c ∈ x, c ∈ abc.take l.toNat := by
  obtain ⟨n, p1, d1, d2, d3, d4⟩ := r_draw (fl := fl) (sub := sub) N k td hp (m := m + 1) (by omega) (by omega)
  obtain ⟨j, rfl⟩ := Int.eq_ofNat_of_zero_le d2
  have mo : c__law_draw.modes = [.mu, .al] := rfl
  have hlen : (rangeD 0 (j : Int)).length = j := by simp [rangeD]
  have jl : j ≤ 16777216 := by omega
  obtain ⟨ys, ρ', e1, ⟨p2, s, hp2, rfl⟩, e3, e4⟩ := lcL_inv (f := lcB (FFn tab fl sub N (k + 1)) (.nm 3) true none (.sub (.lit (.str [97, 98, 99])) (.call "_law_draw" [(.var 0), (.var 1)]))) (own := [3])
    (fun ρ => ∃ p s, PotOk p ∧ ρ = [.mw p, .fz (.int l), .fz (.int m), s]) (fun y => ∃ c, y = .str [c] ∧ c ∈ abc.take l.toNat) (rangeD 0 (j : Int)) [] [.mw p1, .fz (.int l), .fz (.int m), .un] ⟨p1, .un, d4, rfl⟩ (by rw [hlen, List.length_nil, Nat.zero_add]; exact jl) (by
      rintro x hx ρ ⟨p2, s, hp2, rfl⟩
      obtain ⟨i, hi, rfl⟩ := List.mem_map.mp hx
      obtain ⟨n, p3, f1, f2, f3, f4⟩ := r_draw (fl := fl) (sub := sub) N k td hp2 (m := l) h1 (by omega)
      obtain ⟨q, rfl⟩ := Int.eq_ofNat_of_zero_le f2
      have hq : q < 3 := by omega
      have g1 : ixN 3 (q : Int) = some q := by rw [ixN_nat, if_pos hq]
      have g2 : ([97, 98, 99] : Sg)[q]? = some ([97, 98, 99] : Sg)[q] := List.getElem?_eq_getElem hq
      refine ⟨.str [([97, 98, 99] : Sg)[q]], [.mw p3, .fz (.int l), .fz (.int m), .fz (.int (0 + (i : Int)))], ?_, ⟨p3, _, f4, rfl⟩, _, rfl, ?_⟩
      · clear ts d1
        trivial
      · rw [List.mem_iff_getElem?]
        exact ⟨q, by rw [List.getElem?_take, if_pos (by omega)]; exact g2⟩)
  obtain ⟨x, rfl, hx⟩ := strs_of e4
  have hxl : x.length = j := by rw [List.length_map, hlen] at e3; exact e3
  have j4 : x.length ≤ 16777216 := by omega
  rw [List.nil_append] at e1
  have jj := join1 (o := true) j4
  have g1 : evE (FFn tab fl sub N (k + 1)) C__law_string_0 [.mw p, .fz (.int l), .fz (.int m), .un] = .ok (.ow (.lst true (x.map fun c => D.str [c]))) [.mw p2, .fz (.int l), .fz (.int m), .un] := by
    have hcall : evE (FFn tab fl sub N (k + 1)) (.call "_law_draw" [(.var 0), (.bop .Add (.var 2) (.lit (.int (1))))]) [.mw p, .fz (.int l), .fz (.int m), .un] = .ok (.fz (.int (j : Int))) [.mw p1, .fz (.int l), .fz (.int m), .un] := by
      clear jj e1 ts
      trivial
    have hi := i_rng hcall (rOk_small (by omega) (by omega))
    rw [C__law_string_0]
    clear jj hcall ts d1
    generalize (It.rng (.call "_law_draw" [(.var 0), (.bop .Add (.var 2) (.lit (.int (1))))])) = I at hi ⊢
    trivial
  clear e1
  refine ⟨x, p2, ?_, hp2, by omega, hx⟩
  rw [run_u ts, c__law_string]
  clear ts d1
  trivial
end
end Rw

set_option Elab.async false
set_option linter.all false
set_option maxRecDepth 100000
/-! RwV: the package's checks, contents. -/
namespace Rw
open PySem
local macro_rules
  | `(tactic| trivial) => `(tactic| simp [callD, freeze, freezeL, freezeP, isFrP, calm_ok, z_pt, al_pt0, lock, unlock, backE, wipeE, killE, Slot.kl, Out.mp, pureE, pureEs, pureO, pureI, mv_popi, mv_append, mv_pop, ty_pop, ty_append, ty_join, mut_pop, mut_join, mut_append, isStrD, initE, musOf, evSs, evEs, evO, evI, evC, tst, getP, getAt, setP, setAt,
    isFr, isFrL, aliases, alPass, argV, callR, muPl, bwRoots, okPts, shrs, as_nm, as_tp, as_0, as_1, cons_, ff_run, ff_modes, bi_len, bi_int, bi_abs, bi_sum,
    fr_ap, lc_ap, wc_ap, wb_ap, e_asg, e_sub, e_ret, e_retN, e_ifs, e_whl, e_fr, e_ex, e_rse, e_try, e_brk, e_cont, e_pass, e_lc,
    x_var, x_mv, x_lit, x_dct0, x_bop, x_neg, x_cmp, x_cmp2, x_band, x_bor, x_bnot, x_ife, x_tup, x_lst, x_sub, x_slc, x_call, x_bi, x_isi, x_mth,
    b_ok, b_exc, o_ok, o_exc, th_nx, th_rt, th_bk, th_ct, th_exc, c_fz, c_ow, c_pt, al_fz, al_ow, v_fz, v_ow, z_fz, z_ow,
    k_fz, k_ow, k_pt0, k_pt, ko_fz, ko_ow, ko_pt0, ko_pt, n_fz, n_ow, n_pt0, n_pt, p_un, p_fz, p_ow, p_bw, p_mw, sc_fz, sc_ow, sc_bw, sc_mw,
    s_fz, s_ow, s_pt, pd_non, pd_bl, pd_int, pd_str, pd_lst, pd_tup, so_t, so_non, so_bl, so_int, so_str, so_lst, so_tup, tr_bl, tr_non, tr_int,
    f_nx, f_rt, f_exc, ad_pt, ad_fz, ad_ow, cm_eq, cm_ne, cm_lt, cm_le, cm_gt, cm_ge, cm_in, cm_ni, cm_isb, cm_isnb, cm_isn, cm_isnn, is_in, eo_ss, eo_ii, eo_bb, ed_ss, ed_ii, ed_bb,
    bp_ai, bp_si, bp_mi, bp_fi, bp_ri, bp_pi, bp_as, bp_ms, bp_al, bp_at, ln_str, ln_tup, ln_lst, iv_lst, iv_tup, iv_str, is_lst,
    sl_str, sl_lst, sl_tup, sl_scr, it_str, it_lst, it_tup, ipt_fz, ipt_ow, ipt_pt, lk_n, ul_n, st_str, st_lst, st_tup,
    x_dctN, x_dget, i_enm, x_fld, x_mk, x_mcall, e_sfld, ff_flds, pd_obj, so_obj, pd_dct, so_dct, cx_ok, cx_exc, bi2_max, bi2_min, bi2_sorted, mut_find, ty_find, mt_find', mut_extend, ty_extend, mv_extend, bp_mt, iv_dct, in_dct, e_aug, av_int, av_str, isFrF, freezeF, putF, List.lookup_cons,
    u1_lst, u1_tup, u1_str, fl_int, fl_bl, fl_str, uo_nx, uo_rt, uo_exc, oo_s, ixN_0, line_s, line_t, *])
/-- is_integer: 0=thing -/
def c_is_integer : Def where
  modes := [.al]
  ns := 1
  body := [
  (.ret (.band (.isi (.var 0) "int") (.bnot (.isi (.var 0) "bool"))))]
@[reducible] def V_is_integer (v_thing : Rw.Slot := .un) : Rw.Env := [v_thing]
/-- is_from: 0=thing 1=least -/
def c_is_from : Def where
  modes := [.al, .al]
  ns := 2
  body := [
  (.ret (.band (.call "is_integer" [(.var 0)]) (.cmp .ge (.var 0) (.var 1))))]
@[reducible] def V_is_from (v_thing v_least : Rw.Slot := .un) : Rw.Env := [v_thing, v_least]
/-- is_pair: 0=thing -/
def c_is_pair : Def where
  modes := [.al]
  ns := 1
  body := [
  (.ret (.band (.isi (.var 0) "tuple") (.cmp .eq (.bi "len" [(.var 0)]) (.lit (.int (2))))))]
@[reducible] def V_is_pair (v_thing : Rw.Slot := .un) : Rw.Env := [v_thing]
def B_is_string_of_0 : List Rw.St := [(.ifs (.cmp .notin (.var 2) (.var 1)) [(.ret (.lit (.bl false)))] [])]
def S_is_string_of_0 : Rw.St := (.fr [true, false, true] (.nm 2) (.seq (.var 0)) B_is_string_of_0)
/-- is_string_of: 0=thing 1=signs 2=sign -/
def c_is_string_of : Def where
  modes := [.al, .al]
  ns := 3
  body := [
  (.ifs (.bnot (.isi (.var 0) "str")) [(.ret (.lit (.bl false)))] []),
  S_is_string_of_0,
  (.ret (.lit (.bl true)))]
@[reducible] def V_is_string_of (v_thing v_signs v_sign : Rw.Slot := .un) : Rw.Env := [v_thing, v_signs, v_sign]
/-- is_letters: 0=thing 1=letters -/
def c_is_letters : Def where
  modes := [.al, .al]
  ns := 2
  body := [
  (.ret (.call "is_string_of" [(.var 0), (.slc (.lit (.str [97, 98, 99])) none (some (.var 1)))]))]
@[reducible] def V_is_letters (v_thing v_letters : Rw.Slot := .un) : Rw.Env := [v_thing, v_letters]
/-- is_content_of: 0=thing 1=letters -/
def c_is_content_of : Def where
  modes := [.al, .al]
  ns := 2
  body := [
  (.ret (.band (.call "is_pair" [(.var 0)]) (.band (.call "is_letters" [(.sub (.var 0) (.lit (.int (0)))), (.var 1)]) (.call "is_letters" [(.sub (.var 0) (.lit (.int (1)))), (.var 1)]))))]
@[reducible] def V_is_content_of (v_thing v_letters : Rw.Slot := .un) : Rw.Env := [v_thing, v_letters]
/-- is_content: 0=thing -/
def c_is_content : Def where
  modes := [.al]
  ns := 1
  body := [
  (.ret (.call "is_content_of" [(.var 0), (.bi "len" [(.lit (.str [97, 98, 99]))])]))]
@[reducible] def V_is_content (v_thing : Rw.Slot := .un) : Rw.Env := [v_thing]
/-- check_content: 0=thing -/
def c_check_content : Def where
  modes := [.al]
  ns := 1
  body := [
  (.ifs (.bnot (.call "is_content" [(.var 0)])) [(.rse "NoContent")] [])]
@[reducible] def V_check_content (v_thing : Rw.Slot := .un) : Rw.Env := [v_thing]
/-- place_in: 0=content 1=place 2=head 3=again -/
def c_place_in : Def where
  modes := [.al, .al]
  ns := 4
  body := [
  (.asg (.tp [(.nm 2), (.nm 3)]) (.var 0)),
  (.ifs (.cmp .lt (.var 1) (.bi "len" [(.var 2)])) [(.ret (.mv 1))] []),
  (.ifs (.cmp .eq (.bi "len" [(.var 3)]) (.lit (.int (0)))) [(.ret (.bi "len" [(.var 2)]))] []),
  (.ret (.bop .Add (.bi "len" [(.var 2)]) (.bop .Mod (.bi "int" [(.bop .Sub (.var 1) (.bi "len" [(.var 2)]))]) (.bi "len" [(.var 3)]))))]
@[reducible] def V_place_in (v_content v_place v_head v_again : Rw.Slot := .un) : Rw.Env := [v_content, v_place, v_head, v_again]
/-- sign_of: 0=content 1=place 2=whole 3=at -/
def c_sign_of : Def where
  modes := [.al, .al]
  ns := 4
  body := [
  (.asg (.nm 2) (.bop .Add (.sub (.var 0) (.lit (.int (0)))) (.sub (.var 0) (.lit (.int (1)))))),
  (.asg (.nm 3) (.call "place_in" [(.var 0), (.var 1)])),
  (.ret (.ife (.cmp .lt (.var 3) (.bi "len" [(.var 2)])) (.sub (.var 2) (.var 3)) (.lit (.str [101, 110, 100]))))]
@[reducible] def V_sign_of (v_content v_place v_whole v_at : Rw.Slot := .un) : Rw.Env := [v_content, v_place, v_whole, v_at]
/-- sign: 0=content 1=place -/
def c_sign : Def where
  modes := [.al, .al]
  ns := 2
  body := [
  (.ex (.call "check_content" [(.var 0)])),
  (.ifs (.bnot (.call "is_from" [(.var 1), (.lit (.int (0)))])) [(.rse "NoPlace")] []),
  (.ret (.call "sign_of" [(.var 0), (.var 1)]))]
@[reducible] def V_sign (v_content v_place : Rw.Slot := .un) : Rw.Env := [v_content, v_place]

section
variable {tab : Tab} {fl : String → String → Bool} {sub : Str → Str → Option Bool} (N k : Nat)
theorem r_is_integer (t1 : tab "is_integer" = some c_is_integer) {d : D} (h : tyd d = true) (hf : isFr d = true) : run tab fl sub N (k + 1) "is_integer" [d] = .rt (.bl (isIntD d && !isBlD d)) [] := by
  rw [run_u t1, c_is_integer]
  have h1 := ii_int h
  have h2 := ii_bool h
  clear t1
  cases hb : isIntD d <;> trivial
def isFrom : D → Int → Bool
  | .int i, l => decide (l ≤ i)
  | _, _ => false
theorem r_is_from (t1 : tab "is_integer" = some c_is_integer) (t2 : tab "is_from" = some c_is_from) {d : D} {l : Int} (h : tyd d = true) (hf : isFr d = true) : run tab fl sub N (k + 2) "is_from" [d, .int l] = .rt (.bl (isFrom d l)) [] := by
  have h1 := r_is_integer (fl := fl) (sub := sub) N k t1 h hf
  have mo : c_is_integer.modes = [.al] := rfl
  rw [run_u t2, c_is_from]
  clear t2
  cases d <;> first | (exact Bool.noConfusion h) | (simp [isIntD, isBlD] at h1; trivial; try simp [isFrom])
def isPair : D → Bool
  | .tup [_, _] => true
  | _ => false
theorem r_is_pair (t1 : tab "is_pair" = some c_is_pair) {d : D} (h : tyd d = true) : run tab fl sub N (k + 1) "is_pair" [d] = .rt (.bl (isPair d)) [] := by
  rw [run_u t1, c_is_pair]
  have h2 := ii_tuple h
  clear t1
  cases d with
  | tup xs =>
    simp [isTupD] at h2
    match xs with
    | [] => trivial; rfl
    | [a] => trivial; rfl
    | [a, b] => trivial; rfl
    | a :: b :: c :: r =>
      trivial
      have : ¬ ((r.length : Int) + 1 + 1 + 1 = 2) := by omega
      simp [this, isPair]
  | scr _ => cases h
  | obj _ _ _ => cases h
  | _ => simp [isTupD] at h2; trivial; rfl
def strOf (z : Sg) : D → Bool
  | .str x => x.all fun c => decide (c ∈ z)
  | _ => false
theorem r_is_string_of (t1 : tab "is_string_of" = some c_is_string_of) {d : D} {z : Sg} (h : tyd d = true) (hf : isFr d = true) : run tab fl sub N (k + 1) "is_string_of" [d, .str z] = .rt (.bl (strOf z d)) [] := by
  rw [run_u t1, c_is_string_of]
  have h2 := ii_str h
  clear t1
  cases d with
  | str x =>
    simp [isStrD] at h2
    have hl := forL_find (f := frB (FFn tab fl sub N k) sub N [true, false, true] (.nm 2) true B_is_string_of_0) (ρ0 := [.fz (.str x), .fz (.str z), .un]) (r := .bl false) (fun e => match e with
        | .str [c] => !decide (c ∈ z)
        | _ => false) (fun ρ => ∃ s : Slot, s.pin = false ∧ ∃ s0, ρ = [s0, .fz (.str z), s]) ⟨.un, rfl, _, rfl⟩ (x.map fun c => .str [c]) [.un, .fz (.str z), .un] ⟨.un, rfl, _, rfl⟩ (by
          intro e he ρ hρ
          obtain ⟨s, hs, s0, rfl⟩ := hρ
          obtain ⟨c, _, rfl⟩ := List.mem_map.mp he
          by_cases hc : c ∈ z
          · simp [hc]
            refine ⟨[s0.kl, .fz (.str z), .un], ?_, .un, rfl, _, rfl⟩
            rw [B_is_string_of_0]
            cases s0 <;> trivial
          · simp [hc]
            refine ⟨[s0, .fz (.str z), .fz (.str [c])], ?_, _, rfl, _, rfl⟩
            rw [B_is_string_of_0]
            trivial)
    have hs : strOf z (.str x) = !((x.map fun c => D.str [c]).any fun e => match e with
        | .str [c] => !decide (c ∈ z)
        | _ => false) := by
      simp [strOf, List.any_map, List.all_eq_not_any_not, Function.comp_def]
    rw [hs, S_is_string_of_0]
    split at hl
    · rename_i h3
      obtain ⟨ρ', e1, s, _, s0, rfl⟩ := hl
      rw [h3]
      trivial
    · rename_i h3
      obtain ⟨ρ', e1, s, _, s0, rfl⟩ := hl
      rw [Bool.not_eq_true] at h3
      rw [h3]
      trivial
  | scr _ => cases h
  | obj _ _ _ => cases h
  | _ => simp [isStrD] at h2; trivial; try rfl
theorem cut_abc : cut ([97, 98, 99] : Sg) none (some 3) = [97, 98, 99] := by decide
theorem r_is_letters (t1 : tab "is_string_of" = some c_is_string_of) (t2 : tab "is_letters" = some c_is_letters) {d : D} {l : Int} (h0 : 0 ≤ l) (h9 : l ≤ 3) (h : tyd d = true) (hf : isFr d = true) : run tab fl sub N (k + 2) "is_letters" [d, .int l] = .rt (.bl (strOf (abc.take l.toNat) d)) [] := by
  have h1 := r_is_string_of (fl := fl) (sub := sub) N k (z := abc.take l.toNat) t1 h hf
  have mo : c_is_string_of.modes = [.al, .al] := rfl
  have h5 : cut ([97, 98, 99] : Sg) none (some l) = abc.take l.toNat := by
    have : l = 0 ∨ l = 1 ∨ l = 2 ∨ l = 3 := by omega
    rcases this with rfl | rfl | rfl | rfl <;> decide
  rw [run_u t2, c_is_letters]
  clear t2
  trivial
def contB (l : Int) : D → Bool
  | .tup [a, b] => strOf (abc.take l.toNat) a && strOf (abc.take l.toNat) b
  | _ => false
def okC (d : D) : Bool := tyd d && (isFr d && (match d with
  | .tup xs => xs.all tyd
  | _ => true))
theorem r_is_content_of (t1 : tab "is_string_of" = some c_is_string_of) (t2 : tab "is_letters" = some c_is_letters) (t3 : tab "is_pair" = some c_is_pair) (t4 : tab "is_content_of" = some c_is_content_of) {d : D} {l : Int} (h0 : 0 ≤ l) (h9 : l ≤ 3) (h : okC d = true) : run tab fl sub N (k + 3) "is_content_of" [d, .int l] = .rt (.bl (contB l d)) [] := by
  unfold okC at h
  rw [Bool.and_eq_true, Bool.and_eq_true] at h
  obtain ⟨ht, hf, hx⟩ := h
  have h1 := r_is_pair (fl := fl) (sub := sub) N (k + 1) t3 ht
  have mo1 : c_is_pair.modes = [.al] := rfl
  have mo2 : c_is_letters.modes = [.al, .al] := rfl
  rw [run_u t4, c_is_content_of]
  clear t4
  by_cases hp : ∃ a b, d = .tup [a, b]
  · obtain ⟨a, b, rfl⟩ := hp
    simp at hx
    simp [isFr, isFrL] at hf
    have ha := r_is_letters (fl := fl) (sub := sub) N k t1 t2 h0 h9 hx.1 hf.1
    have hb := r_is_letters (fl := fl) (sub := sub) N k t1 t2 h0 h9 hx.2 hf.2
    simp [isPair] at h1
    have e1 : ixN 2 0 = some 0 := rfl
    have e2 : ixN 2 1 = some 1 := rfl
    obtain ⟨f1, f2⟩ := hf
    clear h0 h9 t1
    cases hs : strOf (abc.take l.toNat) a <;> trivial <;> simp [contB, hs]
  · have hp' : isPair d = false := by
      cases d with
      | tup xs =>
        match xs, hp with
        | [], _ => rfl
        | [_], _ => rfl
        | [a, b], hp => exact (hp ⟨a, b, rfl⟩).elim
        | _ :: _ :: _ :: _, _ => rfl
      | _ => rfl
    have hc : contB l d = false := by
      cases d with
      | tup xs =>
        match xs, hp with
        | [], _ => rfl
        | [_], _ => rfl
        | [a, b], hp => exact (hp ⟨a, b, rfl⟩).elim
        | _ :: _ :: _ :: _, _ => rfl
      | _ => rfl
    clear h0 h9 t1
    trivial
theorem r_is_content (t1 : tab "is_string_of" = some c_is_string_of) (t2 : tab "is_letters" = some c_is_letters) (t3 : tab "is_pair" = some c_is_pair) (t4 : tab "is_content_of" = some c_is_content_of) (t5 : tab "is_content" = some c_is_content)
    {d : D} (h : okC d = true) : run tab fl sub N (k + 4) "is_content" [d] = .rt (.bl (contB 3 d)) [] := by
  have h1 := r_is_content_of (fl := fl) (sub := sub) N k t1 t2 t3 t4 (l := 3) (by omega) (by omega) h
  have mo : c_is_content_of.modes = [.al, .al] := rfl
  rw [run_u t5, c_is_content]
  clear t5 t1 t2 t3
  trivial
theorem r_check_content (t1 : tab "is_string_of" = some c_is_string_of) (t2 : tab "is_letters" = some c_is_letters) (t3 : tab "is_pair" = some c_is_pair) (t4 : tab "is_content_of" = some c_is_content_of) (t5 : tab "is_content" = some c_is_content) (t6 : tab "check_content" = some c_check_content)
    {d : D} (h : okC d = true) : run tab fl sub N (k + 5) "check_content" [d] = if contB 3 d then .rt .non [] else .exc ⟨"NoContent", []⟩ [] := by
  have h1 := r_is_content (fl := fl) (sub := sub) N k t1 t2 t3 t4 t5 h
  have mo : c_is_content.modes = [.al] := rfl
  rw [run_u t6, c_check_content]
  clear t6 t1 t2 t3 t4
  cases hc : contB 3 d <;> trivial
theorem contB_of {x y : Sg} (h1 : ∀ c ∈ x, c ∈ abc) (h2 : ∀ c ∈ y, c ∈ abc) : contB 3 (.tup [.str x, .str y]) = true := by
  simp only [contB, strOf, Bool.and_eq_true, List.all_eq_true, decide_eq_true_eq]
  exact ⟨h1, h2⟩
end
end Rw

set_option Elab.async false
set_option linter.all false
set_option maxRecDepth 100000
/-! k75: questions and their columns, as data. -/
namespace Kk75
open PySem Rw
/-- all columns of n signs -/
def cl (s : Sg) : Nat → List Sg
  | 0 => [[]]
  | n + 1 => (cl s n).flatMap fun c => s.map fun x => c ++ [x]
def sgn (l : Nat) : Sg := [45, 97, 98].take (l + 1)
def colD (c : Sg) : D := .tup (c.map fun x => .str [x])
/-- the columns with a letter -/
def rds (r l : Nat) : List Sg := (cl (sgn l) r).tail
def zixF : Nat → List Sg → List (D × D)
  | _, [] => []
  | i, c :: r => (colD c, .int i) :: zixF (i + 1) r
def numsL (r l : Nat) : List (D × D) := zixF 0 (rds r l)
def Dom (r l : Nat) : Prop := (r = 2 ∧ l = 1) ∨ (r = 2 ∧ l = 2) ∨ (r = 4 ∧ l = 1)
abbrev Tbl := List (Bool × List Int)
def stD (s : Bool × List Int) : D := .tup [.bl s.1, .tup (s.2.map .int)]
def tabD (t : Tbl) : D := .tup (t.map stD)
structure TblOk (r l : Nat) (t : Tbl) : Prop where
  d : Dom r l
  lo : 1 ≤ t.length
  hi : t.length ≤ 8
  w : ∀ s ∈ t, s.2.length = (rds r l).length
  b : ∀ s ∈ t, ∀ x ∈ s.2, 0 ≤ x ∧ x < t.length
def kN : Sg := [110, 117, 109, 98, 101, 114, 115]
def numK (r l : Nat) : List (D × D) := [(.str kN, .dct false (numsL r l))]
def qF (r l : Nat) (T : D) (kept : List (D × D)) : List (String × D) := [("rows", .int r), ("letters", .int l), ("table", T), ("kept", .dct true kept)]
def qD (r l : Nat) (T : D) (kept : List (D × D)) : D := .obj true "Question" (qF r l T kept)
/-- the column's number -/
def num (l : Nat) (c : Sg) : Nat := c.foldl (fun n x => n * (l + 1) + (if x = 45 then 0 else if x = 97 then 1 else 2)) 0
theorem len_rds {r l : Nat} (h : Dom r l) : 3 ≤ (rds r l).length ∧ (rds r l).length ≤ 15 := by
  rcases h with ⟨rfl, rfl⟩ | ⟨rfl, rfl⟩ | ⟨rfl, rfl⟩ <;> decide
/-- each column is one of them -/
theorem col_mem {s : Sg} : ∀ {n : Nat} {c : Sg}, c.length = n → (∀ x ∈ c, x ∈ s) → c ∈ cl s n
  | 0, c, h, _ => by rw [List.eq_nil_of_length_eq_zero h]; exact List.mem_singleton.mpr rfl
  | n + 1, c, h, hs => by
    have hn : c ≠ [] := fun e => by rw [e] at h; cases h
    rw [← List.dropLast_concat_getLast hn]
    refine List.mem_flatMap.mpr ⟨c.dropLast, col_mem (by simp [h]) fun x hx => hs x (List.dropLast_subset c hx), List.mem_map.mpr ⟨c.getLast hn, hs _ (List.getLast_mem hn), rfl⟩⟩
/-- what holds at each column, by trial -/
theorem col_all {P : Nat → Nat → Sg → Bool} (h : (cl (sgn 1) 2).all (P 2 1) = true ∧ (cl (sgn 2) 2).all (P 2 2) = true ∧ (cl (sgn 1) 4).all (P 4 1) = true) {r l : Nat} (d : Dom r l) {c : Sg} (hc : c ∈ cl (sgn l) r) : P r l c = true := by
  obtain ⟨h1, h2, h3⟩ := h
  rcases d with ⟨rfl, rfl⟩ | ⟨rfl, rfl⟩ | ⟨rfl, rfl⟩
  · exact List.all_eq_true.mp h1 c hc
  · exact List.all_eq_true.mp h2 c hc
  · exact List.all_eq_true.mp h3 c hc
def getB (r l : Nat) (c : Sg) : Bool := match dGet (numsL r l) (colD c) with
  | some none => num l c == 0
  | some (some (.int i)) => i == (num l c : Int) - 1 && (decide (0 < num l c) && decide (num l c ≤ (rds r l).length))
  | _ => false
theorem get_num {r l : Nat} (d : Dom r l) {c : Sg} (hc : c ∈ cl (sgn l) r) : (num l c = 0 ∧ dGet (numsL r l) (colD c) = some none) ∨
    (0 < num l c ∧ num l c ≤ (rds r l).length ∧ dGet (numsL r l) (colD c) = some (some (.int ((num l c : Int) - 1)))) := by
  have h := col_all (P := getB) ⟨by decide +kernel, by decide +kernel, by decide +kernel⟩ d hc
  unfold getB at h
  split at h
  · rename_i e; exact .inl ⟨by simpa using h, e⟩
  · rename_i i e
    simp at h
    obtain ⟨h1, h2, h3⟩ := h
    exact .inr ⟨h2, h3, by rw [e, h1]⟩
  · cases h
end Kk75

set_option Elab.async false
set_option linter.all false
set_option maxRecDepth 100000
namespace Kk75
open PySem Rw
def fa : List He.Fa := [
  .glo "is_integer",
  .glo "is_within",
  .glo "is_pair",
  .glo "is_string_of",
  .glo "is_letters",
  .glo "columns",
  .glo "readings",
  .glo "is_standing",
  .glo "numbers_of",
  .glo "read",
  .glo "column_at",
  .glo "longest",
  .glo "are_words",
  .glo "check_words",
  .glo "standing_with",
  .glo "answer_to",
  .glo "answer",
  .glo "_law_pool",
  .glo "_law_draw",
  .glo "_law_pick",
  .glo "_law_columns",
  .glo "_law_lead",
  .glo "_law_column_at",
  .glo "_law_answer",
  .glo "_law_by_rows",
  .glo "_law_drawn_table",
  .glo "_law_first_signs",
  .glo "_law_compared",
  .glo "_law_spec",
  .glo "_law_question",
  .glo "_law_drawn_words",
  .glo "law",
  .glo "NoWords",
  .exc "NoWords",
  .glo "Question",
  .cls "Question",
  .mkr "Question",
  .noat "Question" "rows",
  .noat "Question" "letters",
  .noat "Question" "table",
  .noat "Question" "kept",
  .str "LETTERS" "abc",
  .int "LEAST_ROWS" (2),
  .int "MOST_ROWS" (4),
  .int "MOST_LETTERS" (2),
  .int "MOST_STANDINGS" (8),
  .str "GONE" "-",
  .free "ValueError",
  .free "abs",
  .free "all",
  .free "bool",
  .free "enumerate",
  .free "int",
  .free "isinstance",
  .free "len",
  .free "max",
  .free "range",
  .free "str",
  .free "super",
  .free "tuple"]
def pg : Pgm where
  fa := fa
  ns := ["kept", "rows", "letters", "table"]
  kcs := [⟨"Question", "Question.__init__", 3, []⟩]
  mss := []
abbrev fl := (ggF pg).fl
theorem fl_Question_rows : fl "Question" "rows" = true := by decide +kernel
theorem fl_Question_letters : fl "Question" "letters" = true := by decide +kernel
theorem fl_Question_table : fl "Question" "table" = true := by decide +kernel
theorem fl_Question_kept : fl "Question" "kept" = true := by decide +kernel
/-- is_integer: 0=thing -/
def c_is_integer : Def where
  modes := [.al]
  ns := 1
  body := [
  (.ret (.band (.isi (.var 0) "int") (.bnot (.isi (.var 0) "bool"))))]
@[reducible] def V_is_integer (v_thing : Rw.Slot := .un) : Rw.Env := [v_thing]
/-- is_within: 0=thing 1=least 2=most -/
def c_is_within : Def where
  modes := [.al, .al, .al]
  ns := 3
  body := [
  (.ret (.band (.call "is_integer" [(.var 0)]) (.cmp2 .le .le (.var 1) (.var 0) (.var 2))))]
@[reducible] def V_is_within (v_thing v_least v_most : Rw.Slot := .un) : Rw.Env := [v_thing, v_least, v_most]
/-- is_pair: 0=thing -/
def c_is_pair : Def where
  modes := [.al]
  ns := 1
  body := [
  (.ret (.band (.isi (.var 0) "tuple") (.cmp .eq (.bi "len" [(.var 0)]) (.lit (.int (2))))))]
@[reducible] def V_is_pair (v_thing : Rw.Slot := .un) : Rw.Env := [v_thing]
def B_is_string_of_0 : List Rw.St := [(.ifs (.cmp .notin (.var 2) (.var 1)) [(.ret (.lit (.bl false)))] [])]
def S_is_string_of_0 : Rw.St := (.fr [true, false, true] (.nm 2) (.seq (.var 0)) B_is_string_of_0)
/-- is_string_of: 0=thing 1=signs 2=sign -/
def c_is_string_of : Def where
  modes := [.al, .al]
  ns := 3
  body := [
  (.ifs (.bnot (.isi (.var 0) "str")) [(.ret (.lit (.bl false)))] []),
  S_is_string_of_0,
  (.ret (.lit (.bl true)))]
@[reducible] def V_is_string_of (v_thing v_signs v_sign : Rw.Slot := .un) : Rw.Env := [v_thing, v_signs, v_sign]
/-- is_letters: 0=thing 1=letters -/
def c_is_letters : Def where
  modes := [.al, .al]
  ns := 2
  body := [
  (.ret (.call "is_string_of" [(.var 0), (.slc (.lit (.str [97, 98, 99])) none (some (.var 1)))]))]
@[reducible] def V_is_letters (v_thing v_letters : Rw.Slot := .un) : Rw.Env := [v_thing, v_letters]
def C_columns_0 : Ex := (.lc2 [4, 5] (.nm 4) (.seq (.var 2)) none [5] (.nm 5) (.seq (.bop .Add (.lit (.str [45])) (.slc (.lit (.str [97, 98, 99])) none (some (.var 1))))) none (.bop .Add (.var 4) (.tup [(.var 5)])))
def B_columns_0 : List Rw.St := [(.asg (.nm 2) C_columns_0)]
def S_columns_0 : Rw.St := (.fr [true, false, false, true, false, false] (.nm 3) (.rng (.var 0)) B_columns_0)
/-- columns: 0=rows 1=letters 2=found 3=row 4=column 5=sign -/
def c_columns : Def where
  modes := [.al, .al]
  ns := 6
  body := [
  (.asg (.nm 2) (.lst [(.tup [])])),
  S_columns_0,
  (.ret (.mv 2))]
@[reducible] def V_columns (v_rows v_letters v_found v_row v_column v_sign : Rw.Slot := .un) : Rw.Env := [v_rows, v_letters, v_found, v_row, v_column, v_sign]
/-- readings: 0=rows 1=letters -/
def c_readings : Def where
  modes := [.al, .al]
  ns := 2
  body := [
  (.ret (.slc (.call "columns" [(.var 0), (.var 1)]) (some (.lit (.int (1)))) none))]
@[reducible] def V_readings (v_rows v_letters : Rw.Slot := .un) : Rw.Env := [v_rows, v_letters]
def C_is_standing_0 : Ex := (.lc [3] (.nm 3) (.seq (.sub (.var 0) (.lit (.int (1))))) none (.call "is_within" [(.var 3), (.lit (.int (0))), (.bop .Sub (.var 1) (.lit (.int (1))))]))
/-- is_standing: 0=thing 1=many 2=wide 3=later -/
def c_is_standing : Def where
  modes := [.al, .al, .al]
  ns := 4
  body := [
  (.ifs (.bor (.bnot (.call "is_pair" [(.var 0)])) (.bor (.bnot (.isi (.sub (.var 0) (.lit (.int (0)))) "bool")) (.bnot (.isi (.sub (.var 0) (.lit (.int (1)))) "tuple")))) [(.ret (.lit (.bl false)))] []),
  (.ret (.band (.cmp .eq (.bi "len" [(.sub (.var 0) (.lit (.int (1))))]) (.var 2)) (.bi "all" [C_is_standing_0])))]
@[reducible] def V_is_standing (v_thing v_many v_wide v_later : Rw.Slot := .un) : Rw.Env := [v_thing, v_many, v_wide, v_later]
def C_numbers_of_0 : Ex := (.dc [2, 3] (.tp [(.nm 2), (.nm 3)]) (.enm (.var 1)) none (.var 3) (.var 2))
/-- numbers_of: 0=question 1=listed 2=number 3=reading -/
def c_numbers_of : Def where
  modes := [.mu]
  ns := 4
  body := [
  (.ifs (.cmp .notin (.lit (.str [110, 117, 109, 98, 101, 114, 115])) (.fld (.var 0) "kept")) [(.asg (.nm 1) (.call "readings" [(.fld (.var 0) "rows"), (.fld (.var 0) "letters")])), (.sub (.fld (.var 0) "kept") (.lit (.str [110, 117, 109, 98, 101, 114, 115])) C_numbers_of_0)] []),
  (.ret (.sub (.fld (.var 0) "kept") (.lit (.str [110, 117, 109, 98, 101, 114, 115]))))]
@[reducible] def V_numbers_of (v_question v_listed v_number v_reading : Rw.Slot := .un) : Rw.Env := [v_question, v_listed, v_number, v_reading]
/-- read: 0=question 1=standing 2=reading 3=number -/
def c_read : Def where
  modes := [.mu, .al, .al]
  ns := 4
  body := [
  (.asg (.nm 3) (.dget (.call "numbers_of" [(.var 0)]) (.var 2))),
  (.ret (.ife (.cmp .is (.var 3) (.lit .non)) (.var 1) (.sub (.sub (.sub (.fld (.var 0) "table") (.var 1)) (.lit (.int (1)))) (.var 3))))]
@[reducible] def V_read (v_question v_standing v_reading v_number : Rw.Slot := .un) : Rw.Env := [v_question, v_standing, v_reading, v_number]
def C_column_at_0 : Ex := (.lc [2] (.nm 2) (.seq (.var 0)) none (.ife (.cmp .lt (.var 1) (.bi "len" [(.var 2)])) (.sub (.var 2) (.var 1)) (.lit (.str [45]))))
/-- column_at: 0=words 1=place 2=word -/
def c_column_at : Def where
  modes := [.al, .al]
  ns := 3
  body := [
  (.ret (.bi "tuple" [C_column_at_0]))]
@[reducible] def V_column_at (v_words v_place v_word : Rw.Slot := .un) : Rw.Env := [v_words, v_place, v_word]
def C_longest_0 : Ex := (.lc [1] (.nm 1) (.seq (.var 0)) none (.bi "len" [(.var 1)]))
/-- longest: 0=words 1=word -/
def c_longest : Def where
  modes := [.al]
  ns := 2
  body := [
  (.ret (.bi "max" [C_longest_0]))]
@[reducible] def V_longest (v_words v_word : Rw.Slot := .un) : Rw.Env := [v_words, v_word]
def C_are_words_0 : Ex := (.lc [3] (.nm 3) (.seq (.var 2)) none (.call "is_letters" [(.var 3), (.var 1)]))
/-- are_words: 0=many 1=letters 2=thing 3=word -/
def c_are_words : Def where
  modes := [.al, .al, .al]
  ns := 4
  body := [
  (.ret (.band (.isi (.var 2) "tuple") (.band (.cmp .eq (.bi "len" [(.var 2)]) (.var 0)) (.bi "all" [C_are_words_0]))))]
@[reducible] def V_are_words (v_many v_letters v_thing v_word : Rw.Slot := .un) : Rw.Env := [v_many, v_letters, v_thing, v_word]
/-- check_words: 0=many 1=letters 2=thing -/
def c_check_words : Def where
  modes := [.al, .al, .al]
  ns := 3
  body := [
  (.ifs (.bnot (.call "are_words" [(.var 0), (.var 1), (.var 2)])) [(.rse "NoWords")] [])]
@[reducible] def V_check_words (v_many v_letters v_thing : Rw.Slot := .un) : Rw.Env := [v_many, v_letters, v_thing]
def B_standing_with_0 : List Rw.St := [(.asg (.nm 2) (.call "read" [(.var 0), (.var 2), (.call "column_at" [(.var 1), (.var 3)])]))]
def S_standing_with_0 : Rw.St := (.fr [false, false, false, true] (.nm 3) (.rng (.call "longest" [(.var 1)])) B_standing_with_0)
/-- standing_with: 0=question 1=words 2=found 3=place -/
def c_standing_with : Def where
  modes := [.mu, .al]
  ns := 4
  body := [
  (.asg (.nm 2) (.lit (.int (0)))),
  S_standing_with_0,
  (.ret (.mv 2))]
@[reducible] def V_standing_with (v_question v_words v_found v_place : Rw.Slot := .un) : Rw.Env := [v_question, v_words, v_found, v_place]
/-- answer_to: 0=question 1=words -/
def c_answer_to : Def where
  modes := [.mu, .al]
  ns := 2
  body := [
  (.ret (.sub (.sub (.fld (.var 0) "table") (.call "standing_with" [(.var 0), (.var 1)])) (.lit (.int (0)))))]
@[reducible] def V_answer_to (v_question v_words : Rw.Slot := .un) : Rw.Env := [v_question, v_words]
/-- answer: 0=question 1=words -/
def c_answer : Def where
  modes := [.mu, .al]
  ns := 2
  body := [
  (.ex (.call "check_words" [(.fld (.var 0) "rows"), (.fld (.var 0) "letters"), (.var 1)])),
  (.ret (.call "answer_to" [(.var 0), (.var 1)]))]
@[reducible] def V_answer (v_question v_words : Rw.Slot := .un) : Rw.Env := [v_question, v_words]
def C__law_pool_0 : Ex := (.lc [2] (.nm 2) (.seq (.slc (.var 0) none (some (.lit (.int (63)))))) (some (.cmp .ge (.bi "abs" [(.var 2)]) (.bop .Pow (.lit (.int (10))) (.lit (.int (18)))))) (.bi "abs" [(.var 2)]))
def C__law_pool_1 : Ex := (.lc [2] (.nm 2) (.seq (.slc (.var 0) none (some (.lit (.int (63)))))) (some (.cmp .lt (.bi "abs" [(.var 2)]) (.bop .Pow (.lit (.int (10))) (.lit (.int (18)))))) (.bop .Mod (.bi "int" [(.var 2)]) (.lit (.int (1000003)))))
/-- _law_pool: 0=script 1=great 2=cell 3=small -/
def c__law_pool : Def where
  modes := [.al]
  ns := 4
  body := [
  (.asg (.nm 1) C__law_pool_0),
  (.asg (.nm 3) C__law_pool_1),
  (.ret (.lst [(.mv 1), (.mv 3), (.lit (.int (0))), (.lit (.int (0)))]))]
@[reducible] def V__law_pool (v_script v_great v_cell v_small : Rw.Slot := .un) : Rw.Env := [v_script, v_great, v_cell, v_small]
/-- _law_draw: 0=pool 1=many 2=digit 3=cell 4=number -/
def c__law_draw : Def where
  modes := [.mu, .al]
  ns := 5
  body := [
  (.ifs (.band (.cmp .le (.sub (.var 0) (.lit (.int (2)))) (.lit (.int (1)))) (.cmp .gt (.bi "len" [(.sub (.var 0) (.lit (.int (0))))]) (.lit (.int (0))))) [(.sub (.var 0) (.lit (.int (2))) (.sub (.sub (.var 0) (.lit (.int (0)))) (.lit (.int (0))))), (.sub (.var 0) (.lit (.int (0))) (.slc (.sub (.var 0) (.lit (.int (0)))) (some (.lit (.int (1)))) none))] []),
  (.ifs (.cmp .gt (.sub (.var 0) (.lit (.int (2)))) (.lit (.int (1)))) [(.asg (.nm 2) (.bop .Mod (.bi "int" [(.sub (.var 0) (.lit (.int (2))))]) (.var 1))), (.sub (.var 0) (.lit (.int (2))) (.bop .FloorDiv (.sub (.var 0) (.lit (.int (2)))) (.var 1))), (.ret (.mv 2))] []),
  (.sub (.var 0) (.lit (.int (3))) (.bop .Add (.sub (.var 0) (.lit (.int (3)))) (.lit (.int (1))))),
  (.asg (.nm 3) (.lit (.int (0)))),
  (.ifs (.cmp .gt (.bi "len" [(.sub (.var 0) (.lit (.int (1))))]) (.lit (.int (0)))) [(.asg (.nm 3) (.sub (.sub (.var 0) (.lit (.int (1)))) (.bop .Mod (.bi "int" [(.sub (.var 0) (.lit (.int (3))))]) (.bi "len" [(.sub (.var 0) (.lit (.int (1))))]))))] []),
  (.asg (.nm 4) (.bop .Mod (.bi "int" [(.bop .Mult (.bop .Add (.bop .Add (.var 3) (.bop .Mult (.lit (.int (7919))) (.sub (.var 0) (.lit (.int (3)))))) (.lit (.int (1)))) (.lit (.int (48271))))]) (.lit (.int (2147483647))))),
  (.asg (.nm 4) (.bop .Mod (.bi "int" [(.bop .Mult (.var 4) (.bop .Add (.bop .FloorDiv (.var 4) (.lit (.int (1009)))) (.lit (.int (69621)))))]) (.lit (.int (2147483647))))),
  (.asg (.nm 4) (.bop .Mod (.bi "int" [(.bop .Mult (.var 4) (.bop .Add (.bop .FloorDiv (.var 4) (.lit (.int (2003)))) (.lit (.int (40692)))))]) (.lit (.int (2147483399))))),
  (.ret (.bop .Mod (.bi "int" [(.bop .FloorDiv (.var 4) (.lit (.int (16))))]) (.var 1)))]
@[reducible] def V__law_draw (v_pool v_many v_digit v_cell v_number : Rw.Slot := .un) : Rw.Env := [v_pool, v_many, v_digit, v_cell, v_number]
/-- _law_pick: 0=pool 1=things -/
def c__law_pick : Def where
  modes := [.mu, .al]
  ns := 2
  body := [
  (.ret (.sub (.var 1) (.call "_law_draw" [(.var 0), (.bi "len" [(.var 1)])])))]
@[reducible] def V__law_pick (v_pool v_things : Rw.Slot := .un) : Rw.Env := [v_pool, v_things]
def C__law_columns_0 : Ex := (.lc [6] (.nm 6) (.seq (.slc (.lit (.str [45, 97, 98])) none (some (.bop .Add (.var 1) (.lit (.int (1))))))) none (.bop .Add (.var 5) (.tup [(.var 6)])))
def B__law_columns_0 : List Rw.St := [(.ex (.mth "extend" (.var 4) [C__law_columns_0]))]
def S__law_columns_0 : Rw.St := (.fr [true, false, true, true, false, true, false] (.nm 5) (.seq (.var 2)) B__law_columns_0)
def B__law_columns_1 : List Rw.St := [(.asg (.nm 4) (.lst [])), S__law_columns_0, (.asg (.nm 2) (.var 4))]
def S__law_columns_1 : Rw.St := (.fr [true, false, false, true, true, true, false] (.nm 3) (.rng (.var 0)) B__law_columns_1)
/-- _law_columns: 0=rows 1=letters 2=found 3=row 4=later 5=column 6=sign -/
def c__law_columns : Def where
  modes := [.al, .al]
  ns := 7
  body := [
  (.asg (.nm 2) (.lst [(.tup [])])),
  S__law_columns_1,
  (.ret (.mv 2))]
@[reducible] def V__law_columns (v_rows v_letters v_found v_row v_later v_column v_sign : Rw.Slot := .un) : Rw.Env := [v_rows, v_letters, v_found, v_row, v_later, v_column, v_sign]
def B__law_lead_0 : List Rw.St := [(.asg (.nm 3) (.bop .Add (.bop .Mult (.var 3) (.bop .Add (.sub (.var 0) (.lit (.int (1)))) (.lit (.int (1))))) (.mth "find" (.lit (.str [45, 97, 98])) [(.var 4)])))]
def S__law_lead_0 : Rw.St := (.fr [false, false, true, false, true] (.nm 4) (.seq (.var 2)) B__law_lead_0)
/-- _law_lead: 0=spec 1=standing 2=column 3=number 4=sign -/
def c__law_lead : Def where
  modes := [.al, .al, .al]
  ns := 5
  body := [
  (.asg (.nm 3) (.lit (.int (0)))),
  S__law_lead_0,
  (.ret (.ife (.cmp .eq (.var 3) (.lit (.int (0)))) (.var 1) (.sub (.sub (.sub (.sub (.var 0) (.lit (.int (2)))) (.var 1)) (.lit (.int (1)))) (.bop .Sub (.var 3) (.lit (.int (1)))))))]
@[reducible] def V__law_lead (v_spec v_standing v_column v_number v_sign : Rw.Slot := .un) : Rw.Env := [v_spec, v_standing, v_column, v_number, v_sign]
def C__law_column_at_0 : Ex := (.lc [2] (.nm 2) (.seq (.var 0)) none (.ife (.cmp .lt (.var 1) (.bi "len" [(.var 2)])) (.sub (.var 2) (.var 1)) (.lit (.str [45]))))
/-- _law_column_at: 0=words 1=place 2=word -/
def c__law_column_at : Def where
  modes := [.al, .al]
  ns := 3
  body := [
  (.ret (.bi "tuple" [C__law_column_at_0]))]
@[reducible] def V__law_column_at (v_words v_place v_word : Rw.Slot := .un) : Rw.Env := [v_words, v_place, v_word]
def C__law_answer_0 : Ex := (.lc [4] (.nm 4) (.seq (.var 1)) none (.bi "len" [(.var 4)]))
def B__law_answer_0 : List Rw.St := [(.asg (.nm 2) (.call "_law_lead" [(.var 0), (.var 2), (.call "_law_column_at" [(.var 1), (.var 3)])]))]
def S__law_answer_0 : Rw.St := (.fr [false, false, false, true, true] (.nm 3) (.rng (.bi "max" [C__law_answer_0])) B__law_answer_0)
/-- _law_answer: 0=spec 1=words 2=standing 3=place 4=word -/
def c__law_answer : Def where
  modes := [.al, .al]
  ns := 5
  body := [
  (.asg (.nm 2) (.lit (.int (0)))),
  S__law_answer_0,
  (.ret (.sub (.sub (.sub (.var 0) (.lit (.int (2)))) (.var 2)) (.lit (.int (0)))))]
@[reducible] def V__law_answer (v_spec v_words v_standing v_place v_word : Rw.Slot := .un) : Rw.Env := [v_spec, v_words, v_standing, v_place, v_word]
def C__law_by_rows_0 : Ex := (.lc [4] (.nm 4) (.rng (.var 1)) (some (.cmp .eq (.call "_law_draw" [(.var 0), (.lit (.int (2)))]) (.lit (.int (0))))) (.var 4))
def B__law_by_rows_0 : List Rw.St := [(.ifs (.cmp .isin (.sub (.var 10) (.var 4)) (.var 5)) [(.asg (.nm 11) (.bop .Add (.var 11) (.bop .Mult (.sub (.lst [(.lit (.int (1))), (.neg (.lit (.int (1))))]) (.bop .Mod (.bi "int" [(.bop .FloorDiv (.var 11) (.bop .Add (.lit (.int (1))) (.var 12)))]) (.lit (.int (2))))) (.bop .Add (.lit (.int (1))) (.var 12)))))] [])]
def S__law_by_rows_0 : Rw.St := (.fr [false, false, false, false, true, false, true, false, false, false, false, false, true] (.tp [(.nm 12), (.nm 4)]) (.enm (.var 3)) B__law_by_rows_0)
def B__law_by_rows_1 : List Rw.St := [(.asg (.nm 11) (.var 8)), S__law_by_rows_0, (.ex (.mth "append" (.var 9) [(.var 11)]))]
def S__law_by_rows_1 : Rw.St := (.fr [false, false, false, false, true, false, true, false, false, false, true, true, true] (.nm 10) (.seq (.slc (.call "_law_columns" [(.var 1), (.var 2)]) (some (.lit (.int (1)))) none)) B__law_by_rows_1)
def B__law_by_rows_2 : List Rw.St := [(.asg (.nm 9) (.lst [])), S__law_by_rows_1, (.ex (.mth "append" (.var 7) [(.tup [(.cmp .eq (.call "_law_draw" [(.var 0), (.lit (.int (2)))]) (.lit (.int (0)))), (.bi "tuple" [(.var 9)])])]))]
def S__law_by_rows_2 : Rw.St := (.fr [false, false, false, false, true, false, true, false, true, true, true, true, true] (.nm 8) (.rng (.var 6)) B__law_by_rows_2)
/-- _law_by_rows: 0=pool 1=rows 2=letters 3=counted 4=row 5=sign 6=many 7=table 8=standing 9=nexts 10=column 11=later 12=at -/
def c__law_by_rows : Def where
  modes := [.mu, .al, .al]
  ns := 13
  body := [
  (.asg (.nm 3) (.slc C__law_by_rows_0 none (some (.lit (.int (2)))))),
  (.asg (.nm 5) (.call "_law_pick" [(.var 0), (.slc (.lst [(.lit (.str [97])), (.lit (.str [97, 98])), (.lit (.str [98]))]) none (some (.bop .Sub (.bop .Mult (.lit (.int (2))) (.var 2)) (.lit (.int (1))))))])),
  (.asg (.nm 6) (.sub (.lst [(.lit (.int (1))), (.lit (.int (2))), (.lit (.int (4)))]) (.bi "len" [(.var 3)]))),
  (.asg (.nm 7) (.lst [])),
  S__law_by_rows_2,
  (.ret (.mv 7))]
@[reducible] def V__law_by_rows (v_pool v_rows v_letters v_counted v_row v_sign v_many v_table v_standing v_nexts v_column v_later v_at : Rw.Slot := .un) : Rw.Env := [v_pool, v_rows, v_letters, v_counted, v_row, v_sign, v_many, v_table, v_standing, v_nexts, v_column, v_later, v_at]
def B__law_drawn_table_0 : List Rw.St := [(.asg (.nm 11) (.call "_law_draw" [(.var 0), (.var 3)])), (.ex (.mth "append" (.var 9) [(.ife (.band (.var 4) (.cmp .gt (.call "_law_draw" [(.var 0), (.lit (.int (3)))]) (.lit (.int (0))))) (.var 8) (.var 11))]))]
def S__law_drawn_table_0 : Rw.St := (.fr [false, true, true, false, false, false, false, true, false, false, true, true] (.nm 10) (.rng (.var 5)) B__law_drawn_table_0)
def B__law_drawn_table_1 : List Rw.St := [(.asg (.nm 8) (.call "_law_draw" [(.var 0), (.var 3)])), (.asg (.nm 9) (.lst [])), S__law_drawn_table_0, (.ex (.mth "append" (.var 6) [(.tup [(.cmp .eq (.call "_law_draw" [(.var 0), (.lit (.int (2)))]) (.lit (.int (0)))), (.bi "tuple" [(.var 9)])])]))]
def S__law_drawn_table_1 : Rw.St := (.fr [false, true, true, false, false, false, false, true, true, true, true, true] (.nm 7) (.rng (.var 3)) B__law_drawn_table_1)
/-- _law_drawn_table: 0=pool 1=rows 2=letters 3=many 4=plain 5=wide 6=table 7=standing 8=usual 9=nexts 10=column 11=later -/
def c__law_drawn_table : Def where
  modes := [.mu, .al, .al, .al, .al]
  ns := 12
  body := [
  (.asg (.nm 5) (.bop .Sub (.bi "len" [(.call "_law_columns" [(.var 1), (.var 2)])]) (.lit (.int (1))))),
  (.asg (.nm 6) (.lst [])),
  S__law_drawn_table_1,
  (.ret (.mv 6))]
@[reducible] def V__law_drawn_table (v_pool v_rows v_letters v_many v_plain v_wide v_table v_standing v_usual v_nexts v_column v_later : Rw.Slot := .un) : Rw.Env := [v_pool, v_rows, v_letters, v_many, v_plain, v_wide, v_table, v_standing, v_usual, v_nexts, v_column, v_later]
def C__law_first_signs_0 : Ex := (.lc [7] (.nm 7) (.seq (.slc (.call "_law_columns" [(.var 1), (.var 2)]) (some (.lit (.int (1)))) none)) none (.bop .Add (.lit (.int (1))) (.mth "find" (.lit (.str [45, 97, 98])) [(.sub (.var 7) (.var 3))])))
def C__law_first_signs_1 : Ex := (.lc [7] (.nm 7) (.seq (.slc (.call "_law_columns" [(.var 1), (.var 2)]) (some (.lit (.int (1)))) none)) none (.ife (.bor (.cmp .eq (.sub (.var 7) (.var 4)) (.lit (.str [45]))) (.cmp .gt (.var 8) (.lit (.int (0))))) (.bop .Add (.lit (.int (1))) (.var 8)) (.lit (.int (1)))))
def B__law_first_signs_0 : List Rw.St := [(.asg (.nm 9) C__law_first_signs_1), (.ex (.mth "append" (.var 5) [(.tup [(.cmp .eq (.call "_law_draw" [(.var 0), (.lit (.int (2)))]) (.lit (.int (0)))), (.bi "tuple" [(.var 9)])])]))]
def S__law_first_signs_0 : Rw.St := (.fr [false, false, false, true, false, false, true, false, true, true] (.nm 8) (.rng (.bop .Add (.var 2) (.lit (.int (1))))) B__law_first_signs_0)
/-- _law_first_signs: 0=pool 1=rows 2=letters 3=row 4=other 5=table 6=nexts 7=column 8=at 9=stays -/
def c__law_first_signs : Def where
  modes := [.mu, .al, .al]
  ns := 10
  body := [
  (.asg (.tp [(.nm 3), (.nm 4)]) (.tup [(.call "_law_draw" [(.var 0), (.var 1)]), (.call "_law_draw" [(.var 0), (.var 1)])])),
  (.asg (.nm 5) (.lst [])),
  (.asg (.nm 6) C__law_first_signs_0),
  (.ex (.mth "append" (.var 5) [(.tup [(.cmp .eq (.call "_law_draw" [(.var 0), (.lit (.int (2)))]) (.lit (.int (0)))), (.bi "tuple" [(.var 6)])])])),
  S__law_first_signs_0,
  (.ret (.mv 5))]
@[reducible] def V__law_first_signs (v_pool v_rows v_letters v_row v_other v_table v_nexts v_column v_at v_stays : Rw.Slot := .un) : Rw.Env := [v_pool, v_rows, v_letters, v_row, v_other, v_table, v_nexts, v_column, v_at, v_stays]
def B__law_compared_0 : List Rw.St := [(.asg (.nm 8) (.tup [(.sub (.var 7) (.var 3)), (.sub (.var 7) (.var 4))])), (.asg (.nm 9) (.ife (.var 5) (.cmp .ne (.sub (.var 8) (.lit (.int (0)))) (.sub (.var 8) (.lit (.int (1))))) (.cmp .ne (.cmp .eq (.sub (.var 8) (.lit (.int (0)))) (.lit (.str [45]))) (.cmp .eq (.sub (.var 8) (.lit (.int (1)))) (.lit (.str [45])))))), (.ex (.mth "append" (.var 6) [(.bi "int" [(.var 9)])]))]
def S__law_compared_0 : Rw.St := (.fr [false, true, true, false, false, false, false, true, true, true] (.nm 7) (.seq (.slc (.call "_law_columns" [(.var 1), (.var 2)]) (some (.lit (.int (1)))) none)) B__law_compared_0)
/-- _law_compared: 0=pool 1=rows 2=letters 3=one 4=other 5=by_letter 6=nexts 7=column 8=pair 9=unlike -/
def c__law_compared : Def where
  modes := [.mu, .al, .al]
  ns := 10
  body := [
  (.asg (.nm 3) (.call "_law_draw" [(.var 0), (.bop .Sub (.var 1) (.lit (.int (1))))])),
  (.asg (.nm 4) (.bop .Add (.bop .Add (.var 3) (.lit (.int (1)))) (.call "_law_draw" [(.var 0), (.bop .Sub (.bop .Sub (.var 1) (.var 3)) (.lit (.int (1))))]))),
  (.asg (.nm 5) (.cmp .eq (.call "_law_draw" [(.var 0), (.lit (.int (2)))]) (.lit (.int (0))))),
  (.asg (.nm 6) (.lst [])),
  S__law_compared_0,
  (.ret (.lst [(.tup [(.cmp .eq (.call "_law_draw" [(.var 0), (.lit (.int (2)))]) (.lit (.int (0)))), (.bi "tuple" [(.var 6)])]), (.tup [(.cmp .eq (.call "_law_draw" [(.var 0), (.lit (.int (2)))]) (.lit (.int (0)))), (.bop .Mult (.tup [(.lit (.int (1)))]) (.bi "len" [(.var 6)]))])]))]
@[reducible] def V__law_compared (v_pool v_rows v_letters v_one v_other v_by_letter v_nexts v_column v_pair v_unlike : Rw.Slot := .un) : Rw.Env := [v_pool, v_rows, v_letters, v_one, v_other, v_by_letter, v_nexts, v_column, v_pair, v_unlike]
/-- _law_spec: 0=pool 1=most_rows 2=rows 3=letters 4=kind 5=table -/
def c__law_spec : Def where
  modes := [.mu, .al]
  ns := 6
  body := [
  (.asg (.nm 2) (.call "_law_pick" [(.var 0), (.lst [(.lit (.int (2))), (.lit (.int (2))), (.lit (.int (2))), (.var 1)])])),
  (.asg (.nm 3) (.ife (.cmp .gt (.var 2) (.lit (.int (3)))) (.lit (.int (1))) (.call "_law_pick" [(.var 0), (.lst [(.lit (.int (1))), (.lit (.int (1))), (.lit (.int (2)))])]))),
  (.asg (.nm 4) (.call "_law_draw" [(.var 0), (.lit (.int (8)))])),
  (.ifs (.cmp .lt (.var 4) (.lit (.int (2)))) [(.asg (.nm 5) (.call "_law_drawn_table" [(.var 0), (.var 2), (.var 3), (.bop .Add (.lit (.int (1))) (.call "_law_draw" [(.var 0), (.lit (.int (4)))])), (.cmp .eq (.var 4) (.lit (.int (0))))]))] [(.ifs (.cmp .lt (.var 4) (.lit (.int (5)))) [(.asg (.nm 5) (.call "_law_by_rows" [(.var 0), (.var 2), (.var 3)]))] [(.ifs (.cmp .lt (.var 4) (.lit (.int (7)))) [(.asg (.nm 5) (.call "_law_first_signs" [(.var 0), (.var 2), (.var 3)]))] [(.asg (.nm 5) (.call "_law_compared" [(.var 0), (.var 2), (.var 3)]))])])]),
  (.ret (.tup [(.mv 2), (.mv 3), (.bi "tuple" [(.var 5)])]))]
@[reducible] def V__law_spec (v_pool v_most_rows v_rows v_letters v_kind v_table : Rw.Slot := .un) : Rw.Env := [v_pool, v_most_rows, v_rows, v_letters, v_kind, v_table]
/-- _law_question: 0=spec -/
def c__law_question : Def where
  modes := [.al]
  ns := 1
  body := [
  (.ret (.mk "Question" "Question.__init__" [(.sub (.var 0) (.lit (.int (0)))), (.sub (.var 0) (.lit (.int (1)))), (.sub (.var 0) (.lit (.int (2))))]))]
@[reducible] def V__law_question (v_spec : Rw.Slot := .un) : Rw.Env := [v_spec]
def C__law_drawn_words_0 : Ex := (.lc [6] (.nm 6) (.rng (.call "_law_draw" [(.var 0), (.bop .Add (.var 3) (.lit (.int (1))))])) none (.sub (.lit (.str [97, 98])) (.call "_law_draw" [(.var 0), (.var 2)])))
def B__law_drawn_words_0 : List Rw.St := [(.ex (.mth "append" (.var 4) [(.mth "join" (.lit (.str [])) [C__law_drawn_words_0])]))]
def S__law_drawn_words_0 : Rw.St := (.fr [false, true, false, false, false, true, true] (.nm 5) (.rng (.var 1)) B__law_drawn_words_0)
/-- _law_drawn_words: 0=pool 1=rows 2=letters 3=most 4=found 5=row 6=place -/
def c__law_drawn_words : Def where
  modes := [.mu, .al, .al, .al]
  ns := 7
  body := [
  (.asg (.nm 4) (.lst [])),
  S__law_drawn_words_0,
  (.ret (.bi "tuple" [(.var 4)]))]
@[reducible] def V__law_drawn_words (v_pool v_rows v_letters v_most v_found v_row v_place : Rw.Slot := .un) : Rw.Env := [v_pool, v_rows, v_letters, v_most, v_found, v_row, v_place]
def C_law_0 : Ex := (.lc [7] (.nm 7) (.rng (.sub (.var 3) (.lit (.int (0))))) none (.sub (.var 6) (.lit (.int (0)))))
def B_law_0 : List Rw.St := [(.asg (.nm 6) (.call "_law_drawn_words" [(.var 1), (.sub (.var 3) (.lit (.int (0)))), (.sub (.var 3) (.lit (.int (1)))), (.call "_law_pick" [(.var 1), (.lst [(.lit (.int (1))), (.lit (.int (2))), (.lit (.int (3))), (.lit (.int (6))), (.lit (.int (6)))])])])), (.ifs (.cmp .eq (.call "_law_draw" [(.var 1), (.lit (.int (20)))]) (.lit (.int (0)))) [(.asg (.nm 6) (.call "_law_drawn_words" [(.var 1), (.sub (.var 3) (.lit (.int (0)))), (.sub (.var 3) (.lit (.int (1)))), (.lit (.int (60)))]))] []), (.ifs (.cmp .eq (.call "_law_draw" [(.var 1), (.lit (.int (5)))]) (.lit (.int (0)))) [(.asg (.nm 6) (.bi "tuple" [C_law_0]))] []), (.asg (.nm 8) (.call "answer" [(.var 4), (.var 6)])), (.ifs (.bor (.bnot (.isi (.var 8) "bool")) (.bor (.cmp .ne (.var 8) (.call "_law_answer" [(.var 3), (.var 6)])) (.cmp .ne (.call "answer" [(.var 4), (.var 6)]) (.var 8)))) [(.ret (.lit (.bl false)))] [])]
def S_law_0 : Rw.St := (.fr [true, false, true, false, false, true, true, true, true] (.nm 5) (.rng (.lit (.int (10)))) B_law_0)
def B_law_1 : List Rw.St := [(.asg (.nm 3) (.call "_law_spec" [(.var 1), (.lit (.int (4)))])), (.asg (.nm 4) (.call "_law_question" [(.var 3)])), (.ifs (.cmp .ne (.call "answer" [(.var 4), (.bop .Mult (.tup [(.lit (.str []))]) (.sub (.var 3) (.lit (.int (0)))))]) (.sub (.sub (.sub (.var 3) (.lit (.int (2)))) (.lit (.int (0)))) (.lit (.int (0))))) [(.ret (.lit (.bl false)))] []), S_law_0]
def S_law_1 : Rw.St := (.fr [true, false, true, true, true, true, true, true, true] (.nm 2) (.rng (.lit (.int (4)))) B_law_1)
/-- law: 0=script 1=pool 2=turn 3=spec 4=question 5=again 6=words 7=row 8=told -/
def c_law : Def where
  modes := [.al]
  ns := 9
  body := [
  (.asg (.nm 1) (.call "_law_pool" [(.var 0)])),
  S_law_1,
  (.ret (.lit (.bl true)))]
@[reducible] def V_law (v_script v_pool v_turn v_spec v_question v_again v_words v_row v_told : Rw.Slot := .un) : Rw.Env := [v_script, v_pool, v_turn, v_spec, v_question, v_again, v_words, v_row, v_told]
def C_Question___init___0 : Ex := (.lc [5] (.nm 5) (.seq (.var 3)) none (.call "is_standing" [(.var 5), (.bi "len" [(.var 3)]), (.var 4)]))
/-- Question.__init__: 0=self 1=rows 2=letters 3=table 4=wide 5=item -/
def c_Question___init__ : Def where
  modes := [.mu, .al, .al, .al]
  ns := 6
  body := [
  (.ifs (.bnot (.call "is_within" [(.var 1), (.lit (.int (2))), (.lit (.int (4)))])) [.dead] []),
  (.ifs (.bnot (.call "is_within" [(.var 2), (.lit (.int (1))), (.lit (.int (2)))])) [.dead] []),
  (.ifs (.bor (.bnot (.isi (.var 3) "tuple")) (.bnot (.cmp2 .le .le (.lit (.int (1))) (.bi "len" [(.var 3)]) (.lit (.int (8)))))) [.dead] []),
  (.asg (.nm 4) (.bi "len" [(.call "readings" [(.var 1), (.var 2)])])),
  (.ifs (.bnot (.bi "all" [C_Question___init___0])) [.dead] []),
  (.sfld (.var 0) "rows" (.var 1)),
  (.sfld (.var 0) "letters" (.var 2)),
  (.sfld (.var 0) "table" (.var 3)),
  (.sfld (.var 0) "kept" .dctN)]
@[reducible] def V_Question___init__ (v_self v_rows v_letters v_table v_wide v_item : Rw.Slot := .un) : Rw.Env := [v_self, v_rows, v_letters, v_table, v_wide, v_item]
def defs : List (Str × Def) := [
  (("is_integer" : Str), c_is_integer),
  (("is_within" : Str), c_is_within),
  (("is_pair" : Str), c_is_pair),
  (("is_string_of" : Str), c_is_string_of),
  (("is_letters" : Str), c_is_letters),
  (("columns" : Str), c_columns),
  (("readings" : Str), c_readings),
  (("is_standing" : Str), c_is_standing),
  (("numbers_of" : Str), c_numbers_of),
  (("read" : Str), c_read),
  (("column_at" : Str), c_column_at),
  (("longest" : Str), c_longest),
  (("are_words" : Str), c_are_words),
  (("check_words" : Str), c_check_words),
  (("standing_with" : Str), c_standing_with),
  (("answer_to" : Str), c_answer_to),
  (("answer" : Str), c_answer),
  (("_law_pool" : Str), c__law_pool),
  (("_law_draw" : Str), c__law_draw),
  (("_law_pick" : Str), c__law_pick),
  (("_law_columns" : Str), c__law_columns),
  (("_law_lead" : Str), c__law_lead),
  (("_law_column_at" : Str), c__law_column_at),
  (("_law_answer" : Str), c__law_answer),
  (("_law_by_rows" : Str), c__law_by_rows),
  (("_law_drawn_table" : Str), c__law_drawn_table),
  (("_law_first_signs" : Str), c__law_first_signs),
  (("_law_compared" : Str), c__law_compared),
  (("_law_spec" : Str), c__law_spec),
  (("_law_question" : Str), c__law_question),
  (("_law_drawn_words" : Str), c__law_drawn_words),
  (("law" : Str), c_law),
  (("Question.__init__" : Str), c_Question___init__)]
def tab : Tab := fun f => defs.lookup f
theorem t_is_integer : tab "is_integer" = some c_is_integer := by kernel_rfl
theorem t_is_within : tab "is_within" = some c_is_within := by kernel_rfl
theorem t_is_pair : tab "is_pair" = some c_is_pair := by kernel_rfl
theorem t_is_string_of : tab "is_string_of" = some c_is_string_of := by kernel_rfl
theorem t_is_letters : tab "is_letters" = some c_is_letters := by kernel_rfl
theorem t_columns : tab "columns" = some c_columns := by kernel_rfl
theorem t_readings : tab "readings" = some c_readings := by kernel_rfl
theorem t_is_standing : tab "is_standing" = some c_is_standing := by kernel_rfl
theorem t_numbers_of : tab "numbers_of" = some c_numbers_of := by kernel_rfl
theorem t_read : tab "read" = some c_read := by kernel_rfl
theorem t_column_at : tab "column_at" = some c_column_at := by kernel_rfl
theorem t_longest : tab "longest" = some c_longest := by kernel_rfl
theorem t_are_words : tab "are_words" = some c_are_words := by kernel_rfl
theorem t_check_words : tab "check_words" = some c_check_words := by kernel_rfl
theorem t_standing_with : tab "standing_with" = some c_standing_with := by kernel_rfl
theorem t_answer_to : tab "answer_to" = some c_answer_to := by kernel_rfl
theorem t_answer : tab "answer" = some c_answer := by kernel_rfl
theorem t__law_pool : tab "_law_pool" = some c__law_pool := by kernel_rfl
theorem t__law_draw : tab "_law_draw" = some c__law_draw := by kernel_rfl
theorem t__law_pick : tab "_law_pick" = some c__law_pick := by kernel_rfl
theorem t__law_columns : tab "_law_columns" = some c__law_columns := by kernel_rfl
theorem t__law_lead : tab "_law_lead" = some c__law_lead := by kernel_rfl
theorem t__law_column_at : tab "_law_column_at" = some c__law_column_at := by kernel_rfl
theorem t__law_answer : tab "_law_answer" = some c__law_answer := by kernel_rfl
theorem t__law_by_rows : tab "_law_by_rows" = some c__law_by_rows := by kernel_rfl
theorem t__law_drawn_table : tab "_law_drawn_table" = some c__law_drawn_table := by kernel_rfl
theorem t__law_first_signs : tab "_law_first_signs" = some c__law_first_signs := by kernel_rfl
theorem t__law_compared : tab "_law_compared" = some c__law_compared := by kernel_rfl
theorem t__law_spec : tab "_law_spec" = some c__law_spec := by kernel_rfl
theorem t__law_question : tab "_law_question" = some c__law_question := by kernel_rfl
theorem t__law_drawn_words : tab "_law_drawn_words" = some c__law_drawn_words := by kernel_rfl
theorem t_law : tab "law" = some c_law := by kernel_rfl
theorem t_Question___init__ : tab "Question.__init__" = some c_Question___init__ := by kernel_rfl
end Kk75

set_option Elab.async false
set_option linter.all false
set_option maxRecDepth 100000
/-! k75: what is drawn. -/
namespace Kk75
open PySem Rw
local macro_rules
  | `(tactic| trivial) => `(tactic| simp [callD, freeze, freezeL, freezeP, isFrP, calm_ok, z_pt, al_pt0, lock, unlock, backE, wipeE, killE, Slot.kl, Out.mp, pureE, pureEs, pureO, pureI, mv_popi, mv_append, mv_pop, ty_pop, ty_append, ty_join, mut_pop, mut_join, mut_append, isStrD, initE, musOf, evSs, evEs, evO, evI, evC, tst, getP, getAt, setP, setAt,
    isFr, isFrL, aliases, alPass, argV, callR, muPl, bwRoots, okPts, shrs, as_nm, as_tp, as_0, as_1, cons_, ff_run, ff_modes, bi_len, bi_int, bi_abs, bi_sum,
    fr_ap, lc_ap, wc_ap, wb_ap, e_asg, e_sub, e_ret, e_retN, e_ifs, e_whl, e_fr, e_ex, e_rse, e_try, e_brk, e_cont, e_pass, e_lc,
    x_var, x_mv, x_lit, x_dct0, x_bop, x_neg, x_cmp, x_cmp2, x_band, x_bor, x_bnot, x_ife, x_tup, x_lst, x_sub, x_slc, x_call, x_bi, x_isi, x_mth,
    b_ok, b_exc, o_ok, o_exc, th_nx, th_rt, th_bk, th_ct, th_exc, c_fz, c_ow, c_pt, al_fz, al_ow, v_fz, v_ow, z_fz, z_ow,
    k_fz, k_ow, k_pt0, k_pt, ko_fz, ko_ow, ko_pt0, ko_pt, n_fz, n_ow, n_pt0, n_pt, p_un, p_fz, p_ow, p_bw, p_mw, sc_fz, sc_ow, sc_bw, sc_mw,
    s_fz, s_ow, s_pt, pd_non, pd_bl, pd_int, pd_str, pd_lst, pd_tup, so_t, so_non, so_bl, so_int, so_str, so_lst, so_tup, tr_bl, tr_non, tr_int,
    f_nx, f_rt, f_exc, ad_pt, ad_fz, ad_ow, cm_eq, cm_ne, cm_lt, cm_le, cm_gt, cm_ge, cm_in, cm_ni, cm_isb, cm_isnb, cm_isn, cm_isnn, is_in, eo_ss, eo_ii, eo_bb, ed_ss, ed_ii, ed_bb,
    bp_ai, bp_si, bp_mi, bp_fi, bp_ri, bp_pi, bp_as, bp_ms, bp_al, bp_at, ln_str, ln_tup, ln_lst, iv_lst, iv_tup, iv_str, is_lst,
    sl_str, sl_lst, sl_tup, sl_scr, it_str, it_lst, it_tup, ipt_fz, ipt_ow, ipt_pt, lk_n, ul_n, st_str, st_lst, st_tup,
    x_dctN, x_dget, i_enm, x_fld, x_mk, x_mcall, e_sfld, ff_flds, pd_obj, so_obj, pd_dct, so_dct, cx_ok, cx_exc, bi2_max, bi2_min, bi2_sorted, mut_find, ty_find, mt_find', mut_extend, ty_extend, mv_extend, bp_mt, iv_dct, in_dct, e_aug, av_int, av_str, isFrF, freezeF, putF, List.lookup_cons,
    u1_lst, u1_tup, u1_str, fl_int, fl_bl, fl_str, uo_nx, uo_rt, uo_exc, oo_s, ixN_0, line_s, line_t, *])
abbrev rn (sub : Str → Str → Option Bool) (N k : Nat) (f : Str) (ds : List D) : FRes := run tab fl sub N k f ds
def pl (gs ss : List Int) (p q : Int) : D := .lst true [.lst true (gs.map .int), .lst true (ss.map .int), .int p, .int q]
def PlOk (d : D) : Prop := ∃ gs ss p q, d = pl gs ss p q ∧ ∀ g ∈ gs, 1 < g
theorem pl_opd {p : D} (h : PlOk p) : opd p = .ow p := by obtain ⟨gs, ss, t, s, rfl, _⟩ := h; rfl
theorem pl_slot {p : D} (h : PlOk p) : slotOf false p = .ow p := by obtain ⟨gs, ss, t, s, rfl, _⟩ := h; rfl
section
variable {sub : Str → Str → Option Bool} (N k : Nat)
theorem cut_one {α : Type} {x : α} {xs : List α} : cut (x :: xs) (some 1) none = xs := by
  unfold cut sIx
  dsimp only
  rw [if_neg (by omega)]
  simp
theorem draw_p {gs ss : List Int} {p q m : Int} (h1 : 0 < m) (h2 : m < 1073741824) (hp : 1 < p) :
    rn sub N (k + 1) "_law_draw" [pl gs ss p q, .int m] = .rt (.int (p % m)) [pl gs ss (p / m) q] := by
  unfold rn
  rw [run_u t__law_draw, c__law_draw]
  have e0 : ixN 4 0 = some 0 := rfl
  have e2 : ixN 4 2 = some 2 := rfl
  have n1 : ¬ p ≤ 1 := by omega
  unfold pl
  generalize fl = fl' at *
  trivial
theorem draw_g {g : Int} {gs ss : List Int} {p q m : Int} (h1 : 0 < m) (h2 : m < 1073741824) (hp : p ≤ 1) (hg : 1 < g) :
    rn sub N (k + 1) "_law_draw" [pl (g :: gs) ss p q, .int m] = .rt (.int (g % m)) [pl gs ss (g / m) q] := by
  unfold rn
  rw [run_u t__law_draw, c__law_draw]
  have e0 : ixN 4 0 = some 0 := rfl
  have e2 : ixN 4 2 = some 2 := rfl
  have e3 : ixN (gs.length + 1) 0 = some 0 := ixN_0
  have e4 := fun x => cut_one (x := x) (xs := gs.map D.int)
  have e5 : (0 : Int) < (gs.length : Int) + 1 := by omega
  have e6 := frL_ints gs
  unfold pl
  generalize fl = fl' at *
  trivial
theorem draw_s {ss : List Int} {p q m : Int} (h0 : ss ≠ []) (h1 : 0 < m) (h2 : m < 1073741824) (hp : p ≤ 1) :
    ∃ n, rn sub N (k + 1) "_law_draw" [pl [] ss p q, .int m] = .rt (.int (n % m)) [pl [] ss p (q + 1)] := by
  unfold rn
  have hl : 0 < ss.length := List.length_pos_iff.mpr h0
  have r1 := Int.emod_nonneg (q + 1) (show (ss.length : Int) ≠ 0 by omega)
  have r2 := Int.emod_lt_of_pos (q + 1) (show (0 : Int) < ss.length by omega)
  obtain ⟨j, hj⟩ := Int.eq_ofNat_of_zero_le r1
  have hj2 : j < ss.length := by omega
  have e5 : ixN ss.length (j : Int) = some j := by rw [ixN_nat, if_pos hj2]
  have e6 : ss[j]? = some ss[j] := List.getElem?_eq_getElem hj2
  have s1 := fun x => small_mod (m := 2147483647) (by omega) (by omega) x
  have s2 := fun x => small_mod (m := 2147483647) (by omega) (by omega) x
  have s3 : small 7919 = true := by decide
  have s6 : small 48271 = true := by decide
  have e0 : ixN 4 0 = some 0 := rfl
  have e1 : ixN 4 1 = some 1 := rfl
  have e2 : ixN 4 2 = some 2 := rfl
  have e3 : ixN 4 3 = some 3 := rfl
  have e7 := frL_ints ss
  have n1 : ¬ 1 < p := by omega
  have hl' : (0 : Int) < (ss.length : Int) := by omega
  rw [run_u t__law_draw, c__law_draw]
  unfold pl
  generalize fl = fl' at *
  refine ⟨?_, ?_⟩
  rotate_left
  · trivial
    rfl
theorem draw_0 {p q m : Int} (h1 : 0 < m) (h2 : m < 1073741824) (hp : p ≤ 1) :
    ∃ n, rn sub N (k + 1) "_law_draw" [pl [] [] p q, .int m] = .rt (.int (n % m)) [pl [] [] p (q + 1)] := by
  unfold rn
  have s1 := fun x => small_mod (m := 2147483647) (by omega) (by omega) x
  have s3 : small 7919 = true := by decide
  have s6 : small 48271 = true := by decide
  have e0 : ixN 4 0 = some 0 := rfl
  have e1 : ixN 4 1 = some 1 := rfl
  have e2 : ixN 4 2 = some 2 := rfl
  have e3 : ixN 4 3 = some 3 := rfl
  have n1 : ¬ 1 < p := by omega
  rw [run_u t__law_draw, c__law_draw]
  unfold pl
  generalize fl = fl' at *
  refine ⟨?_, ?_⟩
  rotate_left
  · trivial
    rfl
theorem r_draw {p : D} {m : Int} (hp : PlOk p) (h1 : 0 < m) (h2 : m < 1073741824) : ∃ n p', rn sub N (k + 1) "_law_draw" [p, .int m] = .rt (.int n) [p'] ∧ 0 ≤ n ∧ n < m ∧ PlOk p' := by
  obtain ⟨gs, ss, p, q, rfl, hg⟩ := hp
  have b1 := fun x : Int => Int.emod_nonneg x (show m ≠ 0 by omega)
  have b2 := fun x : Int => Int.emod_lt_of_pos x h1
  by_cases c : 1 < p
  · exact ⟨_, _, draw_p N k h1 h2 c, b1 _, b2 _, _, _, _, _, rfl, hg⟩
  · cases gs with
    | cons g gs => exact ⟨_, _, draw_g N k h1 h2 (by omega) (hg g List.mem_cons_self), b1 _, b2 _, _, _, _, _, rfl, fun x hx => hg x (List.mem_cons_of_mem _ hx)⟩
    | nil =>
      by_cases hs : ss = []
      · subst hs
        obtain ⟨n, hn⟩ := draw_0 (sub := sub) N k (p := p) (q := q) h1 h2 (by omega)
        exact ⟨_, _, hn, b1 _, b2 _, _, _, _, _, rfl, hg⟩
      · obtain ⟨n, hn⟩ := draw_s (sub := sub) N k (p := p) (q := q) hs h1 h2 (by omega)
        exact ⟨_, _, hn, b1 _, b2 _, _, _, _, _, rfl, hg⟩
theorem r_pick {p : D} {o : Bool} {xs : List D} (hp : PlOk p) (h0 : xs ≠ []) (h1 : xs.length < 1000) : ∃ x p', rn sub N (k + 2) "_law_pick" [p, .lst o xs] = .rt x [p'] ∧ x ∈ xs ∧ PlOk p' := by
  have hl : 0 < xs.length := List.length_pos_iff.mpr h0
  obtain ⟨n, p', d1, d2, d3, d4⟩ := r_draw (sub := sub) N k hp (m := xs.length) (by omega) (by omega)
  obtain ⟨j, rfl⟩ := Int.eq_ofNat_of_zero_le d2
  have hj : j < xs.length := by omega
  have e1 : ixN xs.length (j : Int) = some j := by rw [ixN_nat, if_pos hj]
  obtain ⟨x, e2, hx⟩ : ∃ x, xs[j]? = some x ∧ x ∈ xs := ⟨xs[j], List.getElem?_eq_getElem hj, List.getElem_mem _⟩
  refine ⟨x, p', ?_, hx, d4⟩
  unfold rn at *
  rw [run_u t__law_pick, c__law_pick]
  have m1 : c__law_draw.modes = [.mu, .al] := rfl
  have t1 := t__law_draw
  clear hj d3
  generalize fl = fl' at *
  trivial
theorem r_pool (ns : List Int) (hn : ns.length ≤ 63) : ∃ p, rn sub N (k + 1) "_law_pool" [.scr ns] = .rt p [] ∧ PlOk p := by
  have hc : cut ns none (some 63) = ns := by
    have e : sIx ns.length ns.length (some 63) = ns.length := by
      unfold sIx
      dsimp only
      rw [if_neg (by omega)]
      exact Nat.min_eq_right hn
    unfold cut
    rw [e]
    simp [sIx]
  have hl : ns.length ≤ 16777216 := by omega
  have s10 : small 10 = true := by decide
  have fr1 := frL_ints ns
  have fz1 := frzL_ints ns
  obtain ⟨ρ2, a2, b2⟩ := lc_ints (F := FFn tab fl sub N k) (bz := false) (c := some (.cmp .ge (.bi "abs" [(.var 2)]) (.bop .Pow (.lit (.int (10))) (.lit (.int (18)))))) (e := .bi "abs" [(.var 2)])
    (ρ0 := [.fz (.scr ns), .un, .un, .un]) (fun i => if bigI i then some (absI i) else none) ns hl rfl (fun i _ => by
      refine ⟨[.fz (.scr ns), .un, .fz (.int i), .un], ?_, rfl⟩
      unfold bigI absI
      generalize fl = fl' at *
      trivial
      by_cases h : 1000000000000000000 ≤ (if i < 0 then -i else i)
      · rw [if_pos h, if_pos h]
      · rw [if_neg h, if_neg h])
  obtain ⟨ρ3, a3, b3⟩ := lc_ints (F := FFn tab fl sub N k) (bz := false) (c := some (.cmp .lt (.bi "abs" [(.var 2)]) (.bop .Pow (.lit (.int (10))) (.lit (.int (18)))))) (e := .bop .Mod (.bi "int" [(.var 2)]) (.lit (.int (1000003))))
    (ρ0 := [.fz (.scr ns), .ow (.lst true ((ns.filterMap fun i => if bigI i then some (absI i) else none).map .int)), .un, .un]) (fun i => if bigI i then none else some (i % 1000003)) ns hl rfl (fun i _ => by
      refine ⟨[.fz (.scr ns), .ow (.lst true ((ns.filterMap fun i => if bigI i then some (absI i) else none).map .int)), .fz (.int i), .un], ?_, rfl⟩
      unfold bigI
      generalize fl = fl' at *
      trivial
      by_cases h : (if i < 0 then -i else i) < 1000000000000000000
      · rw [if_pos h, if_neg (by omega)]; rfl
      · rw [if_neg h, if_pos (by omega)]; rfl)
  have gn : ∀ g ∈ (ns.filterMap fun i => if bigI i then some (absI i) else none), 1 < g := by
    intro g hg
    obtain ⟨i, _, hi⟩ := List.mem_filterMap.mp hg
    split at hi
    · rename_i hb
      cases hi
      unfold bigI at hb
      unfold absI
      have := of_decide_eq_true hb
      omega
    · cases hi
  generalize (ns.filterMap fun i => if bigI i then some (absI i) else none) = gs at *
  generalize (ns.filterMap fun i => if bigI i then none else some (i % 1000003)) = ss at *
  refine ⟨pl gs ss 0 0, ?_, gs, _, _, _, rfl, gn⟩
  unfold rn
  rw [run_u t__law_pool, c__law_pool, C__law_pool_0, C__law_pool_1]
  unfold pl
  generalize fl = fl' at *
  trivial
end
end Kk75

set_option Elab.async false
set_option linter.all false
set_option maxRecDepth 100000
/-! k75: questions made. -/
namespace Kk75
open PySem Rw
local macro_rules
  | `(tactic| trivial) => `(tactic| simp [callD, freeze, freezeL, freezeP, isFrP, calm_ok, z_pt, al_pt0, lock, unlock, backE, wipeE, killE, Slot.kl, Out.mp, pureE, pureEs, pureO, pureI, mv_popi, mv_append, mv_pop, ty_pop, ty_append, ty_join, mut_pop, mut_join, mut_append, isStrD, initE, musOf, evSs, evEs, evO, evI, evC, tst, getP, getAt, setP, setAt,
    isFr, isFrL, aliases, alPass, argV, callR, muPl, bwRoots, okPts, shrs, as_nm, as_tp, as_0, as_1, cons_, ff_run, ff_modes, bi_len, bi_int, bi_abs, bi_sum,
    fr_ap, lc_ap, wc_ap, wb_ap, e_asg, e_sub, e_ret, e_retN, e_ifs, e_whl, e_fr, e_ex, e_rse, e_try, e_brk, e_cont, e_pass, e_lc,
    x_var, x_mv, x_lit, x_dct0, x_bop, x_neg, x_cmp, x_cmp2, x_band, x_bor, x_bnot, x_ife, x_tup, x_lst, x_sub, x_slc, x_call, x_bi, x_isi, x_mth,
    b_ok, b_exc, o_ok, o_exc, th_nx, th_rt, th_bk, th_ct, th_exc, c_fz, c_ow, c_pt, al_fz, al_ow, v_fz, v_ow, z_fz, z_ow,
    k_fz, k_ow, k_pt0, k_pt, ko_fz, ko_ow, ko_pt0, ko_pt, n_fz, n_ow, n_pt0, n_pt, p_un, p_fz, p_ow, p_bw, p_mw, sc_fz, sc_ow, sc_bw, sc_mw,
    s_fz, s_ow, s_pt, pd_non, pd_bl, pd_int, pd_str, pd_lst, pd_tup, so_t, so_non, so_bl, so_int, so_str, so_lst, so_tup, tr_bl, tr_non, tr_int,
    f_nx, f_rt, f_exc, ad_pt, ad_fz, ad_ow, cm_eq, cm_ne, cm_lt, cm_le, cm_gt, cm_ge, cm_in, cm_ni, cm_isb, cm_isnb, cm_isn, cm_isnn, is_in, eo_ss, eo_ii, eo_bb, ed_ss, ed_ii, ed_bb,
    bp_ai, bp_si, bp_mi, bp_fi, bp_ri, bp_pi, bp_as, bp_ms, bp_al, bp_at, ln_str, ln_tup, ln_lst, iv_lst, iv_tup, iv_str, is_lst,
    sl_str, sl_lst, sl_tup, sl_scr, it_str, it_lst, it_tup, ipt_fz, ipt_ow, ipt_pt, lk_n, ul_n, st_str, st_lst, st_tup,
    x_dctN, x_dget, i_enm, x_fld, x_mk, x_mcall, e_sfld, ff_flds, pd_obj, so_obj, pd_dct, so_dct, cx_ok, cx_exc, bi2_max, bi2_min, bi2_sorted, mut_find, ty_find, mt_find', mut_extend, ty_extend, mv_extend, bp_mt, iv_dct, in_dct, e_aug, av_int, av_str, isFrF, freezeF, putF, List.lookup_cons,
    u1_lst, u1_tup, u1_str, fl_int, fl_bl, fl_str, uo_nx, uo_rt, uo_exc, oo_s, ixN_0, line_s, line_t, *])
section
variable {sub : Str → Str → Option Bool} (N k : Nat)
theorem r_columns {r l : Nat} (d : Dom r l) : rn sub N (k + 1) "columns" [.int r, .int l] = .rt (.lst true ((cl (sgn l) r).map colD)) [] := by
  rcases d with ⟨rfl, rfl⟩ | ⟨rfl, rfl⟩ | ⟨rfl, rfl⟩ <;> kernel_rfl
theorem r_readings {r l : Nat} (d : Dom r l) : rn sub N (k + 2) "readings" [.int r, .int l] = .rt (.lst true ((rds r l).map colD)) [] := by
  rcases d with ⟨rfl, rfl⟩ | ⟨rfl, rfl⟩ | ⟨rfl, rfl⟩ <;> kernel_rfl
theorem r_law_columns {r l : Nat} (d : Dom r l) : rn sub N (k + 1) "_law_columns" [.int r, .int l] = .rt (.lst false ((cl (sgn l) r).map colD)) [] := by
  rcases d with ⟨rfl, rfl⟩ | ⟨rfl, rfl⟩ | ⟨rfl, rfl⟩ <;> kernel_rfl
theorem r_nums0 {r l : Nat} (d : Dom r l) (T : D) : rn sub N (k + 3) "numbers_of" [qD r l T []] = .rt (.dct false (numsL r l)) [qD r l T (numK r l)] := by
  rcases d with ⟨rfl, rfl⟩ | ⟨rfl, rfl⟩ | ⟨rfl, rfl⟩ <;> kernel_rfl
theorem r_nums1 {r l : Nat} (d : Dom r l) (T : D) : rn sub N (k + 3) "numbers_of" [qD r l T (numK r l)] = .rt (.dct false (numsL r l)) [qD r l T (numK r l)] := by
  rcases d with ⟨rfl, rfl⟩ | ⟨rfl, rfl⟩ | ⟨rfl, rfl⟩ <;> kernel_rfl
theorem r_within {x a b : Int} : rn sub N (k + 2) "is_within" [.int x, .int a, .int b] = .rt (.bl (decide (a ≤ x) && decide (x ≤ b))) [] := by
  have h1 : run tab fl sub N (k + 1) "is_integer" [.int x] = .rt (.bl true) [] := Rw.r_is_integer (fl := fl) (sub := sub) N k t_is_integer (d := .int x) rfl rfl
  have m1 : c_is_integer.modes = [.al] := rfl
  have t1 := t_is_integer
  unfold rn
  rw [run_u t_is_within, c_is_within]
  generalize fl = fl' at *
  by_cases c : a ≤ x
  · trivial
  · trivial
/-- a comprehension whose items are all True -/
theorem lc_true {F : Fn} {t : Tg} {bz : Bool} {e : Ex} {own : List Nat} {ρ0 : Rw.Env} (xs : List D) (hl : xs.length ≤ line) (hw : wipeE ρ0 own = ρ0) (h : ∀ x ∈ xs, ∃ ρ', lcB F t bz none e x ρ0 = .ok (some (.bl true)) ρ' ∧ wipeE ρ' own = ρ0) :
    ∃ ρ', lcL (lcB F t bz none e) own xs [] ρ0 = .ok (List.replicate xs.length (.bl true)) ρ' ∧ wipeE ρ' own = ρ0 := by
  obtain ⟨ρ', e1, e2⟩ := lcL_pure (f := lcB F t bz none e) (own := own) (ρ0 := ρ0) (fun _ => some (.bl true)) xs [] ρ0 hw (by simpa using hl) h
  refine ⟨ρ', ?_, e2⟩
  rw [e1]
  congr 1
  rw [List.nil_append]
  clear h e1 hl
  induction xs with
  | nil => rfl
  | cons x xs ih => rw [List.filterMap_cons, ih]; rfl
theorem bls_true : ∀ n, blsOf (List.replicate n (.bl true)) = some (List.replicate n true)
  | 0 => rfl
  | n + 1 => by rw [List.replicate_succ, blsOf, bls_true n]; rfl
theorem all_true {o : Bool} {n : Nat} : biV "all" [.lst o (List.replicate n (.bl true))] = some (.bl true) := by
  rw [bi_all]
  show (blsOf (List.replicate n (.bl true))).map _ = _
  rw [bls_true]
  show some (D.bl ((List.replicate n true).all id)) = _
  congr 2
  simp
theorem frL_true (n : Nat) : isFrL (List.replicate n (.bl true)) = true := by
  induction n with
  | zero => rfl
  | succ n ih => rw [List.replicate_succ, isFrL, ih]; rfl
theorem r_standing {s : Bool × List Int} {m w : Int} (hw : (s.2.length : Int) = w) (hl : s.2.length ≤ 1000) (hb : ∀ x ∈ s.2, 0 ≤ x ∧ x < m) : rn sub N (k + 3) "is_standing" [stD s, .int m, .int w] = .rt (.bl true) [] := by
  have h1 : run tab fl sub N (k + 1 + 1) "is_pair" [stD s] = .rt (.bl true) [] := Rw.r_is_pair (fl := fl) (sub := sub) N (k + 1) t_is_pair (d := stD s) rfl
  have fr := frL_ints s.2
  have hl2 : (s.2.map D.int).length ≤ line := by rw [List.length_map]; exact Nat.le_trans hl (by decide)
  have m2 : c_is_within.modes = [.al, .al, .al] := rfl
  have t2 := t_is_within
  obtain ⟨ρ', e1, e2⟩ := lc_true (F := FFn tab fl sub N (k + 2)) (t := .nm 3) (bz := true) (e := (.call "is_within" [(.var 3), (.lit (.int (0))), (.bop .Sub (.var 1) (.lit (.int (1))))])) (own := [3]) (ρ0 := [.fz (stD s), .fz (.int m), .fz (.int w), .un]) (s.2.map .int) hl2 rfl (fun x hx => by
    obtain ⟨i, hi, rfl⟩ := List.mem_map.mp hx
    obtain ⟨b1, b2⟩ := hb i hi
    have h2 := r_within (sub := sub) N k (x := i) (a := 0) (b := m - 1)
    have b3 : i ≤ m - 1 := by omega
    refine ⟨[.fz (stD s), .fz (.int m), .fz (.int w), .fz (.int i)], ?_, rfl⟩
    unfold rn at h2
    clear h1 hb hx hi hw hl hl2 fr
    generalize stD s = d at *
    generalize fl = fl' at *
    trivial)
  rw [List.length_map] at e1
  have g1 : evE (FFn tab fl sub N (k + 2)) C_is_standing_0 [.fz (stD s), .fz (.int m), .fz (.int w), .un] = .ok (.ow (.lst true (List.replicate s.2.length (.bl true)))) [.fz (stD s), .fz (.int m), .fz (.int w), .un] := by
    rw [C_is_standing_0]
    have i1 : ixN 2 1 = some 1 := rfl
    clear h1 hb hl
    generalize hx : s.2.map D.int = xs at *
    have es : stD s = .tup [.bl s.1, .tup xs] := by rw [← hx] <;> rfl
    rw [es] at e1 e2 ⊢
    generalize fl = fl' at *
    generalize s.1 = s1 at *
    generalize s.2.length = n at *
    have e2' : ρ'.set 3 .un = _ := e2
    clear e2
    trivial
  have t1 := t_is_pair
  have m1 : c_is_pair.modes = [.al] := rfl
  have a1 := all_true (o := true) (n := s.2.length)
  have a2 := frL_true s.2.length
  have i1 : ixN 2 1 = some 1 := rfl
  have i0 : ixN 2 0 = some 0 := rfl
  have es : stD s = .tup [.bl s.1, .tup (s.2.map D.int)] := rfl
  have ln : (s.2.map D.int).length = s.2.length := List.length_map ..
  have hb1 : isInst (.bl s.1) "bool" = some true := Rw.ii_bool (d := .bl s.1) rfl
  have hb2 : isInst (.tup (s.2.map D.int)) "tuple" = some true := Rw.ii_tuple (d := .tup (s.2.map D.int)) rfl
  unfold rn
  rw [run_u t_is_standing, c_is_standing]
  clear hb hl hl2 e1 e2
  rw [es] at g1 h1 ⊢
  subst hw
  generalize s.2.map D.int = xs at *
  generalize s.1 = s1 at *
  generalize s.2.length = n at *
  generalize C_is_standing_0 = C at *
  generalize fl = fl' at *
  trivial
end
end Kk75

set_option Elab.async false
set_option linter.all false
set_option maxRecDepth 100000
/-! k75: a question is made; its answers. -/
namespace Kk75
open PySem Rw
local macro_rules
  | `(tactic| trivial) => `(tactic| simp [callD, freeze, freezeL, freezeP, isFrP, calm_ok, z_pt, al_pt0, lock, unlock, backE, wipeE, killE, Slot.kl, Out.mp, pureE, pureEs, pureO, pureI, mv_popi, mv_append, mv_pop, ty_pop, ty_append, ty_join, mut_pop, mut_join, mut_append, isStrD, initE, musOf, evSs, evEs, evO, evI, evC, tst, getP, getAt, setP, setAt,
    isFr, isFrL, aliases, alPass, argV, callR, muPl, bwRoots, okPts, shrs, as_nm, as_tp, as_0, as_1, cons_, ff_run, ff_modes, bi_len, bi_int, bi_abs, bi_sum,
    fr_ap, lc_ap, wc_ap, wb_ap, e_asg, e_sub, e_ret, e_retN, e_ifs, e_whl, e_fr, e_ex, e_rse, e_try, e_brk, e_cont, e_pass, e_lc,
    x_var, x_mv, x_lit, x_dct0, x_bop, x_neg, x_cmp, x_cmp2, x_band, x_bor, x_bnot, x_ife, x_tup, x_lst, x_sub, x_slc, x_call, x_bi, x_isi, x_mth,
    b_ok, b_exc, o_ok, o_exc, th_nx, th_rt, th_bk, th_ct, th_exc, c_fz, c_ow, c_pt, al_fz, al_ow, v_fz, v_ow, z_fz, z_ow,
    k_fz, k_ow, k_pt0, k_pt, ko_fz, ko_ow, ko_pt0, ko_pt, n_fz, n_ow, n_pt0, n_pt, p_un, p_fz, p_ow, p_bw, p_mw, sc_fz, sc_ow, sc_bw, sc_mw,
    s_fz, s_ow, s_pt, pd_non, pd_bl, pd_int, pd_str, pd_lst, pd_tup, so_t, so_non, so_bl, so_int, so_str, so_lst, so_tup, tr_bl, tr_non, tr_int,
    f_nx, f_rt, f_exc, ad_pt, ad_fz, ad_ow, cm_eq, cm_ne, cm_lt, cm_le, cm_gt, cm_ge, cm_in, cm_ni, cm_isb, cm_isnb, cm_isn, cm_isnn, is_in, eo_ss, eo_ii, eo_bb, ed_ss, ed_ii, ed_bb,
    bp_ai, bp_si, bp_mi, bp_fi, bp_ri, bp_pi, bp_as, bp_ms, bp_al, bp_at, ln_str, ln_tup, ln_lst, iv_lst, iv_tup, iv_str, is_lst,
    sl_str, sl_lst, sl_tup, sl_scr, it_str, it_lst, it_tup, ipt_fz, ipt_ow, ipt_pt, lk_n, ul_n, st_str, st_lst, st_tup,
    x_dctN, x_dget, i_enm, x_fld, x_mk, x_mcall, e_sfld, ff_flds, pd_obj, so_obj, pd_dct, so_dct, cx_ok, cx_exc, bi2_max, bi2_min, bi2_sorted, mut_find, ty_find, mt_find', mut_extend, ty_extend, mv_extend, bp_mt, iv_dct, in_dct, e_aug, av_int, av_str, isFrF, freezeF, putF, List.lookup_cons,
    u1_lst, u1_tup, u1_str, fl_int, fl_bl, fl_str, uo_nx, uo_rt, uo_exc, oo_s, ixN_0, line_s, line_t, *])
section
variable {sub : Str → Str → Option Bool} (N k : Nat)
theorem frL_st (t : Tbl) : isFrL (t.map stD) = true := by
  induction t with
  | nil => rfl
  | cons s t ih =>
    have h : isFr (stD s) = true := by
      show (true && (isFrL (s.2.map D.int) && true)) = true
      rw [frL_ints] <;> rfl
    show (isFr (stD s) && isFrL (t.map stD)) = true
    rw [h, ih] <;> rfl
theorem len_ow {F : Fn} {R : List D} {e : Ex} {ρ : Rw.Env} (h : evE F e ρ = .ok (.ow (.lst true R)) ρ) : evE F ((.bi "len" [e])) ρ = .ok (.fz (.int (R.length : Int))) ρ := by
  trivial
theorem init4 {F : Fn} {e : Ex} {a b c d : Slot} {w : Int} (h : evE F e [a, b, c, d, .un, .un] = .ok (.fz (.int w)) [a, b, c, d, .un, .un]) : evS F sub N (.asg (.nm 4) e) [a, b, c, d, .un, .un] = .nx [a, b, c, d, .fz (.int w), .un] := by
  trivial
theorem init4c {fl' : String → String → Bool} {R : List D} {S d : D} {ri li : Int} (w3 : run tab fl' sub N (k + 3) "readings" [.int ri, .int li] = .rt (.lst true R) []) (m2 : c_readings.modes = [.al, .al]) (t2 : tab "readings" = some c_readings) :
   evE (FFn tab fl' sub N (k + 3)) ((.call "readings" [(.var 1), (.var 2)])) [.mw S, .fz (.int ri), .fz (.int li), .fz d, .un, .un] = .ok (.ow (.lst true R)) [.mw S, .fz (.int ri), .fz (.int li), .fz d, .un, .un] := by
  trivial
theorem r_init {r l : Nat} {t : Tbl} (h : TblOk r l t) : rn sub N (k + 4) "Question.__init__" [.obj true "Question" [], .int r, .int l, tabD t] = .rt .non [qD r l (tabD t) []] := by
  have w1 : rn sub N (k + 3) "is_within" [.int r, .int 2, .int 4] = .rt (.bl true) [] := by
    rw [r_within]
    rcases h.d with ⟨rfl, rfl⟩ | ⟨rfl, rfl⟩ | ⟨rfl, rfl⟩ <;> rfl
  have w2 : rn sub N (k + 3) "is_within" [.int l, .int 1, .int 2] = .rt (.bl true) [] := by
    rw [r_within]
    rcases h.d with ⟨rfl, rfl⟩ | ⟨rfl, rfl⟩ | ⟨rfl, rfl⟩ <;> rfl
  have w3 : rn sub N (k + 3) "readings" [.int r, .int l] = .rt (.lst true ((rds r l).map colD)) [] := r_readings (sub := sub) N (k + 1) h.d
  have lr := len_rds h.d
  have hl2 : (t.map stD).length ≤ line := by rw [List.length_map]; exact Nat.le_trans h.hi (by decide)
  have tm : (t.map stD).length = t.length := List.length_map ..
  obtain ⟨ρ', e1, e2⟩ := lc_true (F := FFn tab fl sub N (k + 3)) (t := .nm 5) (bz := true) (e := (.call "is_standing" [(.var 5), (.bi "len" [(.var 3)]), (.var 4)])) (own := [5]) (ρ0 := [.mw (.obj true "Question" []), .fz (.int r), .fz (.int l), .fz (tabD t), .fz (.int ((rds r l).length : Int)), .un]) (t.map stD) hl2 rfl (fun x hx => by
    obtain ⟨s, hs, rfl⟩ := List.mem_map.mp hx
    have h2 := r_standing (sub := sub) N k (s := s) (m := (t.length : Int)) (w := ((rds r l).length : Int)) (by rw [h.w s hs]) (by rw [h.w s hs]; omega) (h.b s hs)
    refine ⟨[.mw (.obj true "Question" []), .fz (.int r), .fz (.int l), .fz (tabD t), .fz (.int ((rds r l).length : Int)), .fz (stD s)], ?_, rfl⟩
    have m2 : c_is_standing.modes = [.al, .al, .al] := rfl
    have t2 := t_is_standing
    unfold tabD rn at *
    rw [← tm] at h2
    clear w1 w2 w3 lr hx hs h hl2 tm
    generalize stD s = d at *
    generalize t.map stD = ds at *
    generalize ((rds r l).length : Int) = w at *
    generalize (r : Int) = ri at *
    generalize (l : Int) = li at *
    generalize fl = fl' at *
    trivial)
  rw [List.length_map] at e1
  have g1 : evE (FFn tab fl sub N (k + 3)) C_Question___init___0 [.mw (.obj true "Question" []), .fz (.int r), .fz (.int l), .fz (tabD t), .fz (.int ((rds r l).length : Int)), .un] = .ok (.ow (.lst true (List.replicate t.length (.bl true)))) [.mw (.obj true "Question" []), .fz (.int r), .fz (.int l), .fz (tabD t), .fz (.int ((rds r l).length : Int)), .un] := by
    rw [C_Question___init___0]
    have e2' : ρ'.set 5 .un = _ := e2
    unfold tabD at *
    clear w1 w2 w3 lr h e2
    generalize t.map stD = ds at *
    generalize ((rds r l).length : Int) = w at *
    generalize (r : Int) = ri at *
    generalize (l : Int) = li at *
    generalize fl = fl' at *
    generalize t.length = n at *
    trivial
  have a1 := all_true (o := true) (n := t.length)
  have a2 := frL_true t.length
  have m1 : c_is_within.modes = [.al, .al, .al] := rfl
  have t1 := t_is_within
  have m2 : c_readings.modes = [.al, .al] := rfl
  have t2 := t_readings
  have hb2 : isInst (.tup (t.map stD)) "tuple" = some true := Rw.ii_tuple (d := .tup (t.map stD)) rfl
  have f1 := fl_Question_rows
  have f2 := fl_Question_letters
  have f3 := fl_Question_table
  have f4 := fl_Question_kept
  have rl : ((rds r l).map colD).length = (rds r l).length := List.length_map ..
  have fr := frL_st t
  have lo : (1 : Int) ≤ (t.length : Int) := by have := h.lo; omega
  have hi : (t.length : Int) ≤ 8 := by have := h.hi; omega
  unfold rn at *
  unfold tabD at *
  clear e1 e2 lr h hl2
  rw [← rl] at g1
  rw [← tm] at lo hi
  clear rl tm
  generalize (rds r l).map colD = R at *
  generalize t.map stD = ds at *
  have body : evSs (FFn tab fl sub N (k + 3)) sub N c_Question___init__.body [.mw (.obj true "Question" []), .fz (.int r), .fz (.int l), .fz (.tup ds), .un, .un] = .nx [.mw (qD r l (.tup ds) []), .fz (.int r), .fz (.int l), .fz (.tup ds), .fz (.int (R.length : Int)), .un] := by
    unfold c_Question___init__ qD qF
    dsimp only
    generalize C_Question___init___0 = C at *
    generalize (r : Int) = ri at *
    generalize (l : Int) = li at *
    generalize fl = fl' at *
    generalize t.length = n at *
    have s1 : evS (FFn tab fl' sub N (k + 3)) sub N (.ifs (.bnot (.call "is_within" [(.var 1), (.lit (.int (2))), (.lit (.int (4)))])) [.dead] []) [.mw (.obj true "Question" []), .fz (.int ri), .fz (.int li), .fz (.tup ds), .un, .un] = .nx [.mw (.obj true "Question" []), .fz (.int ri), .fz (.int li), .fz (.tup ds), .un, .un] := by
      clear g1 w2 w3 lo hi
      trivial
    have s2 : evS (FFn tab fl' sub N (k + 3)) sub N (.ifs (.bnot (.call "is_within" [(.var 2), (.lit (.int (1))), (.lit (.int (2)))])) [.dead] []) [.mw (.obj true "Question" []), .fz (.int ri), .fz (.int li), .fz (.tup ds), .un, .un] = .nx [.mw (.obj true "Question" []), .fz (.int ri), .fz (.int li), .fz (.tup ds), .un, .un] := by
      clear g1 w1 w3 lo hi s1
      trivial
    have s3 : evS (FFn tab fl' sub N (k + 3)) sub N (.ifs (.bor (.bnot (.isi (.var 3) "tuple")) (.bnot (.cmp2 .le .le (.lit (.int (1))) (.bi "len" [(.var 3)]) (.lit (.int (8)))))) [.dead] []) [.mw (.obj true "Question" []), .fz (.int ri), .fz (.int li), .fz (.tup ds), .un, .un] = .nx [.mw (.obj true "Question" []), .fz (.int ri), .fz (.int li), .fz (.tup ds), .un, .un] := by
      clear g1 w1 w2 w3 s1 s2
      trivial
    have s4 : evS (FFn tab fl' sub N (k + 3)) sub N (.asg (.nm 4) (.bi "len" [(.call "readings" [(.var 1), (.var 2)])])) [.mw (.obj true "Question" []), .fz (.int ri), .fz (.int li), .fz (.tup ds), .un, .un] = .nx [.mw (.obj true "Question" []), .fz (.int ri), .fz (.int li), .fz (.tup ds), .fz (.int (R.length : Int)), .un] := by
      exact init4 N (len_ow (init4c N k w3 m2 t2))
    have s5 : evS (FFn tab fl' sub N (k + 3)) sub N (.ifs (.bnot (.bi "all" [C])) [.dead] []) [.mw (.obj true "Question" []), .fz (.int ri), .fz (.int li), .fz (.tup ds), .fz (.int (R.length : Int)), .un] = .nx [.mw (.obj true "Question" []), .fz (.int ri), .fz (.int li), .fz (.tup ds), .fz (.int (R.length : Int)), .un] := by
      clear w1 w2 w3 s1 s2 s3 s4 lo hi
      trivial
    have s6 : evSs (FFn tab fl' sub N (k + 3)) sub N [(.sfld (.var 0) "rows" (.var 1)),
  (.sfld (.var 0) "letters" (.var 2)),
  (.sfld (.var 0) "table" (.var 3)),
  (.sfld (.var 0) "kept" .dctN)] [.mw (.obj true "Question" []), .fz (.int ri), .fz (.int li), .fz (.tup ds), .fz (.int (R.length : Int)), .un] = .nx [.mw (.obj true "Question" [("rows", .int ri), ("letters", .int li), ("table", .tup ds), ("kept", .dct true [])]), .fz (.int ri), .fz (.int li), .fz (.tup ds), .fz (.int (R.length : Int)), .un] := by
      clear w1 w2 w3 s1 s2 s3 s4 s5 lo hi g1
      generalize (R.length : Int) = w
      trivial
    rw [evSs, s1, th_nx, evSs, s2, th_nx, evSs, s3, th_nx, evSs, s4, th_nx, evSs, s5, th_nx]
    exact s6
  rw [run_u t_Question___init__]
  unfold callD
  show finish [.mu, .al, .al, .al] (evSs _ _ _ _ [.mw (.obj true "Question" []), .fz (.int r), .fz (.int l), .fz (.tup ds), .un, .un]) = _
  rw [body]
  rfl
theorem r_question {r l : Nat} {t : Tbl} (h : TblOk r l t) : rn sub N (k + 5) "_law_question" [.tup [.int r, .int l, tabD t]] = .rt (qD r l (tabD t) []) [] := by
  have h1 := r_init (sub := sub) N k h
  have fr := frL_st t
  have m1 : c_Question___init__.modes = [.mu, .al, .al, .al] := rfl
  have t1 := t_Question___init__
  have i0 : ixN 3 0 = some 0 := rfl
  have i1 : ixN 3 1 = some 1 := rfl
  have i2 : ixN 3 2 = some 2 := rfl
  unfold rn at *
  rw [run_u t__law_question, c__law_question]
  unfold qD qF at *
  unfold tabD at *
  clear h
  generalize t.map stD = ds at *
  generalize (r : Int) = ri at *
  generalize (l : Int) = li at *
  generalize fl = fl' at *
  trivial
end
end Kk75

set_option Elab.async false
set_option linter.all false
set_option maxRecDepth 100000
/-! k75: columns at places, the program's answer. -/
namespace Kk75
open PySem Rw
local macro_rules
  | `(tactic| trivial) => `(tactic| simp [callD, freeze, freezeL, freezeP, isFrP, calm_ok, z_pt, al_pt0, lock, unlock, backE, wipeE, killE, Slot.kl, Out.mp, pureE, pureEs, pureO, pureI, mv_popi, mv_append, mv_pop, ty_pop, ty_append, ty_join, mut_pop, mut_join, mut_append, isStrD, initE, musOf, evSs, evEs, evO, evI, evC, tst, getP, getAt, setP, setAt,
    isFr, isFrL, aliases, alPass, argV, callR, muPl, bwRoots, okPts, shrs, as_nm, as_tp, as_0, as_1, cons_, ff_run, ff_modes, bi_len, bi_int, bi_abs, bi_sum,
    fr_ap, lc_ap, wc_ap, wb_ap, e_asg, e_sub, e_ret, e_retN, e_ifs, e_whl, e_fr, e_ex, e_rse, e_try, e_brk, e_cont, e_pass, e_lc,
    x_var, x_mv, x_lit, x_dct0, x_bop, x_neg, x_cmp, x_cmp2, x_band, x_bor, x_bnot, x_ife, x_tup, x_lst, x_sub, x_slc, x_call, x_bi, x_isi, x_mth,
    b_ok, b_exc, o_ok, o_exc, th_nx, th_rt, th_bk, th_ct, th_exc, c_fz, c_ow, c_pt, al_fz, al_ow, v_fz, v_ow, z_fz, z_ow,
    k_fz, k_ow, k_pt0, k_pt, ko_fz, ko_ow, ko_pt0, ko_pt, n_fz, n_ow, n_pt0, n_pt, p_un, p_fz, p_ow, p_bw, p_mw, sc_fz, sc_ow, sc_bw, sc_mw,
    s_fz, s_ow, s_pt, pd_non, pd_bl, pd_int, pd_str, pd_lst, pd_tup, so_t, so_non, so_bl, so_int, so_str, so_lst, so_tup, tr_bl, tr_non, tr_int,
    f_nx, f_rt, f_exc, ad_pt, ad_fz, ad_ow, cm_eq, cm_ne, cm_lt, cm_le, cm_gt, cm_ge, cm_in, cm_ni, cm_isb, cm_isnb, cm_isn, cm_isnn, is_in, eo_ss, eo_ii, eo_bb, ed_ss, ed_ii, ed_bb,
    bp_ai, bp_si, bp_mi, bp_fi, bp_ri, bp_pi, bp_as, bp_ms, bp_al, bp_at, ln_str, ln_tup, ln_lst, iv_lst, iv_tup, iv_str, is_lst,
    sl_str, sl_lst, sl_tup, sl_scr, it_str, it_lst, it_tup, ipt_fz, ipt_ow, ipt_pt, lk_n, ul_n, st_str, st_lst, st_tup,
    x_dctN, x_dget, i_enm, x_fld, x_mk, x_mcall, e_sfld, ff_flds, pd_obj, so_obj, pd_dct, so_dct, cx_ok, cx_exc, bi2_max, bi2_min, bi2_sorted, mut_find, ty_find, mt_find', mut_extend, ty_extend, mv_extend, bp_mt, iv_dct, in_dct, e_aug, av_int, av_str, isFrF, freezeF, putF, List.lookup_cons,
    u1_lst, u1_tup, u1_str, fl_int, fl_bl, fl_str, uo_nx, uo_rt, uo_exc, oo_s, ixN_0, line_s, line_t, *])
/-- the sign at a place -/
def atP (p : Nat) (w : Sg) : Nat := (w[p]?).getD 45
def wsD (ws : List Sg) : D := .tup (ws.map .str)
section
variable {sub : Str → Str → Option Bool} (N k : Nat)
theorem frL_strs (xs : List Sg) : isFrL (xs.map D.str) = true := by
  induction xs with
  | nil => rfl
  | cons x xs ih => rw [List.map_cons, isFrL, ih]; rfl
theorem frL_col (c : Sg) : isFrL (c.map fun x => D.str [x]) = true := by
  induction c with
  | nil => rfl
  | cons x xs ih => rw [List.map_cons, isFrL, ih]; rfl
theorem filterMap_strs (f : Sg → D) (ws : List Sg) : (ws.map D.str).filterMap (fun d => match d with
    | .str w => some (f w)
    | _ => none) = ws.map f := by
  induction ws with
  | nil => rfl
  | cons w ws ih => rw [List.map_cons, List.filterMap_cons, ih]; rfl
/-- the sign at a place, in a comprehension -/
theorem at_item {F : Fn} {w : Sg} {p : Nat} {d : D} (hl : w.length ≤ 16777216) : lcB F (.nm 2) true none (.ife (.cmp .lt (.var 1) (.bi "len" [(.var 2)])) (.sub (.var 2) (.var 1)) (.lit (.str [45]))) (.str w) [.fz d, .fz (.int p), .un] = .ok (some (.str [atP p w])) [.fz d, .fz (.int p), .fz (.str w)] := by
  unfold atP
  by_cases c : p < w.length
  · have e1 : ixN w.length (p : Int) = some p := by rw [ixN_nat, if_pos c]
    obtain ⟨x, hx⟩ : ∃ x, w[p]? = some x := ⟨w[p], List.getElem?_eq_getElem c⟩
    have c1 : (p : Int) < (w.length : Int) := by omega
    rw [hx]
    clear c
    trivial
  · have hx : w[p]? = none := List.getElem?_eq_none (by omega)
    have c1 : ¬ (p : Int) < (w.length : Int) := by omega
    rw [hx]
    clear c
    trivial
theorem at_comp {F : Fn} {ws : List Sg} {p : Nat} (hn : ws.length ≤ 1000) (hl : ∀ w ∈ ws, w.length ≤ 16777216) : evE F C_column_at_0 [.fz (wsD ws), .fz (.int p), .un] = .ok (.ow (.lst true (ws.map fun w => .str [atP p w]))) [.fz (wsD ws), .fz (.int p), .un] := by
  obtain ⟨ρ', e1, e2⟩ := lcL_pure (f := lcB F (.nm 2) true none (.ife (.cmp .lt (.var 1) (.bi "len" [(.var 2)])) (.sub (.var 2) (.var 1)) (.lit (.str [45])))) (own := [2]) (ρ0 := [.fz (wsD ws), .fz (.int p), .un]) (fun d => match d with
    | .str w => some (.str [atP p w])
    | _ => none) (ws.map .str) [] [.fz (wsD ws), .fz (.int p), .un] rfl (by rw [List.length_map]; exact Nat.le_trans (by simpa using hn) (by decide)) (fun x hx => by
      obtain ⟨w, hw, rfl⟩ := List.mem_map.mp hx
      exact ⟨_, at_item (hl w hw), rfl⟩)
  rw [filterMap_strs, List.nil_append] at e1
  have fr := frL_strs ws
  rw [C_column_at_0]
  unfold wsD at *
  have e2' : ρ'.set 2 .un = _ := e2
  clear e2 hl hn
  generalize ws.map D.str = W at *
  generalize (ws.map fun w => D.str [atP p w]) = R at *
  generalize (p : Int) = q at *
  trivial
theorem r_column_at {ws : List Sg} {p : Nat} (hn : ws.length ≤ 1000) (hl : ∀ w ∈ ws, w.length ≤ 16777216) : rn sub N (k + 1) "column_at" [wsD ws, .int p] = .rt (colD (ws.map (atP p))) [] := by
  have g := at_comp (F := FFn tab fl sub N k) (p := p) hn hl
  have e : (ws.map (atP p)).map (fun x => D.str [x]) = ws.map fun w => D.str [atP p w] := by rw [List.map_map]; rfl
  have fr := frL_col (ws.map (atP p))
  rw [e] at fr
  unfold rn colD
  rw [e, run_u t_column_at, c_column_at]
  have bt : biV "tuple" [.lst true (ws.map fun w => D.str [atP p w])] = some (.tup (ws.map fun w => D.str [atP p w])) := by rw [bi_tuple]
  clear e hl hn
  generalize C_column_at_0 = C at *
  generalize wsD ws = W at *
  generalize (ws.map fun w => D.str [atP p w]) = R at *
  generalize (p : Int) = q at *
  generalize fl = fl' at *
  trivial
theorem r_law_column_at {ws : List Sg} {p : Nat} (hn : ws.length ≤ 1000) (hl : ∀ w ∈ ws, w.length ≤ 16777216) : rn sub N (k + 1) "_law_column_at" [wsD ws, .int p] = .rt (colD (ws.map (atP p))) [] := by
  have g := at_comp (F := FFn tab fl sub N k) (p := p) hn hl
  have e : (ws.map (atP p)).map (fun x => D.str [x]) = ws.map fun w => D.str [atP p w] := by rw [List.map_map]; rfl
  have fr := frL_col (ws.map (atP p))
  rw [e] at fr
  unfold rn colD
  rw [e, run_u t__law_column_at, c__law_column_at]
  have bt : biV "tuple" [.lst true (ws.map fun w => D.str [atP p w])] = some (.tup (ws.map fun w => D.str [atP p w])) := by rw [bi_tuple]
  have ec : C__law_column_at_0 = C_column_at_0 := rfl
  rw [ec]
  clear e hl hn ec
  generalize C_column_at_0 = C at *
  generalize wsD ws = W at *
  generalize (ws.map fun w => D.str [atP p w]) = R at *
  generalize (p : Int) = q at *
  generalize fl = fl' at *
  trivial
/-! ### how long they are -/
def lens (ws : List Sg) : List Int := ws.map fun w => (w.length : Int)
theorem maxI_le {b : Int} : ∀ {xs : List Int}, xs ≠ [] → (∀ x ∈ xs, 0 ≤ x ∧ x ≤ b) → 0 ≤ maxI xs ∧ maxI xs ≤ b
  | [], h, _ => (h rfl).elim
  | [a], _, h => h a List.mem_cons_self
  | a :: c :: r, _, h => by
    have ih := maxI_le (b := b) (xs := c :: r) (by simp) fun x hx => h x (List.mem_cons_of_mem _ hx)
    have ha := h a List.mem_cons_self
    rw [maxI]
    split
    · exact ih
    · exact ha
theorem r_longest {ws : List Sg} (h0 : ws ≠ []) (hn : ws.length ≤ 1000) (hl : ∀ w ∈ ws, w.length ≤ 16777216) : rn sub N (k + 1) "longest" [wsD ws] = .rt (.int (maxI (lens ws))) [] := by
  obtain ⟨ρ', e1, e2⟩ := lcL_pure (f := lcB (FFn tab fl sub N k) (.nm 1) true none (.bi "len" [(.var 1)])) (own := [1]) (ρ0 := [.fz (wsD ws), .un]) (fun d => match d with
    | .str w => some (.int (w.length : Int))
    | _ => none) (ws.map .str) [] [.fz (wsD ws), .un] rfl (by rw [List.length_map]; exact Nat.le_trans (by simpa using hn) (by decide)) (fun x hx => by
      obtain ⟨w, hw, rfl⟩ := List.mem_map.mp hx
      have hl' := hl w hw
      refine ⟨[.fz (wsD ws), .fz (.str w)], ?_, rfl⟩
      clear hl hn hx
      generalize fl = fl' at *
      trivial)
  rw [filterMap_strs (fun w => .int (w.length : Int)), List.nil_append] at e1
  have e : (ws.map fun w => D.int (w.length : Int)) = (lens ws).map .int := by unfold lens; rw [List.map_map]; rfl
  rw [e] at e1
  have fr := frL_strs ws
  have hR := intsOf_ints (lens ws)
  have hL : ¬ lens ws = [] := by unfold lens; simpa using h0
  unfold rn
  rw [run_u t_longest, c_longest, C_longest_0]
  unfold wsD at *
  have e2' : ρ'.set 1 .un = _ := e2
  clear e2 hl hn e
  generalize ws.map D.str = W at *
  clear h0
  generalize (lens ws).map D.int = R at *
  generalize lens ws = L at *
  generalize fl = fl' at *
  trivial
end
end Kk75

set_option Elab.async false
set_option linter.all false
set_option maxRecDepth 100000
/-! k75: the answer, by the program and by the law. -/
namespace Kk75
open PySem Rw
local macro_rules
  | `(tactic| trivial) => `(tactic| simp [callD, freeze, freezeL, freezeP, isFrP, calm_ok, z_pt, al_pt0, lock, unlock, backE, wipeE, killE, Slot.kl, Out.mp, pureE, pureEs, pureO, pureI, mv_popi, mv_append, mv_pop, ty_pop, ty_append, ty_join, mut_pop, mut_join, mut_append, isStrD, initE, musOf, evSs, evEs, evO, evI, evC, tst, getP, getAt, setP, setAt,
    isFr, isFrL, aliases, alPass, argV, callR, muPl, bwRoots, okPts, shrs, as_nm, as_tp, as_0, as_1, cons_, ff_run, ff_modes, bi_len, bi_int, bi_abs, bi_sum,
    fr_ap, lc_ap, wc_ap, wb_ap, e_asg, e_sub, e_ret, e_retN, e_ifs, e_whl, e_fr, e_ex, e_rse, e_try, e_brk, e_cont, e_pass, e_lc,
    x_var, x_mv, x_lit, x_dct0, x_bop, x_neg, x_cmp, x_cmp2, x_band, x_bor, x_bnot, x_ife, x_tup, x_lst, x_sub, x_slc, x_call, x_bi, x_isi, x_mth,
    b_ok, b_exc, o_ok, o_exc, th_nx, th_rt, th_bk, th_ct, th_exc, c_fz, c_ow, c_pt, al_fz, al_ow, v_fz, v_ow, z_fz, z_ow,
    k_fz, k_ow, k_pt0, k_pt, ko_fz, ko_ow, ko_pt0, ko_pt, n_fz, n_ow, n_pt0, n_pt, p_un, p_fz, p_ow, p_bw, p_mw, sc_fz, sc_ow, sc_bw, sc_mw,
    s_fz, s_ow, s_pt, pd_non, pd_bl, pd_int, pd_str, pd_lst, pd_tup, so_t, so_non, so_bl, so_int, so_str, so_lst, so_tup, tr_bl, tr_non, tr_int,
    f_nx, f_rt, f_exc, ad_pt, ad_fz, ad_ow, cm_eq, cm_ne, cm_lt, cm_le, cm_gt, cm_ge, cm_in, cm_ni, cm_isb, cm_isnb, cm_isn, cm_isnn, is_in, eo_ss, eo_ii, eo_bb, ed_ss, ed_ii, ed_bb,
    bp_ai, bp_si, bp_mi, bp_fi, bp_ri, bp_pi, bp_as, bp_ms, bp_al, bp_at, ln_str, ln_tup, ln_lst, iv_lst, iv_tup, iv_str, is_lst,
    sl_str, sl_lst, sl_tup, sl_scr, it_str, it_lst, it_tup, ipt_fz, ipt_ow, ipt_pt, lk_n, ul_n, st_str, st_lst, st_tup,
    x_dctN, x_dget, i_enm, x_fld, x_mk, x_mcall, e_sfld, ff_flds, pd_obj, so_obj, pd_dct, so_dct, cx_ok, cx_exc, bi2_max, bi2_min, bi2_sorted, mut_find, ty_find, mt_find', mut_extend, ty_extend, mv_extend, bp_mt, iv_dct, in_dct, e_aug, av_int, av_str, isFrF, freezeF, putF, List.lookup_cons,
    u1_lst, u1_tup, u1_str, fl_int, fl_bl, fl_str, uo_nx, uo_rt, uo_exc, oo_s, ixN_0, line_s, line_t, *])
structure WsOk (r l : Nat) (ws : List Sg) : Prop where
  n : ws.length = r
  b : ∀ w ∈ ws, w.length ≤ 60 ∧ ∀ x ∈ w, x ∈ abc.take l
/-- the column at a place -/
def col (ws : List Sg) (p : Nat) : Sg := ws.map (atP p)
/-- where a column leads -/
def lead (t : Tbl) (s : Nat) (n : Nat) : Nat := if n = 0 then s else (((t[s]?).getD (false, [])).2[n - 1]?.getD 0).toNat
def stand (l : Nat) (t : Tbl) (ws : List Sg) : Nat → Nat
  | 0 => 0
  | p + 1 => lead t (stand l t ws p) (num l (col ws p))
def most (ws : List Sg) : Nat := (maxI (lens ws)).toNat
def flag (t : Tbl) (s : Nat) : Bool := ((t[s]?).getD (false, [])).1
def ansr (l : Nat) (t : Tbl) (ws : List Sg) : Bool := flag t (stand l t ws (most ws))
theorem WsOk.most {r l : Nat} {ws : List Sg} (h : WsOk r l ws) (d : Dom r l) : ws ≠ [] ∧ ws.length ≤ 1000 ∧ (∀ w ∈ ws, w.length ≤ 16777216) ∧ maxI (lens ws) = (most ws : Nat) ∧ most ws ≤ 60 := by
  have hr : 2 ≤ r ∧ r ≤ 4 := by rcases d with ⟨rfl, _⟩ | ⟨rfl, _⟩ | ⟨rfl, _⟩ <;> omega
  have hne : ws ≠ [] := fun e => by have := h.n; rw [e] at this; simp at this; omega
  have hm := maxI_le (b := 60) (xs := lens ws) (by unfold lens; simpa using hne) fun x hx => by
    obtain ⟨w, hw, rfl⟩ := List.mem_map.mp hx
    have := (h.b w hw).1
    omega
  have hn := h.n
  refine ⟨hne, by omega, fun w hw => Nat.le_trans (h.b w hw).1 (by decide), ?_, ?_⟩ <;> unfold Kk75.most <;> omega
theorem Dom.l2 {r l : Nat} (d : Dom r l) : l ≤ 2 := by rcases d with ⟨_, rfl⟩ | ⟨_, rfl⟩ | ⟨_, rfl⟩ <;> decide
theorem atP_mem {l : Nat} {w : Sg} {p : Nat} (hl : l ≤ 2) (h : ∀ x ∈ w, x ∈ abc.take l) : atP p w ∈ sgn l := by
  unfold atP sgn
  cases e : w[p]? with
  | none => exact List.mem_cons_self
  | some x =>
    have hx := h x (List.mem_of_getElem? e)
    show x ∈ [45, 97, 98].take (l + 1)
    rw [List.take_succ_cons]
    refine List.mem_cons_of_mem _ ?_
    have e : [97, 98].take l = abc.take l := by
      have : l = 0 ∨ l = 1 ∨ l = 2 := by omega
      rcases this with rfl | rfl | rfl <;> rfl
    rw [e]
    exact hx
theorem WsOk.col {r l : Nat} {ws : List Sg} (h : WsOk r l ws) (d : Dom r l) (p : Nat) : col ws p ∈ cl (sgn l) r := col_mem (by unfold Kk75.col; rw [List.length_map]; exact h.n) fun x hx => by
  obtain ⟨w, hw, rfl⟩ := List.mem_map.mp hx
  exact atP_mem d.l2 (h.b w hw).2
theorem TblOk.lead {r l : Nat} {t : Tbl} (h : TblOk r l t) {s : Nat} (hs : s < t.length) {c : Sg} (hc : c ∈ cl (sgn l) r) : lead t s (num l c) < t.length := by
  unfold Kk75.lead
  split
  · exact hs
  · rename_i n0
    rcases get_num h.d hc with ⟨e, _⟩ | ⟨_, e2, _⟩
    · exact (n0 e).elim
    · rw [List.getElem?_eq_getElem hs]
      have hw := h.w _ (List.getElem_mem hs)
      have hi : num l c - 1 < (t[s]).2.length := by omega
      show ((t[s]).2[num l c - 1]?.getD 0).toNat < _
      rw [List.getElem?_eq_getElem hi]
      have := h.b _ (List.getElem_mem hs) _ (List.getElem_mem hi)
      show (t[s].2[num l c - 1]).toNat < _
      omega
theorem TblOk.stand {r l : Nat} {t : Tbl} (h : TblOk r l t) {ws : List Sg} (hw : WsOk r l ws) : ∀ p, stand l t ws p < t.length
  | 0 => h.lo
  | p + 1 => h.lead (h.stand hw p) (hw.col h.d p)
section
variable {sub : Str → Str → Option Bool} (N k : Nat)
theorem r_are_words {r l : Nat} {ws : List Sg} (d : Dom r l) (h : WsOk r l ws) : rn sub N (k + 3) "are_words" [.int r, .int l, wsD ws] = .rt (.bl true) [] := by
  obtain ⟨w1, w2, w3, w4, w5⟩ := h.most d
  have hl : (0 : Int) ≤ l ∧ (l : Int) ≤ 3 := by rcases d with ⟨_, rfl⟩ | ⟨_, rfl⟩ | ⟨_, rfl⟩ <;> decide
  have hl2 : (ws.map D.str).length ≤ line := by rw [List.length_map]; exact Nat.le_trans w2 (by decide)
  obtain ⟨ρ', e1, e2⟩ := lc_true (F := FFn tab fl sub N (k + 2)) (t := .nm 3) (bz := true) (e := (.call "is_letters" [(.var 3), (.var 1)])) (own := [3]) (ρ0 := [.fz (.int r), .fz (.int l), .fz (wsD ws), .un]) (ws.map .str) hl2 rfl (fun x hx => by
    obtain ⟨w, hw, rfl⟩ := List.mem_map.mp hx
    have h2 : run tab fl sub N (k + 2) "is_letters" [.str w, .int l] = .rt (.bl true) [] := by
      rw [Rw.r_is_letters (fl := fl) (sub := sub) N k t_is_string_of t_is_letters (d := .str w) hl.1 hl.2 rfl rfl]
      congr 2
      show (w.all fun c => decide (c ∈ abc.take (l : Int).toNat)) = true
      rw [Int.toNat_natCast]
      exact List.all_eq_true.mpr fun x hx => decide_eq_true ((h.b w hw).2 x hx)
    refine ⟨[.fz (.int r), .fz (.int l), .fz (wsD ws), .fz (.str w)], ?_, rfl⟩
    have m2 : c_is_letters.modes = [.al, .al] := rfl
    have t2 := t_is_letters
    clear hx hw h w1 w2 w3 w4 w5 hl2 hl d
    generalize wsD ws = W at *
    generalize (l : Int) = li at *
    generalize (r : Int) = ri at *
    generalize fl = fl' at *
    trivial)
  rw [List.length_map] at e1
  have fr := frL_strs ws
  have g1 : evE (FFn tab fl sub N (k + 2)) C_are_words_0 [.fz (.int r), .fz (.int l), .fz (wsD ws), .un] = .ok (.ow (.lst true (List.replicate ws.length (.bl true)))) [.fz (.int r), .fz (.int l), .fz (wsD ws), .un] := by
    rw [C_are_words_0]
    have e2' : ρ'.set 3 .un = _ := e2
    unfold wsD at *
    clear w1 w2 w3 w4 w5 h e2 d hl hl2
    generalize ws.map D.str = W at *
    generalize ws.length = n at *
    generalize (r : Int) = ri at *
    generalize (l : Int) = li at *
    generalize fl = fl' at *
    trivial
  have a1 := all_true (o := true) (n := ws.length)
  have a2 := frL_true ws.length
  have hb2 : isInst (.tup (ws.map D.str)) "tuple" = some true := Rw.ii_tuple (d := .tup (ws.map D.str)) rfl
  have ln : (ws.map D.str).length = ws.length := List.length_map ..
  have rr := h.n
  unfold rn
  rw [run_u t_are_words, c_are_words]
  unfold wsD at *
  clear w1 w2 w3 w4 w5 h e1 e2 d hl hl2
  subst rr
  rw [← ln] at g1 a1 a2 ⊢
  clear ln
  generalize C_are_words_0 = C at *
  generalize ws.map D.str = W at *
  generalize ws.length = n at *
  generalize (l : Int) = li at *
  generalize fl = fl' at *
  trivial
theorem r_check {r l : Nat} {ws : List Sg} (d : Dom r l) (h : WsOk r l ws) : rn sub N (k + 4) "check_words" [.int r, .int l, wsD ws] = .rt .non [] := by
  have h1 := r_are_words (sub := sub) N k d h
  have m2 : c_are_words.modes = [.al, .al, .al] := rfl
  have t2 := t_are_words
  unfold rn at *
  rw [run_u t_check_words, c_check_words]
  clear d h
  generalize wsD ws = W at *
  generalize (l : Int) = li at *
  generalize (r : Int) = ri at *
  generalize fl = fl' at *
  trivial
/-- what is kept -/
def KpOk (r l : Nat) (kept : List (D × D)) : Prop := kept = [] ∨ kept = numK r l
theorem r_nums {r l : Nat} (d : Dom r l) {kept : List (D × D)} (h : KpOk r l kept) (T : D) : rn sub N (k + 3) "numbers_of" [qD r l T kept] = .rt (.dct false (numsL r l)) [qD r l T (numK r l)] := by
  rcases h with rfl | rfl
  · exact r_nums0 N k d T
  · exact r_nums1 N k d T
theorem frL_tab (t : Tbl) : isFr (tabD t) = true := frL_st t
theorem r_read {r l : Nat} {t : Tbl} (h : TblOk r l t) {kept : List (D × D)} (hk : KpOk r l kept) {s : Nat} (hs : s < t.length) {c : Sg} (hc : c ∈ cl (sgn l) r) :
    rn sub N (k + 4) "read" [qD r l (tabD t) kept, .int s, colD c] = .rt (.int (lead t s (num l c) : Nat)) [qD r l (tabD t) (numK r l)] := by
  have h1 := r_nums (sub := sub) N k h.d hk (tabD t)
  have m1 : c_numbers_of.modes = [.mu] := rfl
  have t1 := t_numbers_of
  have f3 := fl_Question_table
  have f4 := fl_Question_kept
  have fr := frL_st t
  have hfn : isFr (.dct false (numsL r l)) = true := by rcases h.d with ⟨rfl, rfl⟩ | ⟨rfl, rfl⟩ | ⟨rfl, rfl⟩ <;> rfl
  have pdn : opd (.dct false (numsL r l)) = .fz (.dct false (numsL r l)) := pd_fr hfn
  rcases get_num h.d hc with ⟨e, g⟩ | ⟨e0, e1, g⟩
  · have el : lead t s (num l c) = s := by unfold lead; rw [if_pos e]
    rw [el]
    unfold rn at *
    rw [run_u t_read, c_read]
    unfold qD qF at *
    unfold tabD at *
    clear h hk hc hs el e hfn
    generalize colD c = C at *
    generalize numsL r l = L at *
    generalize numK r l = L2 at *
    generalize t.map stD = ds at *
    generalize (s : Int) = si at *
    generalize (r : Int) = ri at *
    generalize (l : Int) = li at *
    generalize fl = fl' at *
    trivial
  · obtain ⟨st, hst⟩ : ∃ st, t[s]? = some st := ⟨t[s], List.getElem?_eq_getElem hs⟩
    have hm : st ∈ t := List.mem_of_getElem? hst
    have hw := h.w st hm
    have hi : num l c - 1 < st.2.length := by omega
    obtain ⟨v, hv⟩ : ∃ v, st.2[num l c - 1]? = some v := ⟨st.2[num l c - 1], List.getElem?_eq_getElem hi⟩
    have hb := h.b st hm v (List.mem_of_getElem? hv)
    have el : ((lead t s (num l c) : Nat) : Int) = v := by
      unfold lead
      rw [if_neg (by omega), hst]
      show (((st.2)[num l c - 1]?.getD 0).toNat : Int) = v
      rw [hv]
      show ((v.toNat : Nat) : Int) = v
      omega
    rw [el]
    have hn : ((num l c : Nat) : Int) - 1 = ((num l c - 1 : Nat) : Int) := by omega
    rw [hn] at g
    have i1 : ixN (t.map stD).length (s : Int) = some s := by rw [List.length_map, ixN_nat, if_pos hs]
    have i2 : (t.map stD)[s]? = some (.tup [.bl st.1, .tup (st.2.map .int)]) := by rw [List.getElem?_map, hst]; rfl
    have i3 : ixN (st.2.map D.int).length ((num l c - 1 : Nat) : Int) = some (num l c - 1) := by rw [List.length_map, ixN_nat, if_pos hi]
    have i4 : (st.2.map D.int)[num l c - 1]? = some (.int v) := by rw [List.getElem?_map, hv]; rfl
    have i5 : ixN 2 1 = some 1 := rfl
    have fr2 := frL_ints st.2
    unfold rn at *
    rw [run_u t_read, c_read]
    unfold qD qF at *
    unfold tabD at *
    clear h hk hc hs el hfn e0 e1 hst hm hw hi hv hb hn
    generalize colD c = C at *
    generalize numsL r l = L at *
    generalize numK r l = L2 at *
    generalize t.map stD = ds at *
    generalize st.2.map D.int = rw2 at *
    generalize num l c - 1 = nc at *
    generalize (nc : Int) = ni at *
    generalize (s : Int) = si at *
    generalize (r : Int) = ri at *
    generalize (l : Int) = li at *
    generalize fl = fl' at *
    generalize st.1 = s1 at *
    trivial
end
end Kk75

set_option Elab.async false
set_option linter.all false
set_option maxRecDepth 100000
/-! k75: the answers. -/
namespace Kk75
open PySem Rw
local macro_rules
  | `(tactic| trivial) => `(tactic| simp [callD, freeze, freezeL, freezeP, isFrP, calm_ok, z_pt, al_pt0, lock, unlock, backE, wipeE, killE, Slot.kl, Out.mp, pureE, pureEs, pureO, pureI, mv_popi, mv_append, mv_pop, ty_pop, ty_append, ty_join, mut_pop, mut_join, mut_append, isStrD, initE, musOf, evSs, evEs, evO, evI, evC, tst, getP, getAt, setP, setAt,
    isFr, isFrL, aliases, alPass, argV, callR, muPl, bwRoots, okPts, shrs, as_nm, as_tp, as_0, as_1, cons_, ff_run, ff_modes, bi_len, bi_int, bi_abs, bi_sum,
    fr_ap, lc_ap, wc_ap, wb_ap, e_asg, e_sub, e_ret, e_retN, e_ifs, e_whl, e_fr, e_ex, e_rse, e_try, e_brk, e_cont, e_pass, e_lc,
    x_var, x_mv, x_lit, x_dct0, x_bop, x_neg, x_cmp, x_cmp2, x_band, x_bor, x_bnot, x_ife, x_tup, x_lst, x_sub, x_slc, x_call, x_bi, x_isi, x_mth,
    b_ok, b_exc, o_ok, o_exc, th_nx, th_rt, th_bk, th_ct, th_exc, c_fz, c_ow, c_pt, al_fz, al_ow, v_fz, v_ow, z_fz, z_ow,
    k_fz, k_ow, k_pt0, k_pt, ko_fz, ko_ow, ko_pt0, ko_pt, n_fz, n_ow, n_pt0, n_pt, p_un, p_fz, p_ow, p_bw, p_mw, sc_fz, sc_ow, sc_bw, sc_mw,
    s_fz, s_ow, s_pt, pd_non, pd_bl, pd_int, pd_str, pd_lst, pd_tup, so_t, so_non, so_bl, so_int, so_str, so_lst, so_tup, tr_bl, tr_non, tr_int,
    f_nx, f_rt, f_exc, ad_pt, ad_fz, ad_ow, cm_eq, cm_ne, cm_lt, cm_le, cm_gt, cm_ge, cm_in, cm_ni, cm_isb, cm_isnb, cm_isn, cm_isnn, is_in, eo_ss, eo_ii, eo_bb, ed_ss, ed_ii, ed_bb,
    bp_ai, bp_si, bp_mi, bp_fi, bp_ri, bp_pi, bp_as, bp_ms, bp_al, bp_at, ln_str, ln_tup, ln_lst, iv_lst, iv_tup, iv_str, is_lst,
    sl_str, sl_lst, sl_tup, sl_scr, it_str, it_lst, it_tup, ipt_fz, ipt_ow, ipt_pt, lk_n, ul_n, st_str, st_lst, st_tup,
    x_dctN, x_dget, i_enm, x_fld, x_mk, x_mcall, e_sfld, ff_flds, pd_obj, so_obj, pd_dct, so_dct, cx_ok, cx_exc, bi2_max, bi2_min, bi2_sorted, mut_find, ty_find, mt_find', mut_extend, ty_extend, mv_extend, bp_mt, iv_dct, in_dct, e_aug, av_int, av_str, isFrF, freezeF, putF, List.lookup_cons,
    u1_lst, u1_tup, u1_str, fl_int, fl_bl, fl_str, uo_nx, uo_rt, uo_exc, oo_s, ixN_0, line_s, line_t, *])
section
variable {sub : Str → Str → Option Bool} (N k : Nat)
theorem sw_turn {r l : Nat} {t : Tbl} (h : TblOk r l t) {ws : List Sg} (hw : WsOk r l ws) {kept : List (D × D)} (hk : KpOk r l kept) (p : Nat) :
    frB (FFn tab fl sub N (k + 4)) sub N [false, false, false, true] (.nm 3) true B_standing_with_0 (.int (p : Int)) [.mw (qD r l (tabD t) kept), .fz (wsD ws), .fz (.int (stand l t ws p : Nat)), .un] =
      .nx [.mw (qD r l (tabD t) (numK r l)), .fz (wsD ws), .fz (.int (stand l t ws (p + 1) : Nat)), .un] := by
  obtain ⟨w1, w2, w3, w4, w5⟩ := hw.most h.d
  have h1 := r_read (sub := sub) N k h hk (h.stand hw p) (hw.col h.d p)
  have h2 := r_column_at (sub := sub) N (k + 3) (p := p) w2 w3
  have m1 : c_read.modes = [.mu, .al, .al] := rfl
  have t1 := t_read
  have m2 : c_column_at.modes = [.al, .al] := rfl
  have t2 := t_column_at
  have es : stand l t ws (p + 1) = lead t (stand l t ws p) (num l (col ws p)) := rfl
  have fc := frL_col (ws.map (atP p))
  rw [es]
  unfold rn col at *
  unfold qD qF colD at *
  clear w1 w2 w3 w4 w5 h hw hk es
  generalize (List.map (fun x => D.str [x]) (ws.map (atP p))) = C at *
  generalize wsD ws = W at *
  generalize tabD t = T at *
  generalize numK r l = K2 at *
  generalize ((stand l t ws p : Nat) : Int) = s at *
  generalize ((lead t (stand l t ws p) (num l (ws.map (atP p))) : Nat) : Int) = s2 at *
  generalize (p : Int) = q at *
  generalize (l : Int) = li at *
  generalize (r : Int) = ri at *
  generalize fl = fl' at *
  rw [B_standing_with_0]
  trivial
theorem sw_body {F : Fn} {a b : Slot} {s : Int} {s2 : Slot} {S : Rw.St} {a2 : Slot} (hS : evS F sub N S [a, b, .fz (.int 0), .un] = .nx [a2, b, .fz (.int s), .un]) : evSs F sub N [(.asg (.nm 2) (.lit (.int (0)))), S, (.ret (.mv 2))] [a, b, .un, .un] = .rt (.int s) [a2, b, .fz (.int s), .un] := by
  trivial
theorem r_standing_with {r l : Nat} {t : Tbl} (h : TblOk r l t) {ws : List Sg} (hw : WsOk r l ws) {kept : List (D × D)} (hk : KpOk r l kept) :
    ∃ kept', KpOk r l kept' ∧ rn sub N (k + 5) "standing_with" [qD r l (tabD t) kept, wsD ws] = .rt (.int (stand l t ws (most ws) : Nat)) [qD r l (tabD t) kept'] := by
  obtain ⟨w1, w2, w3, w4, w5⟩ := hw.most h.d
  have hl : evE (FFn tab fl sub N (k + 4)) (.call "longest" [(.var 1)]) [.mw (qD r l (tabD t) kept), .fz (wsD ws), .fz (.int 0), .un] = .ok (.fz (.int (most ws : Nat))) [.mw (qD r l (tabD t) kept), .fz (wsD ws), .fz (.int 0), .un] := by
    have h1 := r_longest (sub := sub) N (k + 3) w1 w2 w3
    rw [w4] at h1
    have m1 : c_longest.modes = [.al] := rfl
    have t1 := t_longest
    unfold rn at *
    clear w1 w2 w3 w4 w5 h hw hk
    generalize qD r l (tabD t) kept = Q at *
    generalize wsD ws = W at *
    generalize ((most ws : Nat) : Int) = m at *
    generalize fl = fl' at *
    trivial
  obtain ⟨⟨kp, s⟩, e1, e2, e3⟩ := forL_rng (σ := List (D × D) × Nat) (fun st => [.mw (qD r l (tabD t) st.1), .fz (wsD ws), .fz (.int (st.2 : Int)), .un]) (f := frB (FFn tab fl sub N (k + 4)) sub N [false, false, false, true] (.nm 3) true B_standing_with_0)
    (fun i st => KpOk r l st.1 ∧ st.2 = stand l t ws i.toNat) (hi := (most ws : Nat)) (most ws) 0 (kept, 0) (by omega) (by omega) ⟨hk, rfl⟩ (fun i st h0 h1 ⟨hk, hs⟩ => by
      obtain ⟨p, rfl⟩ := Int.eq_ofNat_of_zero_le h0
      rw [Int.toNat_natCast] at hs
      obtain ⟨kp, s⟩ := st
      dsimp only at hs
      subst hs
      exact ⟨(numK r l, stand l t ws (p + 1)), sw_turn N k h hw hk p, .inr rfl, by rw [show ((p : Int) + 1).toNat = p + 1 by omega]⟩)
  refine ⟨kp, e2, ?_⟩
  rw [Int.toNat_natCast] at e3
  dsimp only at e1 e3
  subst e3
  have hS : evS (FFn tab fl sub N (k + 4)) sub N S_standing_with_0 [.mw (qD r l (tabD t) kept), .fz (wsD ws), .fz (.int 0), .un] = .nx [.mw (qD r l (tabD t) kp), .fz (wsD ws), .fz (.int (stand l t ws (most ws) : Nat)), .un] := by
    rw [S_standing_with_0]
    exact (fr_run (i_rng hl (rOk_small (by omega) (by omega))) e1).trans uo_id
  have body := sw_body (sub := sub) N (s2 := .un) hS
  unfold rn
  rw [run_u t_standing_with]
  unfold callD
  show finish [.mu, .al] (evSs _ _ _ _ [.mw (qD r l (tabD t) kept), .fz (wsD ws), .un, .un]) = _
  rw [show c_standing_with.body = [(.asg (.nm 2) (.lit (.int (0)))), S_standing_with_0, (.ret (.mv 2))] from rfl, body]
  rfl
theorem flag_at {t : Tbl} {s : Nat} (hs : s < t.length) : ∃ st : Bool × List Int, (t.map stD)[s]? = some (.tup [.bl st.1, .tup (st.2.map .int)]) ∧ st.1 = flag t s := by
  refine ⟨t[s], by rw [List.getElem?_map, List.getElem?_eq_getElem hs]; rfl, ?_⟩
  unfold flag
  rw [List.getElem?_eq_getElem hs]
  rfl
theorem r_answer_to {r l : Nat} {t : Tbl} (h : TblOk r l t) {ws : List Sg} (hw : WsOk r l ws) {kept : List (D × D)} (hk : KpOk r l kept) :
    ∃ kept', KpOk r l kept' ∧ rn sub N (k + 6) "answer_to" [qD r l (tabD t) kept, wsD ws] = .rt (.bl (ansr l t ws)) [qD r l (tabD t) kept'] := by
  obtain ⟨kp, hkp, h1⟩ := r_standing_with (sub := sub) N k h hw hk
  refine ⟨kp, hkp, ?_⟩
  have m1 : c_standing_with.modes = [.mu, .al] := rfl
  have t1 := t_standing_with
  have f3 := fl_Question_table
  have hs := h.stand hw (most ws)
  obtain ⟨st, i2, i3⟩ := flag_at hs
  have i1 : ixN (t.map stD).length (stand l t ws (most ws) : Nat) = some (stand l t ws (most ws)) := by rw [List.length_map, ixN_nat, if_pos hs]
  have i5 : ixN 2 0 = some 0 := rfl
  have fr := frL_st t
  have fr2 := frL_ints st.2
  have ea : ansr l t ws = st.1 := i3.symm
  rw [ea]
  unfold rn at *
  rw [run_u t_answer_to, c_answer_to]
  unfold qD qF at *
  unfold tabD at *
  clear h hw hk hkp hs i3 ea
  generalize t.map stD = ds at *
  generalize st.2.map D.int = rw2 at *
  generalize stand l t ws (most ws) = s at *
  generalize (s : Int) = si at *
  generalize wsD ws = W at *
  generalize (l : Int) = li at *
  generalize (r : Int) = ri at *
  generalize fl = fl' at *
  generalize st.1 = s1 at *
  trivial
theorem r_answer {r l : Nat} {t : Tbl} (h : TblOk r l t) {ws : List Sg} (hw : WsOk r l ws) {kept : List (D × D)} (hk : KpOk r l kept) :
    ∃ kept', KpOk r l kept' ∧ rn sub N (k + 7) "answer" [qD r l (tabD t) kept, wsD ws] = .rt (.bl (ansr l t ws)) [qD r l (tabD t) kept'] := by
  obtain ⟨kp, hkp, h1⟩ := r_answer_to (sub := sub) N k h hw hk
  refine ⟨kp, hkp, ?_⟩
  have h2 := r_check (sub := sub) N (k + 2) h.d hw
  have m1 : c_answer_to.modes = [.mu, .al] := rfl
  have t1 := t_answer_to
  have m2 : c_check_words.modes = [.al, .al, .al] := rfl
  have t2 := t_check_words
  have f1 := fl_Question_rows
  have f2 := fl_Question_letters
  unfold rn at *
  rw [run_u t_answer, c_answer]
  unfold qD qF at *
  clear h hw hk hkp
  generalize tabD t = T at *
  generalize wsD ws = W at *
  generalize ansr l t ws = a at *
  generalize (l : Int) = li at *
  generalize (r : Int) = ri at *
  generalize fl = fl' at *
  trivial
/-! ### the law's own -/
def spD (r l : Nat) (t : Tbl) : D := .tup [.int r, .int l, tabD t]
theorem find_sgn {x : Nat} (h : x ∈ [45, 97, 98]) : findS [45, 97, 98] x = some ((if x = 45 then 0 else if x = 97 then 1 else 2 : Nat) : Int) := by
  simp at h
  rcases h with rfl | rfl | rfl <;> decide
theorem lead_turn {r l : Nat} {T d : D} {s n j : Int} {x : Nat} (hx : findS [45, 97, 98] x = some j) (hl : small ((l : Int) + 1) = true) : frB (FFn tab fl sub N k) sub N [false, false, true, false, true] (.nm 4) true B__law_lead_0 (.str [x]) [.fz (.tup [.int r, .int l, T]), .fz (.int s), .un, .fz (.int n), .un] =
    .nx [.fz (.tup [.int r, .int l, T]), .fz (.int s), .un, .fz (.int (n * ((l : Int) + 1) + j)), .un] := by
  have i1 : ixN 3 1 = some 1 := rfl
  rw [B__law_lead_0]
  generalize (l : Int) = li at *
  generalize (r : Int) = ri at *
  generalize fl = fl' at *
  trivial
theorem lead_loop {r l : Nat} {T d : D} {s : Int} (hl : l ≤ 2) : ∀ (c : Sg) (n : Nat), (∀ x ∈ c, x ∈ [45, 97, 98]) → forL (frB (FFn tab fl sub N k) sub N [false, false, true, false, true] (.nm 4) true B__law_lead_0) (c.map fun x => .str [x]) [.fz (.tup [.int r, .int l, T]), .fz (.int s), .un, .fz (.int (n : Int)), .un] =
    .nx [.fz (.tup [.int r, .int l, T]), .fz (.int s), .un, .fz (.int ((c.foldl (fun n x => n * (l + 1) + (if x = 45 then 0 else if x = 97 then 1 else 2)) n : Nat) : Int)), .un]
  | [], n, _ => by rw [List.map_nil, forL]; rfl
  | x :: c, n, h => by
    have hsm : small ((l : Int) + 1) = true := by
      have : l = 0 ∨ l = 1 ∨ l = 2 := by omega
      rcases this with rfl | rfl | rfl <;> decide
    have e := lead_turn (sub := sub) N k (r := r) (l := l) (T := T) (d := d) (s := s) (n := n) (find_sgn (h x List.mem_cons_self)) hsm
    rw [List.map_cons, forL, e]
    have ih := lead_loop (d := d) (r := r) (T := T) (s := s) hl c (n * (l + 1) + (if x = 45 then 0 else if x = 97 then 1 else 2)) fun y hy => h y (List.mem_cons_of_mem _ hy)
    rw [List.foldl_cons, ← ih]
    congr 6
end
end Kk75

set_option Elab.async false
set_option linter.all false
set_option maxRecDepth 100000
/-! k75: the law's own answer. -/
namespace Kk75
open PySem Rw
local macro_rules
  | `(tactic| trivial) => `(tactic| simp [callD, freeze, freezeL, freezeP, isFrP, calm_ok, z_pt, al_pt0, lock, unlock, backE, wipeE, killE, Slot.kl, Out.mp, pureE, pureEs, pureO, pureI, mv_popi, mv_append, mv_pop, ty_pop, ty_append, ty_join, mut_pop, mut_join, mut_append, isStrD, initE, musOf, evSs, evEs, evO, evI, evC, tst, getP, getAt, setP, setAt,
    isFr, isFrL, aliases, alPass, argV, callR, muPl, bwRoots, okPts, shrs, as_nm, as_tp, as_0, as_1, cons_, ff_run, ff_modes, bi_len, bi_int, bi_abs, bi_sum,
    fr_ap, lc_ap, wc_ap, wb_ap, e_asg, e_sub, e_ret, e_retN, e_ifs, e_whl, e_fr, e_ex, e_rse, e_try, e_brk, e_cont, e_pass, e_lc,
    x_var, x_mv, x_lit, x_dct0, x_bop, x_neg, x_cmp, x_cmp2, x_band, x_bor, x_bnot, x_ife, x_tup, x_lst, x_sub, x_slc, x_call, x_bi, x_isi, x_mth,
    b_ok, b_exc, o_ok, o_exc, th_nx, th_rt, th_bk, th_ct, th_exc, c_fz, c_ow, c_pt, al_fz, al_ow, v_fz, v_ow, z_fz, z_ow,
    k_fz, k_ow, k_pt0, k_pt, ko_fz, ko_ow, ko_pt0, ko_pt, n_fz, n_ow, n_pt0, n_pt, p_un, p_fz, p_ow, p_bw, p_mw, sc_fz, sc_ow, sc_bw, sc_mw,
    s_fz, s_ow, s_pt, pd_non, pd_bl, pd_int, pd_str, pd_lst, pd_tup, so_t, so_non, so_bl, so_int, so_str, so_lst, so_tup, tr_bl, tr_non, tr_int,
    f_nx, f_rt, f_exc, ad_pt, ad_fz, ad_ow, cm_eq, cm_ne, cm_lt, cm_le, cm_gt, cm_ge, cm_in, cm_ni, cm_isb, cm_isnb, cm_isn, cm_isnn, is_in, eo_ss, eo_ii, eo_bb, ed_ss, ed_ii, ed_bb,
    bp_ai, bp_si, bp_mi, bp_fi, bp_ri, bp_pi, bp_as, bp_ms, bp_al, bp_at, ln_str, ln_tup, ln_lst, iv_lst, iv_tup, iv_str, is_lst,
    sl_str, sl_lst, sl_tup, sl_scr, it_str, it_lst, it_tup, ipt_fz, ipt_ow, ipt_pt, lk_n, ul_n, st_str, st_lst, st_tup,
    x_dctN, x_dget, i_enm, x_fld, x_mk, x_mcall, e_sfld, ff_flds, pd_obj, so_obj, pd_dct, so_dct, cx_ok, cx_exc, bi2_max, bi2_min, bi2_sorted, mut_find, ty_find, mt_find', mut_extend, ty_extend, mv_extend, bp_mt, iv_dct, in_dct, e_aug, av_int, av_str, isFrF, freezeF, putF, List.lookup_cons,
    u1_lst, u1_tup, u1_str, fl_int, fl_bl, fl_str, uo_nx, uo_rt, uo_exc, oo_s, ixN_0, line_s, line_t, *])
section
variable {sub : Str → Str → Option Bool} (N k : Nat)
theorem i_tup {F : Fn} {i : Nat} {xs : List D} {ρ : Rw.Env} (h : ρ[i]? = some (.fz (.tup xs))) : evI F (.seq (.var i)) ρ = .ok (xs, true, none) ρ := by
  trivial
theorem ll_body {F : Fn} {a b c : Slot} {S : Rw.St} {o : Out} {ss : List Rw.St} {ρ1 : Rw.Env} (hS : evS F sub N S [a, b, c, .fz (.int 0), .un] = .nx ρ1) (h2 : evSs F sub N ss ρ1 = o) : evSs F sub N ((.asg (.nm 3) (.lit (.int (0)))) :: S :: ss) [a, b, c, .un, .un] = o := by
  rw [← h2]
  clear h2
  have e : evS F sub N (.asg (.nm 3) (.lit (.int (0)))) [a, b, c, .un, .un] = .nx [a, b, c, .fz (.int 0), .un] := by
    clear hS
    trivial
  rw [evSs, e, th_nx, evSs, hS, th_nx]
def llR : Ex := (.ife (.cmp .eq (.var 3) (.lit (.int (0)))) (.var 1) (.sub (.sub (.sub (.sub (.var 0) (.lit (.int (2)))) (.var 1)) (.lit (.int (1)))) (.bop .Sub (.var 3) (.lit (.int (1))))))
theorem ll_ret0 {F : Fn} {a b : D} {s : Int} : evSs F sub N [.ret llR] [.fz a, .fz (.int s), .un, .fz (.int 0), .un] = .rt (.int s) [.fz a, .fz (.int s), .un, .fz (.int 0), .un] := by
  unfold llR
  trivial
theorem ll_ret1 {F : Fn} {a b : D} {ds rw2 : List D} {s n v : Int} {s' n' : Nat} {s1 : Bool} (hn : ¬ n = 0) (i1 : ixN ds.length s = some s') (i2 : ds[s']? = some (.tup [.bl s1, .tup rw2])) (i3 : ixN rw2.length (n - 1) = some n') (i4 : rw2[n']? = some (.int v)) (fr : isFrL ds = true) (fr2 : isFrL rw2 = true) :
    evSs F sub N [.ret llR] [.fz (.tup [a, b, .tup ds]), .fz (.int s), .un, .fz (.int n), .un] = .rt (.int v) [.fz (.tup [a, b, .tup ds]), .fz (.int s), .un, .fz (.int n), .un] := by
  unfold llR
  have i5 : ixN 3 2 = some 2 := rfl
  have i6 : ixN 2 1 = some 1 := rfl
  trivial
theorem r_law_lead {r l : Nat} {t : Tbl} (h : TblOk r l t) {s : Nat} (hs : s < t.length) {c : Sg} (hc : c ∈ cl (sgn l) r) (hx : ∀ x ∈ c, x ∈ [45, 97, 98]) :
    rn sub N (k + 1) "_law_lead" [spD r l t, .int s, colD c] = .rt (.int (lead t s (num l c) : Nat)) [] := by
  have hl := h.d.l2
  have e1 := lead_loop (sub := sub) N k (r := r) (T := tabD t) (d := .non) (s := (s : Int)) hl c 0 hx
  have e1 : forL (frB (FFn tab fl sub N k) sub N [false, false, true, false, true] (.nm 4) true B__law_lead_0) (c.map fun x => .str [x]) [.fz (spD r l t), .fz (.int s), .un, .fz (.int ((0 : Nat) : Int)), .un] = .nx [.fz (spD r l t), .fz (.int s), .un, .fz (.int (num l c : Nat)), .un] := e1
  have hS : evS (FFn tab fl sub N k) sub N S__law_lead_0 [.fz (spD r l t), .fz (.int s), .fz (colD c), .fz (.int 0), .un] = .nx [.fz (spD r l t), .fz (.int s), .un, .fz (.int (num l c : Nat)), .un] := by
    rw [S__law_lead_0]
    exact (fr_run (i_tup rfl) e1).trans uo_id
  have fin : evSs (FFn tab fl sub N k) sub N [.ret llR] [.fz (spD r l t), .fz (.int s), .un, .fz (.int (num l c : Nat)), .un] = .rt (.int (lead t s (num l c) : Nat)) [.fz (spD r l t), .fz (.int s), .un, .fz (.int (num l c : Nat)), .un] := by
    rcases get_num h.d hc with ⟨e, _⟩ | ⟨e0, e1, _⟩
    · have el : lead t s (num l c) = s := by unfold lead; rw [if_pos e]
      rw [el, e]
      exact ll_ret0 N (b := .non)
    · obtain ⟨st, hst⟩ : ∃ st, t[s]? = some st := ⟨t[s], List.getElem?_eq_getElem hs⟩
      have hm : st ∈ t := List.mem_of_getElem? hst
      have hw := h.w st hm
      have hi : num l c - 1 < st.2.length := by omega
      obtain ⟨v, hv⟩ : ∃ v, st.2[num l c - 1]? = some v := ⟨st.2[num l c - 1], List.getElem?_eq_getElem hi⟩
      have hb := h.b st hm v (List.mem_of_getElem? hv)
      have el : ((lead t s (num l c) : Nat) : Int) = v := by
        unfold lead
        rw [if_neg (by omega), hst]
        show (((st.2)[num l c - 1]?.getD 0).toNat : Int) = v
        rw [hv]
        show ((v.toNat : Nat) : Int) = v
        omega
      rw [el]
      have hn : ((num l c : Nat) : Int) - 1 = ((num l c - 1 : Nat) : Int) := by omega
      unfold spD tabD
      exact ll_ret1 N (s' := s) (n' := num l c - 1) (s1 := st.1) (rw2 := st.2.map .int) (by omega) (by rw [List.length_map, ixN_nat, if_pos hs]) (by rw [List.getElem?_map, hst]; rfl) (by rw [hn, List.length_map, ixN_nat, if_pos hi]) (by rw [List.getElem?_map, hv]; rfl) (frL_st t) (frL_ints st.2)
  unfold rn
  rw [run_u t__law_lead]
  unfold callD
  show finish [.al, .al, .al] (evSs _ _ _ _ [.fz (spD r l t), .fz (.int s), .fz (colD c), .un, .un]) = _
  rw [show c__law_lead.body = [(.asg (.nm 3) (.lit (.int (0)))), S__law_lead_0, .ret llR] from rfl, ll_body N hS fin]
  rfl
theorem sgn_sub {l : Nat} {x : Nat} (h : x ∈ sgn l) : x ∈ [45, 97, 98] := List.mem_of_mem_take h
theorem cl_sub {s : Sg} : ∀ {n : Nat} {c : Sg}, c ∈ cl s n → ∀ x ∈ c, x ∈ s
  | 0, c, h, x, hx => by rw [List.mem_singleton.mp h] at hx; cases hx
  | n + 1, c, h, x, hx => by
    obtain ⟨c', hc', h2⟩ := List.mem_flatMap.mp h
    obtain ⟨y, hy, rfl⟩ := List.mem_map.mp h2
    rcases List.mem_append.mp hx with z | z
    · exact cl_sub hc' x z
    · rw [List.mem_singleton.mp z]; exact hy
theorem la_turn {r l : Nat} {t : Tbl} (h : TblOk r l t) {ws : List Sg} (hw : WsOk r l ws) (p : Nat) :
    frB (FFn tab fl sub N (k + 1)) sub N [false, false, false, true, true] (.nm 3) true B__law_answer_0 (.int (p : Int)) [.fz (spD r l t), .fz (wsD ws), .fz (.int (stand l t ws p : Nat)), .un, .un] =
      .nx [.fz (spD r l t), .fz (wsD ws), .fz (.int (stand l t ws (p + 1) : Nat)), .un, .un] := by
  obtain ⟨w1, w2, w3, w4, w5⟩ := hw.most h.d
  have h1 := r_law_lead (sub := sub) N k h (h.stand hw p) (hw.col h.d p) (fun x hx => sgn_sub (cl_sub (hw.col h.d p) x hx))
  have h2 := r_law_column_at (sub := sub) N k (p := p) w2 w3
  have m1 : c__law_lead.modes = [.al, .al, .al] := rfl
  have t1 := t__law_lead
  have m2 : c__law_column_at.modes = [.al, .al] := rfl
  have t2 := t__law_column_at
  have es : stand l t ws (p + 1) = lead t (stand l t ws p) (num l (col ws p)) := rfl
  have fc := frL_col (ws.map (atP p))
  rw [es]
  unfold rn col at *
  unfold colD at *
  clear w1 w2 w3 w4 w5 h hw es
  generalize (List.map (fun x => D.str [x]) (ws.map (atP p))) = C at *
  generalize wsD ws = W at *
  generalize spD r l t = T at *
  generalize ((stand l t ws p : Nat) : Int) = s at *
  generalize ((lead t (stand l t ws p) (num l (ws.map (atP p))) : Nat) : Int) = s2 at *
  generalize (p : Int) = q at *
  generalize fl = fl' at *
  rw [B__law_answer_0]
  trivial
theorem max_arg {F : Fn} {e : Ex} {L : List Int} {ρ : Rw.Env} (h : evE F e ρ = .ok (.ow (.lst true (L.map .int))) ρ) (hL : ¬ L = []) : evE F (.bi "max" [e]) ρ = .ok (.fz (.int (maxI L))) ρ := by
  have hR := intsOf_ints L
  generalize L.map D.int = R at *
  trivial
theorem la_lens {F : Fn} {ws : List Sg} {a : D} {s : Int} (hn : ws.length ≤ 1000) (hl : ∀ w ∈ ws, w.length ≤ 16777216) : evE F C__law_answer_0 [.fz a, .fz (wsD ws), .fz (.int s), .un, .un] = .ok (.ow (.lst true ((lens ws).map .int))) [.fz a, .fz (wsD ws), .fz (.int s), .un, .un] := by
  obtain ⟨ρ', e9, e2⟩ := lcL_pure (f := lcB F (.nm 4) true none (.bi "len" [(.var 4)])) (own := [4]) (ρ0 := [.fz a, .fz (wsD ws), .fz (.int s), .un, .un]) (fun d => match d with
    | .str w => some (.int (w.length : Int))
    | _ => none) (ws.map .str) [] [.fz a, .fz (wsD ws), .fz (.int s), .un, .un] rfl (by rw [List.length_map]; exact Nat.le_trans (by simpa using hn) (by decide)) (fun x hx => by
      obtain ⟨w, hw, rfl⟩ := List.mem_map.mp hx
      have hl' := hl w hw
      refine ⟨[.fz a, .fz (wsD ws), .fz (.int s), .un, .fz (.str w)], ?_, rfl⟩
      clear hl hn hx
      trivial)
  have e1 : lcL (lcB F (.nm 4) true none (.bi "len" [(.var 4)])) [4] (ws.map D.str) [] [.fz a, .fz (wsD ws), .fz (.int s), .un, .un] = .ok (ws.map fun w => D.int (w.length : Int)) ρ' := e9.trans (congrArg (Rr.ok · ρ') (filterMap_strs (fun w => .int (w.length : Int)) ws))
  have e : (ws.map fun w => D.int (w.length : Int)) = (lens ws).map .int := by unfold lens; rw [List.map_map]; rfl
  rw [e] at e1
  clear e9
  have fr := frL_strs ws
  rw [C__law_answer_0]
  unfold wsD at *
  have e2' : ρ'.set 4 .un = _ := e2
  clear e2 hl hn e
  generalize ws.map D.str = W at *
  generalize (lens ws).map D.int = R at *
  trivial
theorem la_body {F : Fn} {a b : Slot} {S : Rw.St} {o : Out} {ss : List Rw.St} {ρ1 : Rw.Env} (hS : evS F sub N S [a, b, .fz (.int 0), .un, .un] = .nx ρ1) (h2 : evSs F sub N ss ρ1 = o) : evSs F sub N ((.asg (.nm 2) (.lit (.int (0)))) :: S :: ss) [a, b, .un, .un, .un] = o := by
  rw [← h2]
  clear h2
  have e : evS F sub N (.asg (.nm 2) (.lit (.int (0)))) [a, b, .un, .un, .un] = .nx [a, b, .fz (.int 0), .un, .un] := by
    clear hS
    trivial
  rw [evSs, e, th_nx, evSs, hS, th_nx]
theorem la_ret {F : Fn} {a b w : D} {ds rw2 : List D} {s : Int} {s' : Nat} {s1 : Bool} (i1 : ixN ds.length s = some s') (i2 : ds[s']? = some (.tup [.bl s1, .tup rw2])) (fr : isFrL ds = true) (fr2 : isFrL rw2 = true) :
    evSs F sub N [(.ret (.sub (.sub (.sub (.var 0) (.lit (.int (2)))) (.var 2)) (.lit (.int (0)))))] [.fz (.tup [a, b, .tup ds]), .fz w, .fz (.int s), .un, .un] = .rt (.bl s1) [.fz (.tup [a, b, .tup ds]), .fz w, .fz (.int s), .un, .un] := by
  have i5 : ixN 3 2 = some 2 := rfl
  have i6 : ixN 2 0 = some 0 := rfl
  trivial
theorem r_law_answer {r l : Nat} {t : Tbl} (h : TblOk r l t) {ws : List Sg} (hw : WsOk r l ws) : rn sub N (k + 2) "_law_answer" [spD r l t, wsD ws] = .rt (.bl (ansr l t ws)) [] := by
  obtain ⟨w1, w2, w3, w4, w5⟩ := hw.most h.d
  have hl := max_arg (la_lens (F := FFn tab fl sub N (k + 1)) (a := spD r l t) (s := 0) w2 w3) (by unfold lens; simpa using w1)
  rw [w4] at hl
  obtain ⟨s, e1, e3⟩ := forL_rng (σ := Nat) (fun st => [.fz (spD r l t), .fz (wsD ws), .fz (.int (st : Int)), .un, .un]) (f := frB (FFn tab fl sub N (k + 1)) sub N [false, false, false, true, true] (.nm 3) true B__law_answer_0)
    (fun i st => st = stand l t ws i.toNat) (hi := (most ws : Nat)) (most ws) 0 0 (by omega) (by omega) rfl (fun i st h0 h1 hs => by
      obtain ⟨p, rfl⟩ := Int.eq_ofNat_of_zero_le h0
      rw [Int.toNat_natCast] at hs
      subst hs
      exact ⟨stand l t ws (p + 1), la_turn N k h hw p, by rw [show ((p : Int) + 1).toNat = p + 1 by omega]⟩)
  rw [Int.toNat_natCast] at e3
  subst e3
  have hS : evS (FFn tab fl sub N (k + 1)) sub N S__law_answer_0 [.fz (spD r l t), .fz (wsD ws), .fz (.int 0), .un, .un] = .nx [.fz (spD r l t), .fz (wsD ws), .fz (.int (stand l t ws (most ws) : Nat)), .un, .un] := by
    rw [S__law_answer_0]
    exact (fr_run (i_rng hl (rOk_small (by omega) (by omega))) e1).trans uo_id
  have hs := h.stand hw (most ws)
  obtain ⟨st, i2, i3⟩ := flag_at hs
  have fin := la_ret (sub := sub) N (F := FFn tab fl sub N (k + 1)) (a := .int r) (b := .int l) (w := wsD ws) (ds := t.map stD) (s := (stand l t ws (most ws) : Nat)) (by rw [List.length_map, ixN_nat, if_pos hs]) i2 (frL_st t) (frL_ints st.2)
  unfold rn
  rw [run_u t__law_answer]
  unfold callD
  show finish [.al, .al] (evSs _ _ _ _ [.fz (spD r l t), .fz (wsD ws), .un, .un, .un]) = _
  rw [show c__law_answer.body = [(.asg (.nm 2) (.lit (.int (0)))), S__law_answer_0, (.ret (.sub (.sub (.sub (.var 0) (.lit (.int (2)))) (.var 2)) (.lit (.int (0)))))] from rfl, la_body N hS fin, i3]
  rfl
end
end Kk75

set_option Elab.async false
set_option linter.all false
set_option maxRecDepth 100000
/-! k75: tables that are drawn. -/
namespace Kk75
open PySem Rw
local macro_rules
  | `(tactic| trivial) => `(tactic| simp [callD, freeze, freezeL, freezeP, isFrP, calm_ok, z_pt, al_pt0, lock, unlock, backE, wipeE, killE, Slot.kl, Out.mp, pureE, pureEs, pureO, pureI, mv_popi, mv_append, mv_pop, ty_pop, ty_append, ty_join, mut_pop, mut_join, mut_append, isStrD, initE, musOf, evSs, evEs, evO, evI, evC, tst, getP, getAt, setP, setAt,
    isFr, isFrL, aliases, alPass, argV, callR, muPl, bwRoots, okPts, shrs, as_nm, as_tp, as_0, as_1, cons_, ff_run, ff_modes, bi_len, bi_int, bi_abs, bi_sum,
    fr_ap, lc_ap, wc_ap, wb_ap, e_asg, e_sub, e_ret, e_retN, e_ifs, e_whl, e_fr, e_ex, e_rse, e_try, e_brk, e_cont, e_pass, e_lc,
    x_var, x_mv, x_lit, x_dct0, x_bop, x_neg, x_cmp, x_cmp2, x_band, x_bor, x_bnot, x_ife, x_tup, x_lst, x_sub, x_slc, x_call, x_bi, x_isi, x_mth,
    b_ok, b_exc, o_ok, o_exc, th_nx, th_rt, th_bk, th_ct, th_exc, c_fz, c_ow, c_pt, al_fz, al_ow, v_fz, v_ow, z_fz, z_ow,
    k_fz, k_ow, k_pt0, k_pt, ko_fz, ko_ow, ko_pt0, ko_pt, n_fz, n_ow, n_pt0, n_pt, p_un, p_fz, p_ow, p_bw, p_mw, sc_fz, sc_ow, sc_bw, sc_mw,
    s_fz, s_ow, s_pt, pd_non, pd_bl, pd_int, pd_str, pd_lst, pd_tup, so_t, so_non, so_bl, so_int, so_str, so_lst, so_tup, tr_bl, tr_non, tr_int,
    f_nx, f_rt, f_exc, ad_pt, ad_fz, ad_ow, cm_eq, cm_ne, cm_lt, cm_le, cm_gt, cm_ge, cm_in, cm_ni, cm_isb, cm_isnb, cm_isn, cm_isnn, is_in, eo_ss, eo_ii, eo_bb, ed_ss, ed_ii, ed_bb,
    bp_ai, bp_si, bp_mi, bp_fi, bp_ri, bp_pi, bp_as, bp_ms, bp_al, bp_at, ln_str, ln_tup, ln_lst, iv_lst, iv_tup, iv_str, is_lst,
    sl_str, sl_lst, sl_tup, sl_scr, it_str, it_lst, it_tup, ipt_fz, ipt_ow, ipt_pt, lk_n, ul_n, st_str, st_lst, st_tup,
    x_dctN, x_dget, i_enm, x_fld, x_mk, x_mcall, e_sfld, ff_flds, pd_obj, so_obj, pd_dct, so_dct, cx_ok, cx_exc, bi2_max, bi2_min, bi2_sorted, mut_find, ty_find, mt_find', mut_extend, ty_extend, mv_extend, bp_mt, iv_dct, in_dct, e_aug, av_int, av_str, isFrF, freezeF, putF, List.lookup_cons,
    u1_lst, u1_tup, u1_str, fl_int, fl_bl, fl_str, uo_nx, uo_rt, uo_exc, oo_s, ixN_0, line_s, line_t, *])
/-- a row of a table of m standings -/
def RowOk (r l : Nat) (m : Int) (s : Bool × List Int) : Prop := s.2.length = (rds r l).length ∧ ∀ x ∈ s.2, 0 ≤ x ∧ x < m
theorem TblOk.of {r l : Nat} {t : Tbl} (d : Dom r l) (lo : 1 ≤ t.length) (hi : t.length ≤ 8) (h : ∀ s ∈ t, RowOk r l t.length s) : TblOk r l t := ⟨d, lo, hi, fun s hs => (h s hs).1, fun s hs => (h s hs).2⟩
def intsD (xs : List Int) : D := .lst true (xs.map .int)
def rowsD (t : Tbl) : D := .lst true (t.map stD)
section
variable {sub : Str → Str → Option Bool} (N k : Nat)
theorem map_app1 {α β : Type} (f : α → β) (xs : List α) (x : α) : (xs ++ [x]).map f = xs.map f ++ [f x] := by simp
theorem frL_cols (cs : List Sg) : isFrL (cs.map colD) = true := by
  induction cs with
  | nil => rfl
  | cons c cs ih =>
    show (isFrL (c.map fun x => D.str [x]) && isFrL (cs.map colD)) = true
    rw [frL_col, ih] <;> rfl
theorem cut_cols {r l : Nat} (d : Dom r l) : cut ((cl (sgn l) r).map colD) (some 1) none = (rds r l).map colD := by
  have hne : cl (sgn l) r ≠ [] := by rcases d with ⟨rfl, rfl⟩ | ⟨rfl, rfl⟩ | ⟨rfl, rfl⟩ <;> decide
  unfold rds
  cases h : cl (sgn l) r with
  | nil => exact (hne h).elim
  | cons c cs => exact cut_one
theorem cols_it0 {fl' : String → String → Bool} {C R : List D} {ri li : Int} {a : Slot} {ρ : Rw.Env} (h1 : run tab fl' sub N (k + 1) "_law_columns" [.int ri, .int li] = .rt (.lst false C) []) (m1 : c__law_columns.modes = [.al, .al]) (t1 : tab "_law_columns" = some c__law_columns)
    (fr2 : isFrL R = true) (ec : cut C (some 1) none = R) (pd : opd (.lst false C) = .fz (.lst false C)) : evI (FFn tab fl' sub N (k + 1)) (.seq (.slc (.call "_law_columns" [(.var 1), (.var 2)]) (some (.lit (.int (1)))) none)) (a :: .fz (.int ri) :: .fz (.int li) :: ρ) = .ok (R, false, none) (a :: .fz (.int ri) :: .fz (.int li) :: ρ) := by
  trivial
/-- the table's columns, walked -/
theorem cols_it {r l : Nat} (d : Dom r l) {a : Slot} {ρ : Rw.Env} : evI (FFn tab fl sub N (k + 1)) (.seq (.slc (.call "_law_columns" [(.var 1), (.var 2)]) (some (.lit (.int (1)))) none)) (a :: .fz (.int r) :: .fz (.int l) :: ρ) = .ok ((rds r l).map colD, false, none) (a :: .fz (.int r) :: .fz (.int l) :: ρ) :=
  cols_it0 N k (r_law_columns (sub := sub) N k d) rfl t__law_columns (frL_cols (rds r l)) (cut_cols d) (pd_fr (by
    show (!false && isFrL _) = true
    rw [frL_cols] <;> rfl))
theorem bt_ints (o : Bool) (xs : List D) : biV "tuple" [.lst o xs] = some (.tup xs) := by rw [bi_tuple]
/-! #### drawn ones -/
theorem dt_in {p : D} (hp : PlOk p) {m w u : Int} (hm : 0 < m ∧ m ≤ 4) (hu : 0 ≤ u ∧ u < m) {pb : Bool} {T : D} {xs : List Int} (hx : xs.length < 1000) (z : D) :
    ∃ p' y, frB (FFn tab fl sub N (k + 1)) sub N [false, true, true, false, false, false, false, true, false, false, true, true] (.nm 10) true B__law_drawn_table_0 z [.mw p, .un, .un, .fz (.int m), .fz (.bl pb), .fz (.int w), .ow T, .un, .fz (.int u), .ow (intsD xs), .un, .un] =
      .nx [.mw p', .un, .un, .fz (.int m), .fz (.bl pb), .fz (.int w), .ow T, .un, .fz (.int u), .ow (intsD (xs ++ [y])), .un, .un] ∧ PlOk p' ∧ 0 ≤ y ∧ y < m := by
  obtain ⟨n1, p1, d1, a1, b1, hp1⟩ := r_draw (sub := sub) N k hp (m := m) hm.1 (by omega)
  have m1 : c__law_draw.modes = [.mu, .al] := rfl
  have t1 := t__law_draw
  have hl : (xs.map D.int).length < 16777216 := by rw [List.length_map]; omega
  have hl2 := fun x => mv_append (xs.map D.int) x (line_t.mpr hl)
  unfold rn at *
  cases pb with
  | false =>
    refine ⟨p1, n1, ?_, hp1, a1, b1⟩
    unfold intsD
    rw [map_app1, B__law_drawn_table_0]
    clear hm hu hp hp1 hx hl a1 b1
    generalize xs.map D.int = X at *
    generalize fl = fl' at *
    trivial
  | true =>
    obtain ⟨n2, p2, d2, a2, b2, hp2⟩ := r_draw (sub := sub) N k hp1 (m := 3) (by omega) (by omega)
    unfold rn at *
    by_cases c : 0 < n2
    · refine ⟨p2, u, ?_, hp2, hu.1, hu.2⟩
      unfold intsD
      rw [map_app1, B__law_drawn_table_0]
      clear hm hu hp hp1 hp2 hx hl a1 b1 a2 b2
      generalize xs.map D.int = X at *
      generalize fl = fl' at *
      trivial
    · refine ⟨p2, n1, ?_, hp2, a1, b1⟩
      unfold intsD
      rw [map_app1, B__law_drawn_table_0]
      clear hm hu hp hp1 hp2 hx hl a1 b1 a2 b2
      generalize xs.map D.int = X at *
      generalize fl = fl' at *
      trivial
/-- the flag and the row, appended to the table at slot T -/
theorem dt_end {p : D} (hp : PlOk p) {a b c d e f g : Slot} {m : Int} {t : Tbl} {xs : List Int} (ht : t.length < 1000) :
    ∃ p' v, evS (FFn tab fl sub N (k + 1)) sub N (.ex (.mth "append" (.var 6) [(.tup [(.cmp .eq (.call "_law_draw" [(.var 0), (.lit (.int (2)))]) (.lit (.int (0)))), (.bi "tuple" [(.var 9)])])])) [.mw p, .un, .un, a, b, c, .ow (rowsD t), d, e, .ow (intsD xs), f, g] =
      .nx [.mw p', .un, .un, a, b, c, .ow (rowsD (t ++ [(v, xs)])), d, e, .ow (intsD xs), f, g] ∧ PlOk p' := by
  obtain ⟨n1, p1, d1, a1, b1, hp1⟩ := r_draw (sub := sub) N k hp (m := 2) (by omega) (by omega)
  have m1 : c__law_draw.modes = [.mu, .al] := rfl
  have t1 := t__law_draw
  have hl : (t.map stD).length < 16777216 := by rw [List.length_map]; omega
  have fr := frL_ints xs
  have bt := bt_ints true (xs.map D.int)
  refine ⟨p1, decide (n1 = 0), ?_, hp1⟩
  unfold rowsD intsD rn at *
  rw [map_app1]
  show _ = Out.nx [_, _, _, _, _, _, .ow (.lst true (t.map stD ++ [.tup [.bl (decide (n1 = 0)), .tup (xs.map .int)]])), _, _, _, _, _]
  have hl2 := fun x => mv_append (t.map stD) x (line_t.mpr hl)
  clear hp hp1 ht hl a1 b1
  generalize xs.map D.int = X at *
  generalize t.map stD = T at *
  generalize fl = fl' at *
  trivial
end
end Kk75

set_option Elab.async false
set_option linter.all false
set_option maxRecDepth 100000
/-! k75: drawn tables, whole. -/
namespace Kk75
open PySem Rw
local macro_rules
  | `(tactic| trivial) => `(tactic| simp [callD, freeze, freezeL, freezeP, isFrP, calm_ok, z_pt, al_pt0, lock, unlock, backE, wipeE, killE, Slot.kl, Out.mp, pureE, pureEs, pureO, pureI, mv_popi, mv_append, mv_pop, ty_pop, ty_append, ty_join, mut_pop, mut_join, mut_append, isStrD, initE, musOf, evSs, evEs, evO, evI, evC, tst, getP, getAt, setP, setAt,
    isFr, isFrL, aliases, alPass, argV, callR, muPl, bwRoots, okPts, shrs, as_nm, as_tp, as_0, as_1, cons_, ff_run, ff_modes, bi_len, bi_int, bi_abs, bi_sum,
    fr_ap, lc_ap, wc_ap, wb_ap, e_asg, e_sub, e_ret, e_retN, e_ifs, e_whl, e_fr, e_ex, e_rse, e_try, e_brk, e_cont, e_pass, e_lc,
    x_var, x_mv, x_lit, x_dct0, x_bop, x_neg, x_cmp, x_cmp2, x_band, x_bor, x_bnot, x_ife, x_tup, x_lst, x_sub, x_slc, x_call, x_bi, x_isi, x_mth,
    b_ok, b_exc, o_ok, o_exc, th_nx, th_rt, th_bk, th_ct, th_exc, c_fz, c_ow, c_pt, al_fz, al_ow, v_fz, v_ow, z_fz, z_ow,
    k_fz, k_ow, k_pt0, k_pt, ko_fz, ko_ow, ko_pt0, ko_pt, n_fz, n_ow, n_pt0, n_pt, p_un, p_fz, p_ow, p_bw, p_mw, sc_fz, sc_ow, sc_bw, sc_mw,
    s_fz, s_ow, s_pt, pd_non, pd_bl, pd_int, pd_str, pd_lst, pd_tup, so_t, so_non, so_bl, so_int, so_str, so_lst, so_tup, tr_bl, tr_non, tr_int,
    f_nx, f_rt, f_exc, ad_pt, ad_fz, ad_ow, cm_eq, cm_ne, cm_lt, cm_le, cm_gt, cm_ge, cm_in, cm_ni, cm_isb, cm_isnb, cm_isn, cm_isnn, is_in, eo_ss, eo_ii, eo_bb, ed_ss, ed_ii, ed_bb,
    bp_ai, bp_si, bp_mi, bp_fi, bp_ri, bp_pi, bp_as, bp_ms, bp_al, bp_at, ln_str, ln_tup, ln_lst, iv_lst, iv_tup, iv_str, is_lst,
    sl_str, sl_lst, sl_tup, sl_scr, it_str, it_lst, it_tup, ipt_fz, ipt_ow, ipt_pt, lk_n, ul_n, st_str, st_lst, st_tup,
    x_dctN, x_dget, i_enm, x_fld, x_mk, x_mcall, e_sfld, ff_flds, pd_obj, so_obj, pd_dct, so_dct, cx_ok, cx_exc, bi2_max, bi2_min, bi2_sorted, mut_find, ty_find, mt_find', mut_extend, ty_extend, mv_extend, bp_mt, iv_dct, in_dct, e_aug, av_int, av_str, isFrF, freezeF, putF, List.lookup_cons,
    u1_lst, u1_tup, u1_str, fl_int, fl_bl, fl_str, uo_nx, uo_rt, uo_exc, oo_s, ixN_0, line_s, line_t, *])
section
variable {sub : Str → Str → Option Bool} (N k : Nat)
theorem ss_nx {F : Fn} {s : Rw.St} {ss : List Rw.St} {ρ ρ1 : Rw.Env} (h : evS F sub N s ρ = .nx ρ1) : evSs F sub N (s :: ss) ρ = evSs F sub N ss ρ1 := by rw [evSs, h, th_nx]
theorem fr_turn {F : Fn} {ks : List Bool} {t : Tg} {bz : Bool} {b : List Rw.St} {x : D} {ρ ρ1 ρ2 : Rw.Env} (h : asgT t bz x ρ = some ρ1) (h2 : evSs F sub N b ρ1 = .nx ρ2) : frB F sub N ks t bz b x ρ = .nx (killE ks ρ2) := by
  unfold frB
  rw [h]
  show (evSs F sub N b ρ1).mp ks = _
  rw [h2] <;> rfl
/-- a for's turns over a list, the state told by the turn's number -/
theorem forL_all {α σ : Type} {ws : List α} (g : α → D) (E : σ → Rw.Env) {f : D → Rw.Env → Out} (I : Nat → σ → Prop) : ∀ (n : Nat) (s : σ), I n s → (∀ m s, n ≤ m → m < n + ws.length → I m s → ∀ w ∈ ws, ∃ s', f (g w) (E s) = .nx (E s') ∧ I (m + 1) s') → ∃ s', forL f (ws.map g) (E s) = .nx (E s') ∧ I (n + ws.length) s' := by
  induction ws with
  | nil => exact fun n s h _ => ⟨s, by rw [List.map_nil, forL], h⟩
  | cons w ws ih =>
    intro n s h hs
    obtain ⟨s1, e1, h1⟩ := hs n s (Nat.le_refl _) (by simp) h w List.mem_cons_self
    obtain ⟨s2, e2, h2⟩ := ih (n + 1) s1 h1 fun m s a b c w hw => hs m s (by omega) (by simp; omega) c w (List.mem_cons_of_mem _ hw)
    refine ⟨s2, ?_, ?_⟩
    · rw [List.map_cons, forL, e1]
      exact e2
    · rw [List.length_cons, Nat.add_comm ws.length 1, ← Nat.add_assoc]
      exact h2
theorem dt_pre0 {fl' : String → String → Bool} {p p1 T z w : D} {m u : Int} {pb : Bool} (d1 : run tab fl' sub N (k + 1) "_law_draw" [p, .int m] = .rt (.int u) [p1]) (m1 : c__law_draw.modes = [.mu, .al]) (t1 : tab "_law_draw" = some c__law_draw) :
    evSs (FFn tab fl' sub N (k + 1)) sub N [(.asg (.nm 8) (.call "_law_draw" [(.var 0), (.var 3)])), (.asg (.nm 9) (.lst []))] [.mw p, .un, .un, .fz (.int m), .fz (.bl pb), .fz w, .ow T, .fz z, .un, .un, .un, .un] =
      .nx [.mw p1, .un, .un, .fz (.int m), .fz (.bl pb), .fz w, .ow T, .fz z, .fz (.int u), .ow (.lst true []), .un, .un] := by
  trivial
theorem ss_app {F : Fn} {ss ss2 : List Rw.St} {ρ ρ1 : Rw.Env} (h : evSs F sub N ss ρ = .nx ρ1) : evSs F sub N (ss ++ ss2) ρ = evSs F sub N ss2 ρ1 := by
  induction ss generalizing ρ with
  | nil => rw [evSs] at h; cases h; rfl
  | cons s ss ih =>
    rw [List.cons_append, evSs]
    rw [evSs] at h
    cases e : evS F sub N s ρ with
    | nx ρ2 => rw [e] at h; exact ih h
    | rt _ _ => rw [e] at h; cases h
    | bk _ => rw [e] at h; cases h
    | ct _ => rw [e] at h; cases h
    | exc _ _ => rw [e] at h; cases h
    | stuck => rw [e] at h; cases h
theorem dt_out {r l : Nat} (d : Dom r l) {p : D} (hp : PlOk p) {m : Int} (hm : 0 < m ∧ m ≤ 4) {pb : Bool} {t : Tbl} (ht : t.length < 1000) {z : D} (hz : isFr z = true) :
    ∃ p' s, frB (FFn tab fl sub N (k + 1)) sub N [false, true, true, false, false, false, false, true, true, true, true, true] (.nm 7) true B__law_drawn_table_1 z [.mw p, .un, .un, .fz (.int m), .fz (.bl pb), .fz (.int ((rds r l).length : Nat)), .ow (rowsD t), .un, .un, .un, .un, .un] =
      .nx [.mw p', .un, .un, .fz (.int m), .fz (.bl pb), .fz (.int ((rds r l).length : Nat)), .ow (rowsD (t ++ [s])), .un, .un, .un, .un, .un] ∧ PlOk p' ∧ RowOk r l m s := by
  obtain ⟨u, p1, d1, a1, b1, hp1⟩ := r_draw (sub := sub) N k hp (m := m) hm.1 (by omega)
  have lr := len_rds d
  have e1 := dt_pre0 (sub := sub) N k (T := rowsD t) (z := z) (w := .int ((rds r l).length : Nat)) (pb := pb) d1 rfl t__law_draw
  obtain ⟨⟨p2, xs⟩, e2, hp2, hxl, hxb⟩ := forL_rng (σ := D × List Int) (fun st => [.mw st.1, .un, .un, .fz (.int m), .fz (.bl pb), .fz (.int ((rds r l).length : Nat)), .ow (rowsD t), .un, .fz (.int u), .ow (intsD st.2), .un, .un])
    (f := frB (FFn tab fl sub N (k + 1)) sub N [false, true, true, false, false, false, false, true, false, false, true, true] (.nm 10) true B__law_drawn_table_0)
    (fun i st => PlOk st.1 ∧ st.2.length = i.toNat ∧ ∀ x ∈ st.2, 0 ≤ x ∧ x < m) (hi := ((rds r l).length : Nat)) (rds r l).length 0 (p1, []) (by omega) (by omega) ⟨hp1, rfl, fun _ z => nomatch z⟩ (fun i st h0 h1 ⟨hq, hl, hb⟩ => by
      obtain ⟨p3, y, f1, f2, f3, f4⟩ := dt_in (sub := sub) N k hq (w := ((rds r l).length : Nat)) hm ⟨a1, b1⟩ (pb := pb) (T := rowsD t) (xs := st.2) (by omega) (.int i)
      refine ⟨(p3, st.2 ++ [y]), f1, f2, ?_, fun x hx => ?_⟩
      · rw [List.length_append, hl]
        show i.toNat + 1 = _
        omega
      · rcases List.mem_append.mp hx with z | z
        · exact hb x z
        · rw [List.mem_singleton.mp z]; exact ⟨f3, f4⟩)
  rw [Int.toNat_natCast] at hxl
  obtain ⟨p4, v, e4, hp4⟩ := dt_end (sub := sub) N k hp2 (a := .fz (.int m)) (b := .fz (.bl pb)) (c := .fz (.int ((rds r l).length : Nat))) (d := .un) (e := .fz (.int u)) (f := .un) (g := .un) (m := m) (t := t) (xs := xs) ht
  have eS : evS (FFn tab fl sub N (k + 1)) sub N S__law_drawn_table_0 [.mw p1, .un, .un, .fz (.int m), .fz (.bl pb), .fz (.int ((rds r l).length : Nat)), .ow (rowsD t), .fz z, .fz (.int u), .ow (.lst true []), .un, .un] =
      .nx [.mw p2, .un, .un, .fz (.int m), .fz (.bl pb), .fz (.int ((rds r l).length : Nat)), .ow (rowsD t), .un, .fz (.int u), .ow (intsD xs), .un, .un] := by
    rw [S__law_drawn_table_0]
    exact (fr_run (i_rng (n := ((rds r l).length : Nat)) (by rw [x_var] <;> rfl) (rOk_small (by omega) (by omega))) e2).trans uo_id
  refine ⟨p4, (v, xs), ?_, hp4, hxl, hxb⟩
  exact (fr_turn N (ρ1 := [.mw p, .un, .un, .fz (.int m), .fz (.bl pb), .fz (.int ((rds r l).length : Nat)), .ow (rowsD t), .fz z, .un, .un, .un, .un]) rfl ((ss_app N e1).trans ((ss_nx N eS).trans ((ss_nx N e4).trans (by rw [evSs])))) : _ = _).trans rfl
theorem dt_wide0 {fl' : String → String → Bool} {C : List D} {ri li m n : Int} {pb : Bool} {p : D} (h1 : run tab fl' sub N (k + 1) "_law_columns" [.int ri, .int li] = .rt (.lst false C) []) (m1 : c__law_columns.modes = [.al, .al]) (t1 : tab "_law_columns" = some c__law_columns)
    (pd : opd (.lst false C) = .fz (.lst false C)) (hn : (C.length : Int) - 1 = n) : evSs (FFn tab fl' sub N (k + 1)) sub N [(.asg (.nm 5) (.bop .Sub (.bi "len" [(.call "_law_columns" [(.var 1), (.var 2)])]) (.lit (.int (1))))), (.asg (.nm 6) (.lst []))] [.mw p, .fz (.int ri), .fz (.int li), .fz (.int m), .fz (.bl pb), .un, .un, .un, .un, .un, .un, .un] =
      .nx [.mw p, .fz (.int ri), .fz (.int li), .fz (.int m), .fz (.bl pb), .fz (.int n), .ow (.lst true []), .un, .un, .un, .un, .un] := by
  trivial
theorem ret_mv6 {F : Fn} {a b c d e f g h i j k : Slot} {X : D} : evSs F sub N [.ret (.mv 6)] [a, b, c, d, e, f, .ow X, g, h, i, j, k] = .rt X [a, b, c, d, e, f, .un, g, h, i, j, k] := by
  trivial
theorem pd_cols {r l : Nat} : opd (.lst false ((cl (sgn l) r).map colD)) = .fz (.lst false ((cl (sgn l) r).map colD)) := pd_fr (by
  show (!false && isFrL _) = true
  rw [frL_cols] <;> rfl)
theorem len_cols {r l : Nat} (d : Dom r l) : (((cl (sgn l) r).map colD).length : Int) - 1 = ((rds r l).length : Nat) := by
  have h : 0 < (cl (sgn l) r).length := by rcases d with ⟨rfl, rfl⟩ | ⟨rfl, rfl⟩ | ⟨rfl, rfl⟩ <;> decide
  rw [List.length_map]
  unfold rds
  rw [List.length_tail]
  omega
theorem r_drawn_table {r l : Nat} (d : Dom r l) {p : D} (hp : PlOk p) {m : Int} (hm : 0 < m ∧ m ≤ 4) (pb : Bool) : ∃ t p', rn sub N (k + 2) "_law_drawn_table" [p, .int r, .int l, .int m, .bl pb] = .rt (rowsD t) [p'] ∧ PlOk p' ∧ TblOk r l t := by
  have e1 := dt_wide0 (sub := sub) N k (m := m) (pb := pb) (p := p) (r_law_columns (sub := sub) N k d) rfl t__law_columns pd_cols (len_cols d)
  obtain ⟨⟨p2, t⟩, e2, hp2, htl, htb⟩ := forL_rng (σ := D × Tbl) (fun st => [.mw st.1, .un, .un, .fz (.int m), .fz (.bl pb), .fz (.int ((rds r l).length : Nat)), .ow (rowsD st.2), .un, .un, .un, .un, .un])
    (f := frB (FFn tab fl sub N (k + 1)) sub N [false, true, true, false, false, false, false, true, true, true, true, true] (.nm 7) true B__law_drawn_table_1)
    (fun i st => PlOk st.1 ∧ st.2.length = i.toNat ∧ ∀ s ∈ st.2, RowOk r l m s) (hi := m) m.toNat 0 (p, []) (by omega) (by omega) ⟨hp, rfl, fun _ z => nomatch z⟩ (fun i st h0 h1 ⟨hq, hl, hb⟩ => by
      obtain ⟨p3, s, f1, f2, f3⟩ := dt_out (sub := sub) N k d hq hm (pb := pb) (t := st.2) (by omega) (z := .int i) rfl
      refine ⟨(p3, st.2 ++ [s]), f1, f2, ?_, fun x hx => ?_⟩
      · rw [List.length_append, hl]
        show i.toNat + 1 = _
        omega
      · rcases List.mem_append.mp hx with z | z
        · exact hb x z
        · rw [List.mem_singleton.mp z]; exact f3)
  dsimp only at htl htb hp2
  have eS : evS (FFn tab fl sub N (k + 1)) sub N S__law_drawn_table_1 [.mw p, .fz (.int r), .fz (.int l), .fz (.int m), .fz (.bl pb), .fz (.int ((rds r l).length : Nat)), .ow (.lst true []), .un, .un, .un, .un, .un] =
      .nx [.mw p2, .un, .un, .fz (.int m), .fz (.bl pb), .fz (.int ((rds r l).length : Nat)), .ow (rowsD t), .un, .un, .un, .un, .un] := by
    rw [S__law_drawn_table_1]
    exact (fr_run (i_rng (n := m) (by rw [x_var] <;> rfl) (rOk_small (by omega) (by omega))) e2).trans uo_id
  have em : (t.length : Int) = m := by omega
  refine ⟨t, p2, ?_, hp2, .of d (by omega) (by omega) (by rw [em]; exact htb)⟩
  unfold rn
  rw [run_u t__law_drawn_table]
  unfold callD
  show finish [.mu, .al, .al, .al, .al] (evSs _ _ _ _ [.mw p, .fz (.int r), .fz (.int l), .fz (.int m), .fz (.bl pb), .un, .un, .un, .un, .un, .un, .un]) = _
  rw [show c__law_drawn_table.body = [(.asg (.nm 5) (.bop .Sub (.bi "len" [(.call "_law_columns" [(.var 1), (.var 2)])]) (.lit (.int (1))))), (.asg (.nm 6) (.lst []))] ++ [S__law_drawn_table_1, .ret (.mv 6)] from rfl, ss_app N e1, ss_nx N eS, ret_mv6]
  rfl
end
end Kk75

set_option Elab.async false
set_option linter.all false
set_option maxRecDepth 100000
/-! k75: tables that compare rows, that keep first signs. -/
namespace Kk75
open PySem Rw
local macro_rules
  | `(tactic| trivial) => `(tactic| simp [callD, freeze, freezeL, freezeP, isFrP, calm_ok, z_pt, al_pt0, lock, unlock, backE, wipeE, killE, Slot.kl, Out.mp, pureE, pureEs, pureO, pureI, mv_popi, mv_append, mv_pop, ty_pop, ty_append, ty_join, mut_pop, mut_join, mut_append, isStrD, initE, musOf, evSs, evEs, evO, evI, evC, tst, getP, getAt, setP, setAt,
    isFr, isFrL, aliases, alPass, argV, callR, muPl, bwRoots, okPts, shrs, as_nm, as_tp, as_0, as_1, cons_, ff_run, ff_modes, bi_len, bi_int, bi_abs, bi_sum,
    fr_ap, lc_ap, wc_ap, wb_ap, e_asg, e_sub, e_ret, e_retN, e_ifs, e_whl, e_fr, e_ex, e_rse, e_try, e_brk, e_cont, e_pass, e_lc,
    x_var, x_mv, x_lit, x_dct0, x_bop, x_neg, x_cmp, x_cmp2, x_band, x_bor, x_bnot, x_ife, x_tup, x_lst, x_sub, x_slc, x_call, x_bi, x_isi, x_mth,
    b_ok, b_exc, o_ok, o_exc, th_nx, th_rt, th_bk, th_ct, th_exc, c_fz, c_ow, c_pt, al_fz, al_ow, v_fz, v_ow, z_fz, z_ow,
    k_fz, k_ow, k_pt0, k_pt, ko_fz, ko_ow, ko_pt0, ko_pt, n_fz, n_ow, n_pt0, n_pt, p_un, p_fz, p_ow, p_bw, p_mw, sc_fz, sc_ow, sc_bw, sc_mw,
    s_fz, s_ow, s_pt, pd_non, pd_bl, pd_int, pd_str, pd_lst, pd_tup, so_t, so_non, so_bl, so_int, so_str, so_lst, so_tup, tr_bl, tr_non, tr_int,
    f_nx, f_rt, f_exc, ad_pt, ad_fz, ad_ow, cm_eq, cm_ne, cm_lt, cm_le, cm_gt, cm_ge, cm_in, cm_ni, cm_isb, cm_isnb, cm_isn, cm_isnn, is_in, eo_ss, eo_ii, eo_bb, ed_ss, ed_ii, ed_bb,
    bp_ai, bp_si, bp_mi, bp_fi, bp_ri, bp_pi, bp_as, bp_ms, bp_al, bp_at, ln_str, ln_tup, ln_lst, iv_lst, iv_tup, iv_str, is_lst,
    sl_str, sl_lst, sl_tup, sl_scr, it_str, it_lst, it_tup, ipt_fz, ipt_ow, ipt_pt, lk_n, ul_n, st_str, st_lst, st_tup,
    x_dctN, x_dget, i_enm, x_fld, x_mk, x_mcall, e_sfld, ff_flds, pd_obj, so_obj, pd_dct, so_dct, cx_ok, cx_exc, bi2_max, bi2_min, bi2_sorted, mut_find, ty_find, mt_find', mut_extend, ty_extend, mv_extend, bp_mt, iv_dct, in_dct, e_aug, av_int, av_str, isFrF, freezeF, putF, List.lookup_cons,
    u1_lst, u1_tup, u1_str, fl_int, fl_bl, fl_str, uo_nx, uo_rt, uo_exc, oo_s, ixN_0, line_s, line_t, *])
section
variable {sub : Str → Str → Option Bool} (N k : Nat)
theorem rows_dom {r l : Nat} (d : Dom r l) : 2 ≤ r ∧ r ≤ 4 ∧ 1 ≤ l ∧ l ≤ 2 := by rcases d with ⟨rfl, rfl⟩ | ⟨rfl, rfl⟩ | ⟨rfl, rfl⟩ <;> decide
theorem cl_len {s : Sg} : ∀ {n : Nat} {c : Sg}, c ∈ cl s n → c.length = n
  | 0, c, h => by rw [List.mem_singleton.mp h]; rfl
  | n + 1, c, h => by
    obtain ⟨c', hc', h2⟩ := List.mem_flatMap.mp h
    obtain ⟨y, hy, rfl⟩ := List.mem_map.mp h2
    rw [List.length_append, cl_len hc'] <;> rfl
/-- a column's sign -/
theorem col_sign {r l : Nat} {c : Sg} (hc : c ∈ rds r l) {i : Int} (h0 : 0 ≤ i) (h1 : i < r) : ∃ x, ixN (c.map fun x => D.str [x]).length i = some i.toNat ∧ (c.map fun x => D.str [x])[i.toNat]? = some (.str [x]) ∧ x ∈ [45, 97, 98] := by
  have hm : c ∈ cl (sgn l) r := List.mem_of_mem_tail hc
  have hl := cl_len hm
  have hi : i.toNat < c.length := by omega
  refine ⟨c[i.toNat], ?_, ?_, sgn_sub (cl_sub hm _ (List.getElem_mem hi))⟩
  · obtain ⟨j, rfl⟩ := Int.eq_ofNat_of_zero_le h0
    rw [List.length_map, ixN_nat, if_pos (by omega)] <;> rfl
  · rw [List.getElem?_map, List.getElem?_eq_getElem hi]; rfl
theorem ints_of {m : Int} : ∀ {ys : List D}, (∀ y ∈ ys, ∃ i, y = D.int i ∧ 0 ≤ i ∧ i < m) → ∃ x : List Int, ys = x.map D.int ∧ ∀ i ∈ x, 0 ≤ i ∧ i < m
  | [], _ => ⟨[], rfl, fun _ h => nomatch h⟩
  | y :: ys, h => by
    obtain ⟨i, rfl, hi⟩ := h y List.mem_cons_self
    obtain ⟨x, rfl, hx⟩ := ints_of fun y hy => h y (List.mem_cons_of_mem _ hy)
    refine ⟨i :: x, rfl, fun a ha => ?_⟩
    rcases List.mem_cons.mp ha with e | e
    · rw [e]; exact hi
    · exact hx a e
/-! #### compared -/
theorem co_turn0 {fl' : String → String → Bool} {C X : List D} {p : D} {one other : Int} {i j : Nat} {x y : Nat} {by_ : Bool} (fr : isFrL C = true) (i1 : ixN C.length one = some i) (i2 : C[i]? = some (.str [x])) (j1 : ixN C.length other = some j) (j2 : C[j]? = some (.str [y])) (hl2 : ∀ x, mutV "append" (.lst true X) [x] = some (.non, .lst true (X ++ [x]))) :
    ∃ v : Int, frB (FFn tab fl' sub N (k + 1)) sub N [false, true, true, false, false, false, false, true, true, true] (.nm 7) false B__law_compared_0 (.tup C) [.mw p, .un, .un, .fz (.int one), .fz (.int other), .fz (.bl by_), .ow (.lst true X), .un, .un, .un] =
      .nx [.mw p, .un, .un, .fz (.int one), .fz (.int other), .fz (.bl by_), .ow (.lst true (X ++ [.int v])), .un, .un, .un] ∧ 0 ≤ v ∧ v < 2 := by
  have k0 : ixN 2 0 = some 0 := rfl
  have k1 : ixN 2 1 = some 1 := rfl
  cases by_ with
  | true =>
    by_cases e : x = y
    · refine ⟨0, ?_, by omega, by omega⟩
      subst e
      rw [B__law_compared_0]
      trivial
    · refine ⟨1, ?_, by omega, by omega⟩
      rw [B__law_compared_0]
      trivial
  | false =>
    by_cases e : x = 45
    · subst e
      by_cases e2 : y = 45
      · subst e2
        refine ⟨0, ?_, by omega, by omega⟩
        rw [B__law_compared_0]
        trivial
      · refine ⟨1, ?_, by omega, by omega⟩
        rw [B__law_compared_0]
        trivial
    · by_cases e2 : y = 45
      · subst e2
        refine ⟨1, ?_, by omega, by omega⟩
        rw [B__law_compared_0]
        trivial
      · refine ⟨0, ?_, by omega, by omega⟩
        rw [B__law_compared_0]
        trivial
theorem co_pre0 {fl' : String → String → Bool} {p p1 p2 p3 : D} {ri li a b c : Int} (m1 : c__law_draw.modes = [.mu, .al]) (t1 : tab "_law_draw" = some c__law_draw) (d1 : run tab fl' sub N (k + 1) "_law_draw" [p, .int (ri - 1)] = .rt (.int a) [p1]) (d2 : run tab fl' sub N (k + 1) "_law_draw" [p1, .int (ri - a - 1)] = .rt (.int b) [p2])
    (d3 : run tab fl' sub N (k + 1) "_law_draw" [p2, .int 2] = .rt (.int c) [p3]) : evSs (FFn tab fl' sub N (k + 1)) sub N [(.asg (.nm 3) (.call "_law_draw" [(.var 0), (.bop .Sub (.var 1) (.lit (.int (1))))])),
  (.asg (.nm 4) (.bop .Add (.bop .Add (.var 3) (.lit (.int (1)))) (.call "_law_draw" [(.var 0), (.bop .Sub (.bop .Sub (.var 1) (.var 3)) (.lit (.int (1))))]))),
  (.asg (.nm 5) (.cmp .eq (.call "_law_draw" [(.var 0), (.lit (.int (2)))]) (.lit (.int (0))))),
  (.asg (.nm 6) (.lst []))] [.mw p, .fz (.int ri), .fz (.int li), .un, .un, .un, .un, .un, .un, .un] = .nx [.mw p3, .fz (.int ri), .fz (.int li), .fz (.int a), .fz (.int (a + 1 + b)), .fz (.bl (decide (c = 0))), .ow (.lst true []), .un, .un, .un] := by
  trivial
theorem co_ret0 {fl' : String → String → Bool} {p p1 p2 : D} {a b : Int} {A B C : Slot} {X R : List D} (m1 : c__law_draw.modes = [.mu, .al]) (t1 : tab "_law_draw" = some c__law_draw) (d1 : run tab fl' sub N (k + 1) "_law_draw" [p, .int 2] = .rt (.int a) [p1]) (d2 : run tab fl' sub N (k + 1) "_law_draw" [p1, .int 2] = .rt (.int b) [p2])
    (fr : isFrL X = true) (bt : biV "tuple" [.lst true X] = some (.tup X)) (bm : bop .Mult (.tup [.int 1]) (.int (X.length : Int)) = some (.tup R)) (fr2 : isFrL R = true) :
    evSs (FFn tab fl' sub N (k + 1)) sub N [(.ret (.lst [(.tup [(.cmp .eq (.call "_law_draw" [(.var 0), (.lit (.int (2)))]) (.lit (.int (0)))), (.bi "tuple" [(.var 6)])]), (.tup [(.cmp .eq (.call "_law_draw" [(.var 0), (.lit (.int (2)))]) (.lit (.int (0)))), (.bop .Mult (.tup [(.lit (.int (1)))]) (.bi "len" [(.var 6)]))])]))] [.mw p, .un, .un, A, B, C, .ow (.lst true X), .un, .un, .un] =
      .rt (.lst true [.tup [.bl (decide (a = 0)), .tup X], .tup [.bl (decide (b = 0)), .tup R]]) [.mw p2, .un, .un, A, B, C, .ow (.lst true X), .un, .un, .un] := by
  trivial
theorem mult_ones {n : Nat} (h : 3 ≤ n) (h2 : n ≤ 15) : bop .Mult (.tup [.int 1]) (.int (n : Int)) = some (.tup ((List.replicate n (1 : Int)).map D.int)) := by
  have e : (List.replicate (n : Int).toNat [D.int 1]).flatten = (List.replicate n (1 : Int)).map D.int := by rw [Int.toNat_natCast, List.flatten_replicate_singleton, List.map_replicate]
  exact (bp_mt ⟨fun z => by (cases z), by omega, by omega, by decide⟩).trans (congrArg (fun z => some (D.tup z)) e)
theorem r_compared {r l : Nat} (d : Dom r l) {p : D} (hp : PlOk p) : ∃ t p', rn sub N (k + 2) "_law_compared" [p, .int r, .int l] = .rt (rowsD t) [p'] ∧ PlOk p' ∧ TblOk r l t := by
  obtain ⟨r1, r2, l1, l2⟩ := rows_dom d
  have lr := len_rds d
  obtain ⟨a, p1, d1, a0, a1, hp1⟩ := r_draw (sub := sub) N k hp (m := (r : Int) - 1) (by omega) (by omega)
  obtain ⟨b, p2, d2, b0, b1, hp2⟩ := r_draw (sub := sub) N k hp1 (m := (r : Int) - a - 1) (by omega) (by omega)
  obtain ⟨c, p3, d3, c0, c1, hp3⟩ := r_draw (sub := sub) N k hp2 (m := 2) (by omega) (by omega)
  have e1 := co_pre0 (sub := sub) N k (li := (l : Int)) rfl t__law_draw d1 d2 d3
  generalize hbb : decide (c = 0) = bb at e1
  obtain ⟨xs, e2, hxl, hxb⟩ := forL_all (ws := rds r l) colD (fun (xs : List Int) => [.mw p3, .un, .un, .fz (.int a), .fz (.int (a + 1 + b)), .fz (.bl bb), .ow (intsD xs), .un, .un, .un]) (f := frB (FFn tab fl sub N (k + 1)) sub N [false, true, true, false, false, false, false, true, true, true] (.nm 7) false B__law_compared_0)
    (fun n xs => xs.length = n ∧ ∀ x ∈ xs, 0 ≤ x ∧ x < 2) 0 [] ⟨rfl, fun _ z => nomatch z⟩ (fun n s hn hs ⟨hl, hb⟩ w hw => by
      obtain ⟨x, i1, i2, _⟩ := col_sign hw (i := a) a0 (by omega)
      obtain ⟨y, j1, j2, _⟩ := col_sign hw (i := a + 1 + b) (by omega) (by omega)
      have hlen : (s.map D.int).length < 16777216 := by rw [List.length_map]; omega
      obtain ⟨v, f1, v0, v1⟩ := co_turn0 (sub := sub) N k (fl' := fl) (p := p3) (by_ := bb) (frL_col w) i1 i2 j1 j2 (fun x => mv_append (s.map D.int) x (line_t.mpr hlen))
      refine ⟨s ++ [v], ?_, by rw [List.length_append, hl] <;> rfl, fun z hz => ?_⟩
      · unfold intsD
        rw [map_app1]
        exact f1
      · rcases List.mem_append.mp hz with q | q
        · exact hb z q
        · rw [List.mem_singleton.mp q]; exact ⟨v0, v1⟩)
  rw [Nat.zero_add] at hxl
  have eS : evS (FFn tab fl sub N (k + 1)) sub N S__law_compared_0 [.mw p3, .fz (.int r), .fz (.int l), .fz (.int a), .fz (.int (a + 1 + b)), .fz (.bl bb), .ow (.lst true []), .un, .un, .un] = .nx [.mw p3, .un, .un, .fz (.int a), .fz (.int (a + 1 + b)), .fz (.bl bb), .ow (intsD xs), .un, .un, .un] := by
    rw [S__law_compared_0]
    exact (fr_run (cols_it N k d) e2).trans uo_id
  obtain ⟨u, p4, d4, u0, u1, hp4⟩ := r_draw (sub := sub) N k hp3 (m := 2) (by omega) (by omega)
  obtain ⟨v, p5, d5, v0, v1, hp5⟩ := r_draw (sub := sub) N k hp4 (m := 2) (by omega) (by omega)
  have hxl2 : (xs.map D.int).length = (rds r l).length := by rw [List.length_map]; exact hxl
  have bm : bop .Mult (.tup [.int 1]) (.int (((xs.map D.int).length : Nat) : Int)) = some (.tup ((List.replicate (rds r l).length 1).map D.int)) := by
    rw [hxl2]
    exact mult_ones lr.1 lr.2
  have e3 := co_ret0 (sub := sub) N k (A := .fz (.int a)) (B := .fz (.int (a + 1 + b))) (C := .fz (.bl bb)) rfl t__law_draw d4 d5 (frL_ints xs) (bt_ints true (xs.map D.int)) bm (frL_ints _)
  refine ⟨[(decide (u = 0), xs), (decide (v = 0), List.replicate (rds r l).length 1)], p5, ?_, hp5, .of d (by simp) (by simp) fun s hs => ?_⟩
  · unfold rn
    rw [run_u t__law_compared]
    unfold callD
    show finish [.mu, .al, .al] (evSs _ _ _ _ [.mw p, .fz (.int r), .fz (.int l), .un, .un, .un, .un, .un, .un, .un]) = _
    rw [show c__law_compared.body = [(.asg (.nm 3) (.call "_law_draw" [(.var 0), (.bop .Sub (.var 1) (.lit (.int (1))))])),
  (.asg (.nm 4) (.bop .Add (.bop .Add (.var 3) (.lit (.int (1)))) (.call "_law_draw" [(.var 0), (.bop .Sub (.bop .Sub (.var 1) (.var 3)) (.lit (.int (1))))]))),
  (.asg (.nm 5) (.cmp .eq (.call "_law_draw" [(.var 0), (.lit (.int (2)))]) (.lit (.int (0))))),
  (.asg (.nm 6) (.lst []))] ++ [S__law_compared_0, (.ret (.lst [(.tup [(.cmp .eq (.call "_law_draw" [(.var 0), (.lit (.int (2)))]) (.lit (.int (0)))), (.bi "tuple" [(.var 6)])]), (.tup [(.cmp .eq (.call "_law_draw" [(.var 0), (.lit (.int (2)))]) (.lit (.int (0)))), (.bop .Mult (.tup [(.lit (.int (1)))]) (.bi "len" [(.var 6)]))])]))] from rfl, ss_app N e1, ss_nx N eS]
    unfold intsD
    rw [e3]
    rfl
  · rcases List.mem_cons.mp hs with rfl | hs
    · exact ⟨hxl, hxb⟩
    · rw [List.mem_singleton.mp hs]
      refine ⟨List.length_replicate .., fun x hx => ?_⟩
      rw [(List.mem_replicate.mp hx).2]
      exact ⟨by omega, by show (1 : Int) < 2; omega⟩
end
end Kk75

set_option Elab.async false
set_option linter.all false
set_option maxRecDepth 100000
/-! k75: tables that keep first signs. -/
namespace Kk75
open PySem Rw
local macro_rules
  | `(tactic| trivial) => `(tactic| simp [callD, freeze, freezeL, freezeP, isFrP, calm_ok, z_pt, al_pt0, lock, unlock, backE, wipeE, killE, Slot.kl, Out.mp, pureE, pureEs, pureO, pureI, mv_popi, mv_append, mv_pop, ty_pop, ty_append, ty_join, mut_pop, mut_join, mut_append, isStrD, initE, musOf, evSs, evEs, evO, evI, evC, tst, getP, getAt, setP, setAt,
    isFr, isFrL, aliases, alPass, argV, callR, muPl, bwRoots, okPts, shrs, as_nm, as_tp, as_0, as_1, cons_, ff_run, ff_modes, bi_len, bi_int, bi_abs, bi_sum,
    fr_ap, lc_ap, wc_ap, wb_ap, e_asg, e_sub, e_ret, e_retN, e_ifs, e_whl, e_fr, e_ex, e_rse, e_try, e_brk, e_cont, e_pass, e_lc,
    x_var, x_mv, x_lit, x_dct0, x_bop, x_neg, x_cmp, x_cmp2, x_band, x_bor, x_bnot, x_ife, x_tup, x_lst, x_sub, x_slc, x_call, x_bi, x_isi, x_mth,
    b_ok, b_exc, o_ok, o_exc, th_nx, th_rt, th_bk, th_ct, th_exc, c_fz, c_ow, c_pt, al_fz, al_ow, v_fz, v_ow, z_fz, z_ow,
    k_fz, k_ow, k_pt0, k_pt, ko_fz, ko_ow, ko_pt0, ko_pt, n_fz, n_ow, n_pt0, n_pt, p_un, p_fz, p_ow, p_bw, p_mw, sc_fz, sc_ow, sc_bw, sc_mw,
    s_fz, s_ow, s_pt, pd_non, pd_bl, pd_int, pd_str, pd_lst, pd_tup, so_t, so_non, so_bl, so_int, so_str, so_lst, so_tup, tr_bl, tr_non, tr_int,
    f_nx, f_rt, f_exc, ad_pt, ad_fz, ad_ow, cm_eq, cm_ne, cm_lt, cm_le, cm_gt, cm_ge, cm_in, cm_ni, cm_isb, cm_isnb, cm_isn, cm_isnn, is_in, eo_ss, eo_ii, eo_bb, ed_ss, ed_ii, ed_bb,
    bp_ai, bp_si, bp_mi, bp_fi, bp_ri, bp_pi, bp_as, bp_ms, bp_al, bp_at, ln_str, ln_tup, ln_lst, iv_lst, iv_tup, iv_str, is_lst,
    sl_str, sl_lst, sl_tup, sl_scr, it_str, it_lst, it_tup, ipt_fz, ipt_ow, ipt_pt, lk_n, ul_n, st_str, st_lst, st_tup,
    x_dctN, x_dget, i_enm, x_fld, x_mk, x_mcall, e_sfld, ff_flds, pd_obj, so_obj, pd_dct, so_dct, cx_ok, cx_exc, bi2_max, bi2_min, bi2_sorted, mut_find, ty_find, mt_find', mut_extend, ty_extend, mv_extend, bp_mt, iv_dct, in_dct, e_aug, av_int, av_str, isFrF, freezeF, putF, List.lookup_cons,
    u1_lst, u1_tup, u1_str, fl_int, fl_bl, fl_str, uo_nx, uo_rt, uo_exc, oo_s, ixN_0, line_s, line_t, *])
section
variable {sub : Str → Str → Option Bool} (N k : Nat)
/-- a comprehension, run -/
theorem lc_run {F : Fn} {own : List Nat} {t : Tg} {it : Rw.It} {c : Option Ex} {e : Ex} {xs ys : List D} {bz : Bool} {ρ ρ1 ρ2 ρ3 : Rw.Env} (hI : evI F it ρ = .ok (xs, bz, none) ρ1) (hL : lcL (lcB F t bz c e) own xs [] ρ1 = .ok ys ρ2) (hb : backE ρ1 ρ2 own = some ρ3) :
    evE F (.lc own t it c e) ρ = .ok (.ow (.lst true ys)) ρ3 := by
  rw [e_lc, hI]
  show ((lcL (lcB F t bz c e) own xs [] (Rw.lock ρ1 none)).calm.bind fun ys ρ2 => match (backE ρ1 ρ2 own).bind (Rw.unlock ρ1 none) with
    | some ρ3 => Rr.ok (Opd.ow (.lst true ys)) ρ3
    | none => .stuck) = _
  rw [lk_n, hL]
  show (match (backE ρ1 ρ2 own).bind (Rw.unlock ρ1 none) with
    | some ρ3 => Rr.ok (Opd.ow (.lst true ys)) ρ3
    | none => .stuck) = _
  rw [hb] <;> rfl
theorem col_sign2 {r l : Nat} {c : Sg} (hc : c ∈ rds r l) {i : Int} (h0 : 0 ≤ i) (h1 : i < r) : ∃ x, ixN (c.map fun x => D.str [x]).length i = some i.toNat ∧ (c.map fun x => D.str [x])[i.toNat]? = some (.str [x]) ∧ x ∈ sgn l := by
  have hm : c ∈ cl (sgn l) r := List.mem_of_mem_tail hc
  have hl := cl_len hm
  have hi : i.toNat < c.length := by omega
  refine ⟨c[i.toNat], ?_, ?_, cl_sub hm _ (List.getElem_mem hi)⟩
  · obtain ⟨j, rfl⟩ := Int.eq_ofNat_of_zero_le h0
    rw [List.length_map, ixN_nat, if_pos (by omega)] <;> rfl
  · rw [List.getElem?_map, List.getElem?_eq_getElem hi]; rfl
theorem find_le {l x : Nat} (hl : 1 ≤ l ∧ l ≤ 2) (h : x ∈ sgn l) : ∃ j : Int, findS [45, 97, 98] x = some j ∧ 0 ≤ j ∧ j ≤ l := by
  have : l = 1 ∨ l = 2 := by omega
  rcases this with rfl | rfl
  · have h : x = 45 ∨ x = 97 := by simpa [sgn] using h
    rcases h with rfl | rfl
    · exact ⟨0, by decide, by omega, by omega⟩
    · exact ⟨1, by decide, by omega, by omega⟩
  · have h : x = 45 ∨ x = 97 ∨ x = 98 := by simpa [sgn] using h
    rcases h with rfl | rfl | rfl
    · exact ⟨0, by decide, by omega, by omega⟩
    · exact ⟨1, by decide, by omega, by omega⟩
    · exact ⟨2, by decide, by omega, by omega⟩
theorem fs_item0 {F : Fn} {C : List D} {A B E G H I J K' : Slot} {row j : Int} {i x : Nat} (fr : isFrL C = true) (i1 : ixN C.length row = some i) (i2 : C[i]? = some (.str [x])) (hf : findS [45, 97, 98] x = some j) :
    lcB F (.nm 7) false none (.bop .Add (.lit (.int (1))) (.mth "find" (.lit (.str [45, 97, 98])) [(.sub (.var 7) (.var 3))])) (.tup C) [A, B, E, .fz (.int row), G, H, I, .un, J, K'] = .ok (some (.int (1 + j))) [A, B, E, .fz (.int row), G, H, I, .fz (.tup C), J, K'] := by
  trivial
theorem fs_item1 {F : Fn} {C : List D} {A B E G H I K' : Slot} {oth a : Int} {i x : Nat} (ha : 0 ≤ a) (fr : isFrL C = true) (i1 : ixN C.length oth = some i) (i2 : C[i]? = some (.str [x])) :
    ∃ v : Int, lcB F (.nm 7) false none (.ife (.bor (.cmp .eq (.sub (.var 7) (.var 4)) (.lit (.str [45]))) (.cmp .gt (.var 8) (.lit (.int (0))))) (.bop .Add (.lit (.int (1))) (.var 8)) (.lit (.int (1)))) (.tup C) [A, B, E, G, .fz (.int oth), H, I, .un, .fz (.int a), K'] = .ok (some (.int v)) [A, B, E, G, .fz (.int oth), H, I, .fz (.tup C), .fz (.int a), K'] ∧ (v = 1 ∨ v = 1 + a) := by
  by_cases e : x = 45
  · subst e
    refine ⟨1 + a, ?_, .inr rfl⟩
    trivial
  · by_cases e2 : 0 < a
    · refine ⟨1 + a, ?_, .inr rfl⟩
      trivial
    · refine ⟨1, ?_, .inl rfl⟩
      trivial
/-- a comprehension over the columns that gives numbers -/
theorem cols_ints {F : Fn} {r l : Nat} (d : Dom r l) {bz : Bool} {e : Ex} {m : Int} {ρ : Rw.Env} (hu : ρ[7]? = some .un) (h : ∀ w ∈ rds r l, ∃ i, lcB F (.nm 7) bz none e (colD w) ρ = .ok (some (.int i)) (ρ.set 7 (.fz (colD w))) ∧ 0 ≤ i ∧ i < m) :
    ∃ (xs : List Int) (ρ' : Rw.Env), lcL (lcB F (.nm 7) bz none e) [7] ((rds r l).map colD) [] ρ = .ok (xs.map .int) ρ' ∧ ρ'.set 7 .un = ρ ∧ xs.length = (rds r l).length ∧ ∀ x ∈ xs, 0 ≤ x ∧ x < m := by
  have hs : ∀ s, (ρ.set 7 s).set 7 .un = ρ := fun s => by
    rw [List.set_set]
    apply List.ext_getElem?
    intro i
    by_cases hi : 7 = i
    · subst hi
      have : 7 < ρ.length := by
        rcases Nat.lt_or_ge 7 ρ.length with z | z
        · exact z
        · rw [List.getElem?_eq_none z] at hu; cases hu
      rw [List.getElem?_set_self this, hu]
    · rw [List.getElem?_set_ne hi]
  obtain ⟨ys, ρ', e1, ⟨s, rfl⟩, e3, e4⟩ := lcL_inv (f := lcB F (.nm 7) bz none e) (own := [7]) (fun ρ' => ∃ s, ρ' = ρ.set 7 s) (fun y => ∃ i, y = .int i ∧ 0 ≤ i ∧ i < m) ((rds r l).map colD) [] ρ ⟨.un, by
      apply List.ext_getElem?
      intro i
      by_cases hi : 7 = i
      · subst hi
        have : 7 < ρ.length := by
          rcases Nat.lt_or_ge 7 ρ.length with z | z
          · exact z
          · rw [List.getElem?_eq_none z] at hu; cases hu
        rw [List.getElem?_set_self this, hu]
      · rw [List.getElem?_set_ne hi]⟩ (by
      have := len_rds d
      rw [List.length_map, List.length_nil]
      exact Nat.le_trans (show 0 + (rds r l).length ≤ 15 by omega) (by decide)) (by
      rintro x hx ρ' ⟨s, rfl⟩
      obtain ⟨w, hw, rfl⟩ := List.mem_map.mp hx
      obtain ⟨i, f1, f2⟩ := h w hw
      refine ⟨.int i, ρ.set 7 (.fz (colD w)), ?_, ⟨_, rfl⟩, i, rfl, f2⟩
      show lcB F (.nm 7) bz none e (colD w) ((ρ.set 7 s).set 7 .un) = _
      rw [hs, f1])
  obtain ⟨xs, rfl, hx⟩ := ints_of e4
  refine ⟨xs, _, by rw [e1, List.nil_append], hs s, ?_, hx⟩
  rw [List.length_map, List.length_map] at e3
  exact e3
theorem fs_pre0 {fl' : String → String → Bool} {p p1 p2 : D} {ri li a b : Int} (m1 : c__law_draw.modes = [.mu, .al]) (t1 : tab "_law_draw" = some c__law_draw) (d1 : run tab fl' sub N (k + 1) "_law_draw" [p, .int ri] = .rt (.int a) [p1]) (d2 : run tab fl' sub N (k + 1) "_law_draw" [p1, .int ri] = .rt (.int b) [p2]) :
    evSs (FFn tab fl' sub N (k + 1)) sub N [(.asg (.tp [(.nm 3), (.nm 4)]) (.tup [(.call "_law_draw" [(.var 0), (.var 1)]), (.call "_law_draw" [(.var 0), (.var 1)])])),
  (.asg (.nm 5) (.lst []))] [.mw p, .fz (.int ri), .fz (.int li), .un, .un, .un, .un, .un, .un, .un] = .nx [.mw p2, .fz (.int ri), .fz (.int li), .fz (.int a), .fz (.int b), .ow (.lst true []), .un, .un, .un, .un] := by
  trivial
/-- the flag and the row, appended -/
theorem fs_app6 {fl' : String → String → Bool} {p p1 : D} {A B E G H I J : Slot} {T X : List D} {n : Int} (m1 : c__law_draw.modes = [.mu, .al]) (t1 : tab "_law_draw" = some c__law_draw) (d1 : run tab fl' sub N (k + 1) "_law_draw" [p, .int 2] = .rt (.int n) [p1])
    (fr : isFrL X = true) (bt : biV "tuple" [.lst true X] = some (.tup X)) (hl2 : ∀ x, mutV "append" (.lst true T) [x] = some (.non, .lst true (T ++ [x]))) :
    evS (FFn tab fl' sub N (k + 1)) sub N (.ex (.mth "append" (.var 5) [(.tup [(.cmp .eq (.call "_law_draw" [(.var 0), (.lit (.int (2)))]) (.lit (.int (0)))), (.bi "tuple" [(.var 6)])])])) [.mw p, A, B, E, G, .ow (.lst true T), .ow (.lst true X), H, I, J] =
      .nx [.mw p1, A, B, E, G, .ow (.lst true (T ++ [.tup [.bl (decide (n = 0)), .tup X]])), .ow (.lst true X), H, I, J] := by
  trivial
theorem fs_app9 {fl' : String → String → Bool} {p p1 : D} {A B E G H I J : Slot} {T X : List D} {n : Int} (m1 : c__law_draw.modes = [.mu, .al]) (t1 : tab "_law_draw" = some c__law_draw) (d1 : run tab fl' sub N (k + 1) "_law_draw" [p, .int 2] = .rt (.int n) [p1])
    (fr : isFrL X = true) (bt : biV "tuple" [.lst true X] = some (.tup X)) (hl2 : ∀ x, mutV "append" (.lst true T) [x] = some (.non, .lst true (T ++ [x]))) :
    evS (FFn tab fl' sub N (k + 1)) sub N (.ex (.mth "append" (.var 5) [(.tup [(.cmp .eq (.call "_law_draw" [(.var 0), (.lit (.int (2)))]) (.lit (.int (0)))), (.bi "tuple" [(.var 9)])])])) [.mw p, A, B, E, G, .ow (.lst true T), H, I, J, .ow (.lst true X)] =
      .nx [.mw p1, A, B, E, G, .ow (.lst true (T ++ [.tup [.bl (decide (n = 0)), .tup X]])), H, I, J, .ow (.lst true X)] := by
  trivial
theorem asg_ow {F : Fn} {i : Nat} {e : Ex} {ρ ρ1 ρ2 : Rw.Env} {X : List D} (h : evE F e ρ = .ok (.ow (.lst true X)) ρ1) (h2 : asgT (.nm i) false (.lst true X) ρ1 = some ρ2) : evS F sub N (.asg (.nm i) e) ρ = .nx ρ2 := by
  rw [e_asg, h]
  show (match asgT (.nm i) false (.lst true X) ρ1 with | some ρ3 => Out.nx ρ3 | none => .stuck) = _
  rw [h2]
theorem add_lit {F : Fn} {i : Nat} {n : Int} {ρ : Rw.Env} (h : ρ[i]? = some (.fz (.int n))) : evE F (.bop .Add (.var i) (.lit (.int (1)))) ρ = .ok (.fz (.int (n + 1))) ρ := by
  trivial
theorem ret_mv5 {F : Fn} {a b c d e f g h i : Slot} {X : D} : evSs F sub N [.ret (.mv 5)] [a, b, c, d, e, .ow X, f, g, h, i] = .rt X [a, b, c, d, e, .un, f, g, h, i] := by
  trivial
theorem r_first_signs {r l : Nat} (d : Dom r l) {p : D} (hp : PlOk p) : ∃ t p', rn sub N (k + 2) "_law_first_signs" [p, .int r, .int l] = .rt (rowsD t) [p'] ∧ PlOk p' ∧ TblOk r l t := by
  obtain ⟨r1, r2, l1, l2⟩ := rows_dom d
  have lr := len_rds d
  obtain ⟨a, p1, d1, a0, a1, hp1⟩ := r_draw (sub := sub) N k hp (m := (r : Int)) (by omega) (by omega)
  obtain ⟨b, p2, d2, b0, b1, hp2⟩ := r_draw (sub := sub) N k hp1 (m := (r : Int)) (by omega) (by omega)
  have e1 := fs_pre0 (sub := sub) N k (li := (l : Int)) rfl t__law_draw d1 d2
  -- the first row
  obtain ⟨xs, ρ', c1, c2, c3, c4⟩ := cols_ints (F := FFn tab fl sub N (k + 1)) d (bz := false) (e := (.bop .Add (.lit (.int (1))) (.mth "find" (.lit (.str [45, 97, 98])) [(.sub (.var 7) (.var 3))]))) (m := (l : Int) + 2) (ρ := [.mw p2, .fz (.int r), .fz (.int l), .fz (.int a), .fz (.int b), .ow (.lst true []), .un, .un, .un, .un]) rfl (fun w hw => by
    obtain ⟨x, i1, i2, hx⟩ := col_sign2 hw a0 a1
    obtain ⟨j, j1, j2, j3⟩ := find_le ⟨l1, l2⟩ hx
    exact ⟨1 + j, fs_item0 (frL_col w) i1 i2 j1, by omega, by omega⟩)
  have g1 : evE (FFn tab fl sub N (k + 1)) C__law_first_signs_0 [.mw p2, .fz (.int r), .fz (.int l), .fz (.int a), .fz (.int b), .ow (.lst true []), .un, .un, .un, .un] = .ok (.ow (.lst true (xs.map .int))) [.mw p2, .fz (.int r), .fz (.int l), .fz (.int a), .fz (.int b), .ow (.lst true []), .un, .un, .un, .un] := by
    rw [C__law_first_signs_0]
    exact lc_run (cols_it N k d) c1 (congrArg some c2)
  have s1 := asg_ow (sub := sub) N (i := 6) g1 (ρ2 := [.mw p2, .fz (.int r), .fz (.int l), .fz (.int a), .fz (.int b), .ow (.lst true []), .ow (.lst true (xs.map .int)), .un, .un, .un]) rfl
  obtain ⟨u, p3, d3, u0, u1, hp3⟩ := r_draw (sub := sub) N k hp2 (m := 2) (by omega) (by omega)
  have s2 := fs_app6 (sub := sub) N k (A := .fz (.int r)) (B := .fz (.int l)) (E := .fz (.int a)) (G := .fz (.int b)) (H := .un) (I := .un) (J := .un) (T := []) rfl t__law_draw d3 (frL_ints xs) (bt_ints true (xs.map D.int)) (fun x => mv_append [] x (line_t.mpr (by decide)))
  -- the others
  obtain ⟨⟨p4, t⟩, e2, hp4, htl, htb⟩ := forL_rng (σ := D × Tbl) (fun st => [.mw st.1, .fz (.int r), .fz (.int l), .un, .fz (.int b), .ow (rowsD st.2), .un, .un, .un, .un])
    (f := frB (FFn tab fl sub N (k + 1)) sub N [false, false, false, true, false, false, true, false, true, true] (.nm 8) true B__law_first_signs_0)
    (fun i st => PlOk st.1 ∧ st.2.length = i.toNat + 1 ∧ ∀ s ∈ st.2, RowOk r l ((l : Int) + 2) s) (hi := (l : Int) + 1) (l + 1) 0 (p3, [(decide (u = 0), xs)]) (by omega) (by omega) ⟨hp3, rfl, fun s hs => by rw [List.mem_singleton.mp hs]; exact ⟨c3, c4⟩⟩ (fun i st h0 h1 ⟨hq, hl, hb⟩ => by
      obtain ⟨ys, ρ2, q1, q2, q3, q4⟩ := cols_ints (F := FFn tab fl sub N (k + 1)) d (bz := false) (e := (.ife (.bor (.cmp .eq (.sub (.var 7) (.var 4)) (.lit (.str [45]))) (.cmp .gt (.var 8) (.lit (.int (0))))) (.bop .Add (.lit (.int (1))) (.var 8)) (.lit (.int (1))))) (m := (l : Int) + 2) (ρ := [.mw st.1, .fz (.int r), .fz (.int l), .un, .fz (.int b), .ow (rowsD st.2), .un, .un, .fz (.int i), .un]) rfl (fun w hw => by
        obtain ⟨x, i1, i2, hx⟩ := col_sign2 hw b0 b1
        obtain ⟨v, v1, v2⟩ := fs_item1 (F := FFn tab fl sub N (k + 1)) (A := .mw st.1) (B := .fz (.int r)) (E := .fz (.int l)) (G := .un) (H := .ow (rowsD st.2)) (I := .un) (K' := .un) h0 (frL_col w) i1 i2
        exact ⟨v, v1, by omega, by omega⟩)
      have g2 : evE (FFn tab fl sub N (k + 1)) C__law_first_signs_1 [.mw st.1, .fz (.int r), .fz (.int l), .un, .fz (.int b), .ow (rowsD st.2), .un, .un, .fz (.int i), .un] = .ok (.ow (.lst true (ys.map .int))) [.mw st.1, .fz (.int r), .fz (.int l), .un, .fz (.int b), .ow (rowsD st.2), .un, .un, .fz (.int i), .un] := by
        rw [C__law_first_signs_1]
        exact lc_run (cols_it N k d) q1 (congrArg some q2)
      have s3 := asg_ow (sub := sub) N (i := 9) g2 (ρ2 := [.mw st.1, .fz (.int r), .fz (.int l), .un, .fz (.int b), .ow (rowsD st.2), .un, .un, .fz (.int i), .ow (.lst true (ys.map .int))]) rfl
      obtain ⟨v, p5, d5, v0, v1, hp5⟩ := r_draw (sub := sub) N k hq (m := 2) (by omega) (by omega)
      have hlen : (st.2.map stD).length < 16777216 := by rw [List.length_map]; omega
      have s4 := fs_app9 (sub := sub) N k (A := .fz (.int r)) (B := .fz (.int l)) (E := .un) (G := .fz (.int b)) (H := .un) (I := .un) (J := .fz (.int i)) (T := st.2.map stD) rfl t__law_draw d5 (frL_ints ys) (bt_ints true (ys.map D.int)) (fun x => mv_append _ x (line_t.mpr hlen))
      refine ⟨(p5, st.2 ++ [(decide (v = 0), ys)]), ?_, hp5, ?_, fun s hs => ?_⟩
      · have := fr_turn (sub := sub) N (F := FFn tab fl sub N (k + 1)) (ks := [false, false, false, true, false, false, true, false, true, true]) (t := .nm 8) (bz := true) (b := B__law_first_signs_0) (x := .int i) (ρ := [.mw st.1, .fz (.int r), .fz (.int l), .un, .fz (.int b), .ow (rowsD st.2), .un, .un, .un, .un]) rfl ((ss_nx N s3).trans ((ss_nx N s4).trans (by rw [evSs])))
        rw [this]
        unfold rowsD
        rw [map_app1]
        rfl
      · rw [List.length_append, hl]
        show i.toNat + 1 + 1 = _
        omega
      · rcases List.mem_append.mp hs with z | z
        · exact hb s z
        · rw [List.mem_singleton.mp z]; exact ⟨q3, q4⟩)
  dsimp only at htl htb hp4
  have eS : evS (FFn tab fl sub N (k + 1)) sub N S__law_first_signs_0 [.mw p3, .fz (.int r), .fz (.int l), .fz (.int a), .fz (.int b), .ow (.lst true ([] ++ [.tup [.bl (decide (u = 0)), .tup (xs.map D.int)]])), .ow (.lst true (xs.map D.int)), .un, .un, .un] =
      .nx [.mw p4, .fz (.int r), .fz (.int l), .un, .fz (.int b), .ow (rowsD t), .un, .un, .un, .un] := by
    rw [S__law_first_signs_0]
    exact (fr_run (i_rng (add_lit rfl) (rOk_small (by omega) (by omega))) e2).trans uo_id
  have em : (t.length : Int) = (l : Int) + 2 := by omega
  refine ⟨t, p4, ?_, hp4, .of d (by omega) (by omega) (by rw [em]; exact htb)⟩
  unfold rn
  rw [run_u t__law_first_signs]
  unfold callD
  show finish [.mu, .al, .al] (evSs _ _ _ _ [.mw p, .fz (.int r), .fz (.int l), .un, .un, .un, .un, .un, .un, .un]) = _
  rw [show c__law_first_signs.body = [(.asg (.tp [(.nm 3), (.nm 4)]) (.tup [(.call "_law_draw" [(.var 0), (.var 1)]), (.call "_law_draw" [(.var 0), (.var 1)])])),
  (.asg (.nm 5) (.lst []))] ++ [(.asg (.nm 6) C__law_first_signs_0), (.ex (.mth "append" (.var 5) [(.tup [(.cmp .eq (.call "_law_draw" [(.var 0), (.lit (.int (2)))]) (.lit (.int (0)))), (.bi "tuple" [(.var 6)])])])), S__law_first_signs_0, .ret (.mv 5)] from rfl, ss_app N e1, ss_nx N s1, ss_nx N s2, ss_nx N eS, ret_mv5]
  rfl
end
end Kk75

set_option Elab.async false
set_option linter.all false
set_option maxRecDepth 100000
/-! k75: tables that go round by the rows. -/
namespace Kk75
open PySem Rw
local macro_rules
  | `(tactic| trivial) => `(tactic| simp [callD, freeze, freezeL, freezeP, isFrP, calm_ok, z_pt, al_pt0, lock, unlock, backE, wipeE, killE, Slot.kl, Out.mp, pureE, pureEs, pureO, pureI, mv_popi, mv_append, mv_pop, ty_pop, ty_append, ty_join, mut_pop, mut_join, mut_append, isStrD, initE, musOf, evSs, evEs, evO, evI, evC, tst, getP, getAt, setP, setAt,
    isFr, isFrL, aliases, alPass, argV, callR, muPl, bwRoots, okPts, shrs, as_nm, as_tp, as_0, as_1, cons_, ff_run, ff_modes, bi_len, bi_int, bi_abs, bi_sum,
    fr_ap, lc_ap, wc_ap, wb_ap, e_asg, e_sub, e_ret, e_retN, e_ifs, e_whl, e_fr, e_ex, e_rse, e_try, e_brk, e_cont, e_pass, e_lc,
    x_var, x_mv, x_lit, x_dct0, x_bop, x_neg, x_cmp, x_cmp2, x_band, x_bor, x_bnot, x_ife, x_tup, x_lst, x_sub, x_slc, x_call, x_bi, x_isi, x_mth,
    b_ok, b_exc, o_ok, o_exc, th_nx, th_rt, th_bk, th_ct, th_exc, c_fz, c_ow, c_pt, al_fz, al_ow, v_fz, v_ow, z_fz, z_ow,
    k_fz, k_ow, k_pt0, k_pt, ko_fz, ko_ow, ko_pt0, ko_pt, n_fz, n_ow, n_pt0, n_pt, p_un, p_fz, p_ow, p_bw, p_mw, sc_fz, sc_ow, sc_bw, sc_mw,
    s_fz, s_ow, s_pt, pd_non, pd_bl, pd_int, pd_str, pd_lst, pd_tup, so_t, so_non, so_bl, so_int, so_str, so_lst, so_tup, tr_bl, tr_non, tr_int,
    f_nx, f_rt, f_exc, ad_pt, ad_fz, ad_ow, cm_eq, cm_ne, cm_lt, cm_le, cm_gt, cm_ge, cm_in, cm_ni, cm_isb, cm_isnb, cm_isn, cm_isnn, is_in, eo_ss, eo_ii, eo_bb, ed_ss, ed_ii, ed_bb,
    bp_ai, bp_si, bp_mi, bp_fi, bp_ri, bp_pi, bp_as, bp_ms, bp_al, bp_at, ln_str, ln_tup, ln_lst, iv_lst, iv_tup, iv_str, is_lst,
    sl_str, sl_lst, sl_tup, sl_scr, it_str, it_lst, it_tup, ipt_fz, ipt_ow, ipt_pt, lk_n, ul_n, st_str, st_lst, st_tup,
    x_dctN, x_dget, i_enm, x_fld, x_mk, x_mcall, e_sfld, ff_flds, pd_obj, so_obj, pd_dct, so_dct, cx_ok, cx_exc, bi2_max, bi2_min, bi2_sorted, mut_find, ty_find, mt_find', mut_extend, ty_extend, mv_extend, bp_mt, iv_dct, in_dct, e_aug, av_int, av_str, isFrF, freezeF, putF, List.lookup_cons,
    u1_lst, u1_tup, u1_str, fl_int, fl_bl, fl_str, uo_nx, uo_rt, uo_exc, oo_s, ixN_0, line_s, line_t, *])
section
variable {sub : Str → Str → Option Bool} (N k : Nat)
theorem by_in0 {F : Fn} {C X : List D} {P A B T S E : Slot} {z : Sg} {c v : Int} {i x : Nat} (fr : isFrL C = true) (i1 : ixN C.length c = some i) (i2 : C[i]? = some (.str [x])) :
    (frB F sub N [false, false, false, false, true, false, true, false, false, false, false, false, true] (.tp [(.nm 12), (.nm 4)]) false B__law_by_rows_0 (.tup [.int 0, .int c]) [P, A, B, .bw (.lst true X), .un, .fz (.str z), .un, T, S, E, .fz (.tup C), .fz (.int v), .un] =
      .nx [P, A, B, .bw (.lst true X), .un, .fz (.str z), .un, T, S, E, .fz (.tup C), .fz (.int v), .un]) ∨
    (v % 2 = 0 ∧ frB F sub N [false, false, false, false, true, false, true, false, false, false, false, false, true] (.tp [(.nm 12), (.nm 4)]) false B__law_by_rows_0 (.tup [.int 0, .int c]) [P, A, B, .bw (.lst true X), .un, .fz (.str z), .un, T, S, E, .fz (.tup C), .fz (.int v), .un] =
      .nx [P, A, B, .bw (.lst true X), .un, .fz (.str z), .un, T, S, E, .fz (.tup C), .fz (.int (v + 1)), .un]) ∨
    (v % 2 = 1 ∧ frB F sub N [false, false, false, false, true, false, true, false, false, false, false, false, true] (.tp [(.nm 12), (.nm 4)]) false B__law_by_rows_0 (.tup [.int 0, .int c]) [P, A, B, .bw (.lst true X), .un, .fz (.str z), .un, T, S, E, .fz (.tup C), .fz (.int v), .un] =
      .nx [P, A, B, .bw (.lst true X), .un, .fz (.str z), .un, T, S, E, .fz (.tup C), .fz (.int (v + -1)), .un]) := by
  have k0 : ixN 2 0 = some 0 := rfl
  have k1 : ixN 2 1 = some 1 := rfl
  have s1 : small 1 = true := by decide
  have s2 : small (-1) = true := by decide
  by_cases e : x ∈ z
  · have : v % 2 = 0 ∨ v % 2 = 1 := by omega
    rcases this with h | h
    · refine .inr (.inl ⟨h, ?_⟩)
      rw [B__law_by_rows_0]
      trivial
    · refine .inr (.inr ⟨h, ?_⟩)
      rw [B__law_by_rows_0]
      trivial
  · refine .inl ?_
    rw [B__law_by_rows_0]
    trivial
theorem by_in1 {F : Fn} {C X : List D} {P A B T S E : Slot} {z : Sg} {c v : Int} {i x : Nat} (fr : isFrL C = true) (i1 : ixN C.length c = some i) (i2 : C[i]? = some (.str [x])) :
    (frB F sub N [false, false, false, false, true, false, true, false, false, false, false, false, true] (.tp [(.nm 12), (.nm 4)]) false B__law_by_rows_0 (.tup [.int 1, .int c]) [P, A, B, .bw (.lst true X), .un, .fz (.str z), .un, T, S, E, .fz (.tup C), .fz (.int v), .un] =
      .nx [P, A, B, .bw (.lst true X), .un, .fz (.str z), .un, T, S, E, .fz (.tup C), .fz (.int v), .un]) ∨
    (v / 2 % 2 = 0 ∧ frB F sub N [false, false, false, false, true, false, true, false, false, false, false, false, true] (.tp [(.nm 12), (.nm 4)]) false B__law_by_rows_0 (.tup [.int 1, .int c]) [P, A, B, .bw (.lst true X), .un, .fz (.str z), .un, T, S, E, .fz (.tup C), .fz (.int v), .un] =
      .nx [P, A, B, .bw (.lst true X), .un, .fz (.str z), .un, T, S, E, .fz (.tup C), .fz (.int (v + 2)), .un]) ∨
    (v / 2 % 2 = 1 ∧ frB F sub N [false, false, false, false, true, false, true, false, false, false, false, false, true] (.tp [(.nm 12), (.nm 4)]) false B__law_by_rows_0 (.tup [.int 1, .int c]) [P, A, B, .bw (.lst true X), .un, .fz (.str z), .un, T, S, E, .fz (.tup C), .fz (.int v), .un] =
      .nx [P, A, B, .bw (.lst true X), .un, .fz (.str z), .un, T, S, E, .fz (.tup C), .fz (.int (v + -2)), .un]) := by
  have k0 : ixN 2 0 = some 0 := rfl
  have k1 : ixN 2 1 = some 1 := rfl
  have s1 : small 1 = true := by decide
  have s2 : small (-1) = true := by decide
  by_cases e : x ∈ z
  · have : v / 2 % 2 = 0 ∨ v / 2 % 2 = 1 := by omega
    rcases this with h | h
    · refine .inr (.inl ⟨h, ?_⟩)
      rw [B__law_by_rows_0]
      trivial
    · refine .inr (.inr ⟨h, ?_⟩)
      rw [B__law_by_rows_0]
      trivial
  · refine .inl ?_
    rw [B__law_by_rows_0]
    trivial
/-- a for over an owned list -/
theorem fr_lock {F : Fn} {ks : List Bool} {t : Tg} {it : Rw.It} {b : List Rw.St} {ρ ρ2 : Rw.Env} {xs : List D} {bz : Bool} {i : Nat} {d : D} (h : evI F it ρ = .ok (xs, bz, some i) ρ) (hi : ρ[i]? = some (.ow d)) (hf : forL (frB F sub N ks t bz b) xs (killE ks (ρ.set i (.bw d))) = .nx ρ2) :
    evS F sub N (.fr ks t it b) ρ = .nx (ρ2.set i (.ow d)) := by
  rw [e_fr, h]
  have el : Rw.lock ρ (some i) = ρ.set i (.bw d) := by unfold Rw.lock; simp only [hi]
  show Rw.unlockO ρ (some i) (forL _ xs (killE ks (Rw.lock ρ (some i)))) = _
  rw [el, hf]
  unfold Rw.unlockO Rw.unlock
  simp only [hi]
theorem enm_var {F : Fn} {i : Nat} {X : List D} {ρ : Rw.Env} (h : ρ[i]? = some (.ow (.lst true X))) (fr : isFrL X = true) : evI F (.enm (.var i)) ρ = .ok (enumF 0 X, false, some i) ρ := by
  rw [i_enm, x_var, h]
  show (match getP ρ i [] with
    | some (.lst b xs) => if shr (.pt i []) (.lst b xs) then Rr.ok (enumF 0 xs, false, some i) ρ else Rr.stuck
    | _ => .stuck) = _
  have : getP ρ i [] = some (.lst true X) := by unfold getP; rw [h] <;> rfl
  rw [this]
  show (if isFrL X then Rr.ok (enumF 0 X, false, some i) ρ else Rr.stuck) = _
  rw [if_pos fr]
/-- the counted rows -/
structure CsOk (r : Nat) (cs : List Int) : Prop where
  n : cs.length ≤ 2
  b : ∀ c ∈ cs, 0 ≤ c ∧ c < r
def pw (cs : List Int) : Int := 2 ^ cs.length
theorem by_mid {F : Fn} {r l : Nat} {w : Sg} (hw : w ∈ rds r l) {cs : List Int} (hc : CsOk r cs) {P A B T S E : Slot} {z : Sg} {v : Int} (hv : 0 ≤ v ∧ v < pw cs) :
    ∃ v', evS F sub N S__law_by_rows_0 [P, A, B, .ow (intsD cs), .un, .fz (.str z), .un, T, S, E, .fz (colD w), .fz (.int v), .un] = .nx [P, A, B, .ow (intsD cs), .un, .fz (.str z), .un, T, S, E, .fz (colD w), .fz (.int v'), .un] ∧ 0 ≤ v' ∧ v' < pw cs := by
  have go : ∀ v' : Int, forL (frB F sub N [false, false, false, false, true, false, true, false, false, false, false, false, true] (.tp [(.nm 12), (.nm 4)]) false B__law_by_rows_0) (enumF 0 (cs.map .int)) [P, A, B, .bw (intsD cs), .un, .fz (.str z), .un, T, S, E, .fz (colD w), .fz (.int v), .un] =
      .nx [P, A, B, .bw (intsD cs), .un, .fz (.str z), .un, T, S, E, .fz (colD w), .fz (.int v'), .un] → evS F sub N S__law_by_rows_0 [P, A, B, .ow (intsD cs), .un, .fz (.str z), .un, T, S, E, .fz (colD w), .fz (.int v), .un] = .nx [P, A, B, .ow (intsD cs), .un, .fz (.str z), .un, T, S, E, .fz (colD w), .fz (.int v'), .un] := fun v' h => by
    rw [S__law_by_rows_0]
    exact (fr_lock N (i := 3) (d := intsD cs) (enm_var (X := cs.map .int) rfl (frL_ints cs)) rfl h).trans rfl
  obtain ⟨hn, hb⟩ := hc
  match cs, hn, hb, hv, go with
  | [], _, _, hv, go => exact ⟨v, go v (by rw [List.map_nil, enumF, forL]), hv⟩
  | [c0], _, hb, hv, go =>
    have b0 := hb c0 List.mem_cons_self
    obtain ⟨x, i1, i2, _⟩ := col_sign2 hw b0.1 b0.2
    have hv : 0 ≤ v ∧ v < 2 := hv
    show ∃ v', _ ∧ 0 ≤ v' ∧ v' < (2 : Int)
    rcases by_in0 (sub := sub) N (F := F) (X := [c0].map .int) (P := P) (A := A) (B := B) (T := T) (S := S) (E := E) (z := z) (v := v) (frL_col w) i1 i2 with h | ⟨e, h⟩ | ⟨e, h⟩
    · refine ⟨v, go v ?_, hv⟩
      show forL _ [.tup [.int 0, .int c0]] _ = _
      rw [forL]; unfold colD intsD; rw [h]; exact forL.eq_1 ..
    · refine ⟨v + 1, go _ ?_, by omega, by omega⟩
      show forL _ [.tup [.int 0, .int c0]] _ = _
      rw [forL]; unfold colD intsD; rw [h]; exact forL.eq_1 ..
    · refine ⟨v + -1, go _ ?_, by omega, by omega⟩
      show forL _ [.tup [.int 0, .int c0]] _ = _
      rw [forL]; unfold colD intsD; rw [h]; exact forL.eq_1 ..
  | [c0, c1], _, hb, hv, go =>
    have b0 := hb c0 List.mem_cons_self
    have b1 := hb c1 (List.mem_cons_of_mem _ List.mem_cons_self)
    obtain ⟨x, i1, i2, _⟩ := col_sign2 hw b0.1 b0.2
    obtain ⟨y, j1, j2, _⟩ := col_sign2 hw b1.1 b1.2
    have hv : 0 ≤ v ∧ v < 4 := hv
    show ∃ v', _ ∧ 0 ≤ v' ∧ v' < (4 : Int)
    obtain ⟨v1, h1, w1, w2⟩ : ∃ v1, frB F sub N [false, false, false, false, true, false, true, false, false, false, false, false, true] (.tp [(.nm 12), (.nm 4)]) false B__law_by_rows_0 (.tup [.int 0, .int c0]) [P, A, B, .bw (.lst true ([c0, c1].map .int)), .un, .fz (.str z), .un, T, S, E, .fz (.tup (w.map fun x => .str [x])), .fz (.int v), .un] =
        .nx [P, A, B, .bw (.lst true ([c0, c1].map .int)), .un, .fz (.str z), .un, T, S, E, .fz (.tup (w.map fun x => .str [x])), .fz (.int v1), .un] ∧ 0 ≤ v1 ∧ v1 < 4 := by
      rcases by_in0 (sub := sub) N (F := F) (X := [c0, c1].map .int) (P := P) (A := A) (B := B) (T := T) (S := S) (E := E) (z := z) (v := v) (frL_col w) i1 i2 with h | ⟨e, h⟩ | ⟨e, h⟩
      · exact ⟨v, h, hv⟩
      · exact ⟨v + 1, h, by omega, by omega⟩
      · exact ⟨v + -1, h, by omega, by omega⟩
    obtain ⟨v2, h2, u1, u2⟩ : ∃ v2, frB F sub N [false, false, false, false, true, false, true, false, false, false, false, false, true] (.tp [(.nm 12), (.nm 4)]) false B__law_by_rows_0 (.tup [.int 1, .int c1]) [P, A, B, .bw (.lst true ([c0, c1].map .int)), .un, .fz (.str z), .un, T, S, E, .fz (.tup (w.map fun x => .str [x])), .fz (.int v1), .un] =
        .nx [P, A, B, .bw (.lst true ([c0, c1].map .int)), .un, .fz (.str z), .un, T, S, E, .fz (.tup (w.map fun x => .str [x])), .fz (.int v2), .un] ∧ 0 ≤ v2 ∧ v2 < 4 := by
      rcases by_in1 (sub := sub) N (F := F) (X := [c0, c1].map .int) (P := P) (A := A) (B := B) (T := T) (S := S) (E := E) (z := z) (v := v1) (frL_col w) j1 j2 with h | ⟨e, h⟩ | ⟨e, h⟩
      · exact ⟨v1, h, w1, w2⟩
      · exact ⟨v1 + 2, h, by omega, by omega⟩
      · exact ⟨v1 + -2, h, by omega, by omega⟩
    refine ⟨v2, go _ ?_, u1, u2⟩
    show forL _ [.tup [.int 0, .int c0], .tup [.int 1, .int c1]] _ = _
    unfold colD intsD
    rw [forL, h1]
    show forL _ [.tup [.int 1, .int c1]] _ = _
    rw [forL, h2]
    exact forL.eq_1 ..
  | _ :: _ :: _ :: _, hn, _, _, _ => exact absurd hn (by simp)
end
end Kk75

set_option Elab.async false
set_option linter.all false
set_option maxRecDepth 100000
/-! k75: tables that go round by the rows, whole; a question's parts. -/
namespace Kk75
open PySem Rw
local macro_rules
  | `(tactic| trivial) => `(tactic| simp [callD, freeze, freezeL, freezeP, isFrP, calm_ok, z_pt, al_pt0, lock, unlock, backE, wipeE, killE, Slot.kl, Out.mp, pureE, pureEs, pureO, pureI, mv_popi, mv_append, mv_pop, ty_pop, ty_append, ty_join, mut_pop, mut_join, mut_append, isStrD, initE, musOf, evSs, evEs, evO, evI, evC, tst, getP, getAt, setP, setAt,
    isFr, isFrL, aliases, alPass, argV, callR, muPl, bwRoots, okPts, shrs, as_nm, as_tp, as_0, as_1, cons_, ff_run, ff_modes, bi_len, bi_int, bi_abs, bi_sum,
    fr_ap, lc_ap, wc_ap, wb_ap, e_asg, e_sub, e_ret, e_retN, e_ifs, e_whl, e_fr, e_ex, e_rse, e_try, e_brk, e_cont, e_pass, e_lc,
    x_var, x_mv, x_lit, x_dct0, x_bop, x_neg, x_cmp, x_cmp2, x_band, x_bor, x_bnot, x_ife, x_tup, x_lst, x_sub, x_slc, x_call, x_bi, x_isi, x_mth,
    b_ok, b_exc, o_ok, o_exc, th_nx, th_rt, th_bk, th_ct, th_exc, c_fz, c_ow, c_pt, al_fz, al_ow, v_fz, v_ow, z_fz, z_ow,
    k_fz, k_ow, k_pt0, k_pt, ko_fz, ko_ow, ko_pt0, ko_pt, n_fz, n_ow, n_pt0, n_pt, p_un, p_fz, p_ow, p_bw, p_mw, sc_fz, sc_ow, sc_bw, sc_mw,
    s_fz, s_ow, s_pt, pd_non, pd_bl, pd_int, pd_str, pd_lst, pd_tup, so_t, so_non, so_bl, so_int, so_str, so_lst, so_tup, tr_bl, tr_non, tr_int,
    f_nx, f_rt, f_exc, ad_pt, ad_fz, ad_ow, cm_eq, cm_ne, cm_lt, cm_le, cm_gt, cm_ge, cm_in, cm_ni, cm_isb, cm_isnb, cm_isn, cm_isnn, is_in, eo_ss, eo_ii, eo_bb, ed_ss, ed_ii, ed_bb,
    bp_ai, bp_si, bp_mi, bp_fi, bp_ri, bp_pi, bp_as, bp_ms, bp_al, bp_at, ln_str, ln_tup, ln_lst, iv_lst, iv_tup, iv_str, is_lst,
    sl_str, sl_lst, sl_tup, sl_scr, it_str, it_lst, it_tup, ipt_fz, ipt_ow, ipt_pt, lk_n, ul_n, st_str, st_lst, st_tup,
    x_dctN, x_dget, i_enm, x_fld, x_mk, x_mcall, e_sfld, ff_flds, pd_obj, so_obj, pd_dct, so_dct, cx_ok, cx_exc, bi2_max, bi2_min, bi2_sorted, mut_find, ty_find, mt_find', mut_extend, ty_extend, mv_extend, bp_mt, iv_dct, in_dct, e_aug, av_int, av_str, isFrF, freezeF, putF, List.lookup_cons,
    u1_lst, u1_tup, u1_str, fl_int, fl_bl, fl_str, uo_nx, uo_rt, uo_exc, oo_s, ixN_0, line_s, line_t, *])
section
variable {sub : Str → Str → Option Bool} (N k : Nat)
theorem asg_col {i : Nat} {w : Sg} {ρ : Rw.Env} (h : ρ[i]? = some .un) : asgT (.nm i) false (colD w) ρ = some (ρ.set i (.fz (colD w))) := by
  have fr := frL_col w
  unfold colD
  trivial
theorem by_s0 {F : Fn} {A B C E G H I J K' L : Slot} {st : Int} : evS F sub N (.asg (.nm 11) (.var 8)) [A, B, C, E, .un, G, .un, H, .fz (.int st), I, J, .un, .un] = .nx [A, B, C, E, .un, G, .un, H, .fz (.int st), I, J, .fz (.int st), .un] := by
  trivial
theorem by_app {F : Fn} {A B C E G H I J : Slot} {X : List D} {v : Int} (hl2 : ∀ x, mutV "append" (.lst true X) [x] = some (.non, .lst true (X ++ [x]))) : evS F sub N (.ex (.mth "append" (.var 9) [(.var 11)])) [A, B, C, E, .un, G, .un, H, I, .ow (.lst true X), J, .fz (.int v), .un] =
    .nx [A, B, C, E, .un, G, .un, H, I, .ow (.lst true (X ++ [.int v])), J, .fz (.int v), .un] := by
  trivial
theorem by_app7 {fl' : String → String → Bool} {p p1 : D} {A B C E G : Slot} {T X : List D} {n : Int} (m1 : c__law_draw.modes = [.mu, .al]) (t1 : tab "_law_draw" = some c__law_draw) (d1 : run tab fl' sub N (k + 1) "_law_draw" [p, .int 2] = .rt (.int n) [p1])
    (fr : isFrL X = true) (bt : biV "tuple" [.lst true X] = some (.tup X)) (hl2 : ∀ x, mutV "append" (.lst true T) [x] = some (.non, .lst true (T ++ [x]))) :
    evS (FFn tab fl' sub N (k + 1)) sub N (.ex (.mth "append" (.var 7) [(.tup [(.cmp .eq (.call "_law_draw" [(.var 0), (.lit (.int (2)))]) (.lit (.int (0)))), (.bi "tuple" [(.var 9)])])])) [.mw p, A, B, C, .un, E, .un, .ow (.lst true T), G, .ow (.lst true X), .un, .un, .un] =
      .nx [.mw p1, A, B, C, .un, E, .un, .ow (.lst true (T ++ [.tup [.bl (decide (n = 0)), .tup X]])), G, .ow (.lst true X), .un, .un, .un] := by
  trivial
theorem by_nil {F : Fn} {A B C E G H I : Slot} : evS F sub N (.asg (.nm 9) (.lst [])) [A, B, C, E, .un, G, .un, H, I, .un, .un, .un, .un] = .nx [A, B, C, E, .un, G, .un, H, I, .ow (.lst true []), .un, .un, .un] := by
  trivial
/-- a standing's nexts -/
theorem by_cols {r l : Nat} (d : Dom r l) {cs : List Int} (hc : CsOk r cs) {p T : D} {z : Sg} {st : Int} (hs : 0 ≤ st ∧ st < pw cs) :
    ∃ xs : List Int, evS (FFn tab fl sub N (k + 1)) sub N S__law_by_rows_1 [.mw p, .fz (.int r), .fz (.int l), .ow (intsD cs), .un, .fz (.str z), .un, .ow T, .fz (.int st), .ow (.lst true []), .un, .un, .un] =
      .nx [.mw p, .fz (.int r), .fz (.int l), .ow (intsD cs), .un, .fz (.str z), .un, .ow T, .fz (.int st), .ow (intsD xs), .un, .un, .un] ∧ xs.length = (rds r l).length ∧ ∀ x ∈ xs, 0 ≤ x ∧ x < pw cs := by
  have lr := len_rds d
  obtain ⟨xs, e2, hxl, hxb⟩ := forL_all (ws := rds r l) colD (fun (xs : List Int) => [.mw p, .fz (.int r), .fz (.int l), .ow (intsD cs), .un, .fz (.str z), .un, .ow T, .fz (.int st), .ow (intsD xs), .un, .un, .un]) (f := frB (FFn tab fl sub N (k + 1)) sub N [false, false, false, false, true, false, true, false, false, false, true, true, true] (.nm 10) false B__law_by_rows_1)
    (fun n xs => xs.length = n ∧ ∀ x ∈ xs, 0 ≤ x ∧ x < pw cs) 0 [] ⟨rfl, fun _ z => nomatch z⟩ (fun n s hn hn2 ⟨hl, hb⟩ w hw => by
      obtain ⟨v, f1, v0, v1⟩ := by_mid (sub := sub) N (F := FFn tab fl sub N (k + 1)) hw hc (P := .mw p) (A := .fz (.int r)) (B := .fz (.int l)) (T := .ow T) (S := .fz (.int st)) (E := .ow (intsD s)) (z := z) hs
      have hlen : (s.map D.int).length < 16777216 := by rw [List.length_map]; omega
      have f2 := by_app (sub := sub) N (F := FFn tab fl sub N (k + 1)) (A := .mw p) (B := .fz (.int r)) (C := .fz (.int l)) (E := .ow (intsD cs)) (G := .fz (.str z)) (H := .ow T) (I := .fz (.int st)) (J := .fz (colD w)) (v := v) (fun x => mv_append (s.map D.int) x (line_t.mpr hlen))
      have f0 := by_s0 (sub := sub) N (F := FFn tab fl sub N (k + 1)) (A := .mw p) (B := .fz (.int r)) (C := .fz (.int l)) (E := .ow (intsD cs)) (G := .fz (.str z)) (H := .ow T) (st := st) (I := .ow (intsD s)) (J := .fz (colD w)) (K' := .un) (L := .un)
      refine ⟨s ++ [v], ?_, by rw [List.length_append, hl] <;> rfl, fun y hy => ?_⟩
      · have := fr_turn (sub := sub) N (F := FFn tab fl sub N (k + 1)) (ks := [false, false, false, false, true, false, true, false, false, false, true, true, true]) (t := .nm 10) (bz := false) (b := B__law_by_rows_1) (x := colD w) (ρ := [.mw p, .fz (.int r), .fz (.int l), .ow (intsD cs), .un, .fz (.str z), .un, .ow T, .fz (.int st), .ow (intsD s), .un, .un, .un]) (asg_col rfl) ((ss_nx N f0).trans ((ss_nx N f1).trans ((ss_nx N f2).trans (by rw [evSs]))))
        rw [this]
        unfold intsD
        rw [map_app1]
        rfl
      · rcases List.mem_append.mp hy with q | q
        · exact hb y q
        · rw [List.mem_singleton.mp q]; exact ⟨v0, v1⟩)
  rw [Nat.zero_add] at hxl
  refine ⟨xs, ?_, hxl, hxb⟩
  rw [S__law_by_rows_1]
  exact (fr_run (cols_it N k d) e2).trans uo_id
theorem lcL_invO {f : D → Rw.Env → Rr (Option D)} {own : List Nat} (P : Rw.Env → Prop) (E : D → Prop) : ∀ (xs acc : List D) (ρ : Rw.Env), P ρ → acc.length + xs.length ≤ line →
    (∀ x ∈ xs, ∀ ρ, P ρ → ∃ o ρ', f x (wipeE ρ own) = .ok o ρ' ∧ P ρ' ∧ ∀ y, o = some y → E y) → ∃ ys ρ', lcL f own xs acc ρ = .ok (acc ++ ys) ρ' ∧ P ρ' ∧ ys.length ≤ xs.length ∧ ∀ y ∈ ys, E y
  | [], acc, ρ, hP, _, _ => ⟨[], ρ, by rw [lcL, List.append_nil], hP, Nat.le_refl _, fun _ h => nomatch h⟩
  | x :: xs, acc, ρ, hP, hl, h => by
    obtain ⟨o, ρ1, e1, P1, E1⟩ := h x List.mem_cons_self ρ hP
    have hl2 : acc.length + (xs.length + 1) ≤ line := hl
    cases o with
    | none =>
      obtain ⟨ys, ρ2, e2, P2, l2, E2⟩ := lcL_invO P E xs acc ρ1 P1 (by omega) fun x hx => h x (List.mem_cons_of_mem _ hx)
      refine ⟨ys, ρ2, ?_, P2, by rw [List.length_cons]; omega, E2⟩
      rw [lcL, e1]
      exact e2
    | some y =>
      obtain ⟨ys, ρ2, e2, P2, l2, E2⟩ := lcL_invO P E xs (acc ++ [y]) ρ1 P1 (by rw [List.length_append, List.length_singleton]; omega) fun x hx => h x (List.mem_cons_of_mem _ hx)
      refine ⟨y :: ys, ρ2, ?_, P2, by rw [List.length_cons, List.length_cons]; omega, fun z hz => ?_⟩
      · rw [lcL, e1]
        show (if acc.length < line then lcL f own xs (acc ++ [y]) ρ1 else .stuck) = _
        rw [if_pos (by omega), e2, List.append_assoc]
        rfl
      · rcases List.mem_cons.mp hz with q | q
        · rw [q]; exact E1 y rfl
        · exact E2 z q
theorem by_c0 {fl' : String → String → Bool} {p p1 : D} {A B : Slot} {n i : Int} (m1 : c__law_draw.modes = [.mu, .al]) (t1 : tab "_law_draw" = some c__law_draw) (d1 : run tab fl' sub N (k + 1) "_law_draw" [p, .int 2] = .rt (.int n) [p1]) :
    lcB (FFn tab fl' sub N (k + 1)) (.nm 4) true (some (.cmp .eq (.call "_law_draw" [(.var 0), (.lit (.int (2)))]) (.lit (.int (0))))) (.var 4) (.int i) [.mw p, A, B, .un, .un, .un, .un, .un, .un, .un, .un, .un, .un] =
      .ok (if n = 0 then some (.int i) else none) [.mw p1, A, B, .un, .fz (.int i), .un, .un, .un, .un, .un, .un, .un, .un] := by
  by_cases h : n = 0
  · trivial
  · trivial
theorem by_counted {r l : Nat} (d : Dom r l) {p : D} (hp : PlOk p) : ∃ cs p', CsOk r cs ∧ PlOk p' ∧ evS (FFn tab fl sub N (k + 1)) sub N (.asg (.nm 3) (.slc C__law_by_rows_0 none (some (.lit (.int (2)))))) [.mw p, .fz (.int r), .fz (.int l), .un, .un, .un, .un, .un, .un, .un, .un, .un, .un] =
    .nx [.mw p', .fz (.int r), .fz (.int l), .ow (intsD cs), .un, .un, .un, .un, .un, .un, .un, .un, .un] := by
  obtain ⟨r1, r2, l1, l2⟩ := rows_dom d
  obtain ⟨ys, ρ', e1, ⟨p', s, hp', rfl⟩, e3, e4⟩ := lcL_invO (f := lcB (FFn tab fl sub N (k + 1)) (.nm 4) true (some (.cmp .eq (.call "_law_draw" [(.var 0), (.lit (.int (2)))]) (.lit (.int (0))))) (.var 4)) (own := [4])
    (fun ρ => ∃ p s, PlOk p ∧ ρ = [.mw p, .fz (.int r), .fz (.int l), .un, s, .un, .un, .un, .un, .un, .un, .un, .un]) (fun y => ∃ i, y = .int i ∧ 0 ≤ i ∧ i < (r : Int)) (rangeD 0 (r : Int)) [] [.mw p, .fz (.int r), .fz (.int l), .un, .un, .un, .un, .un, .un, .un, .un, .un, .un] ⟨p, .un, hp, rfl⟩ (by
      have : (rangeD 0 (r : Int)).length = r := by simp [rangeD]
      rw [this, List.length_nil]
      exact Nat.le_trans (show 0 + r ≤ 4 by omega) (by decide)) (by
      rintro x hx ρ ⟨p2, s, hp2, rfl⟩
      obtain ⟨i, rfl, i0, i1⟩ := mem_rangeD hx
      obtain ⟨n, p3, f1, f2, f3, f4⟩ := r_draw (sub := sub) N k hp2 (m := 2) (by omega) (by omega)
      refine ⟨_, _, by_c0 (sub := sub) N k (A := .fz (.int r)) (B := .fz (.int l)) (i := i) rfl t__law_draw f1, ⟨p3, _, f4, rfl⟩, fun y hy => ?_⟩
      split at hy
      · cases hy; exact ⟨i, rfl, i0, i1⟩
      · cases hy)
  obtain ⟨xs, rfl, hx⟩ := ints_of e4
  rw [List.nil_append] at e1
  have g1 : evE (FFn tab fl sub N (k + 1)) C__law_by_rows_0 [.mw p, .fz (.int r), .fz (.int l), .un, .un, .un, .un, .un, .un, .un, .un, .un, .un] = .ok (.ow (.lst true (xs.map .int))) [.mw p', .fz (.int r), .fz (.int l), .un, .un, .un, .un, .un, .un, .un, .un, .un, .un] := by
    rw [C__law_by_rows_0]
    exact lc_run (i_rng (by rw [x_var] <;> rfl) (rOk_small (by omega) (by omega))) e1 rfl
  have ec : cut (xs.map D.int) none (some 2) = (xs.take 2).map D.int := by
    unfold cut sIx
    dsimp only
    rw [if_neg (by omega), List.drop_zero, List.map_take, List.length_map]
    show List.take (min 2 xs.length - 0) _ = _
    rw [Nat.sub_zero]
    rcases Nat.le_total 2 xs.length with h | h
    · rw [Nat.min_eq_left h]
    · rw [Nat.min_eq_right h, List.take_of_length_le (by rw [List.length_map]; exact Nat.le_refl _), List.take_of_length_le (by rw [List.length_map]; exact h)]
  refine ⟨xs.take 2, p', ⟨by rw [List.length_take]; omega, fun c hc => hx c (List.mem_of_mem_take hc)⟩, hp', ?_⟩
  have fin : ∀ {F : Fn} {C : Ex} {X Y : List D} {A B E P P' : Slot}, evE F C [P, A, B, .un, .un, .un, .un, .un, .un, .un, .un, .un, .un] = .ok (.ow (.lst true X)) [P', A, B, .un, .un, .un, .un, .un, .un, .un, .un, .un, .un] → isFrL X = true → cut X none (some 2) = Y →
      evS F sub N (.asg (.nm 3) (.slc C none (some (.lit (.int (2)))))) [P, A, B, .un, .un, .un, .un, .un, .un, .un, .un, .un, .un] = .nx [P', A, B, .ow (.lst true Y), .un, .un, .un, .un, .un, .un, .un, .un, .un] := by
    intro F C X Y A B E P P' h fr ec
    trivial
  exact fin (E := .un) g1 (frL_ints xs) ec
end
end Kk75

set_option Elab.async false
set_option linter.all false
set_option maxRecDepth 100000
/-! k75: a question's parts. -/
namespace Kk75
open PySem Rw
local macro_rules
  | `(tactic| trivial) => `(tactic| simp [callD, freeze, freezeL, freezeP, isFrP, calm_ok, z_pt, al_pt0, lock, unlock, backE, wipeE, killE, Slot.kl, Out.mp, pureE, pureEs, pureO, pureI, mv_popi, mv_append, mv_pop, ty_pop, ty_append, ty_join, mut_pop, mut_join, mut_append, isStrD, initE, musOf, evSs, evEs, evO, evI, evC, tst, getP, getAt, setP, setAt,
    isFr, isFrL, aliases, alPass, argV, callR, muPl, bwRoots, okPts, shrs, as_nm, as_tp, as_0, as_1, cons_, ff_run, ff_modes, bi_len, bi_int, bi_abs, bi_sum,
    fr_ap, lc_ap, wc_ap, wb_ap, e_asg, e_sub, e_ret, e_retN, e_ifs, e_whl, e_fr, e_ex, e_rse, e_try, e_brk, e_cont, e_pass, e_lc,
    x_var, x_mv, x_lit, x_dct0, x_bop, x_neg, x_cmp, x_cmp2, x_band, x_bor, x_bnot, x_ife, x_tup, x_lst, x_sub, x_slc, x_call, x_bi, x_isi, x_mth,
    b_ok, b_exc, o_ok, o_exc, th_nx, th_rt, th_bk, th_ct, th_exc, c_fz, c_ow, c_pt, al_fz, al_ow, v_fz, v_ow, z_fz, z_ow,
    k_fz, k_ow, k_pt0, k_pt, ko_fz, ko_ow, ko_pt0, ko_pt, n_fz, n_ow, n_pt0, n_pt, p_un, p_fz, p_ow, p_bw, p_mw, sc_fz, sc_ow, sc_bw, sc_mw,
    s_fz, s_ow, s_pt, pd_non, pd_bl, pd_int, pd_str, pd_lst, pd_tup, so_t, so_non, so_bl, so_int, so_str, so_lst, so_tup, tr_bl, tr_non, tr_int,
    f_nx, f_rt, f_exc, ad_pt, ad_fz, ad_ow, cm_eq, cm_ne, cm_lt, cm_le, cm_gt, cm_ge, cm_in, cm_ni, cm_isb, cm_isnb, cm_isn, cm_isnn, is_in, eo_ss, eo_ii, eo_bb, ed_ss, ed_ii, ed_bb,
    bp_ai, bp_si, bp_mi, bp_fi, bp_ri, bp_pi, bp_as, bp_ms, bp_al, bp_at, ln_str, ln_tup, ln_lst, iv_lst, iv_tup, iv_str, is_lst,
    sl_str, sl_lst, sl_tup, sl_scr, it_str, it_lst, it_tup, ipt_fz, ipt_ow, ipt_pt, lk_n, ul_n, st_str, st_lst, st_tup,
    x_dctN, x_dget, i_enm, x_fld, x_mk, x_mcall, e_sfld, ff_flds, pd_obj, so_obj, pd_dct, so_dct, cx_ok, cx_exc, bi2_max, bi2_min, bi2_sorted, mut_find, ty_find, mt_find', mut_extend, ty_extend, mv_extend, bp_mt, iv_dct, in_dct, e_aug, av_int, av_str, isFrF, freezeF, putF, List.lookup_cons,
    u1_lst, u1_tup, u1_str, fl_int, fl_bl, fl_str, uo_nx, uo_rt, uo_exc, oo_s, ixN_0, line_s, line_t, *])
section
variable {sub : Str → Str → Option Bool} (N k : Nat)
theorem by_sign0 {fl' : String → String → Bool} {p p1 : D} {A C : Slot} {z : Sg} {li : Int} {Z : List D} (s2 : small 2 = true) (m1 : c__law_pick.modes = [.mu, .al]) (t1 : tab "_law_pick" = some c__law_pick) (ec : cut [D.str [97], .str [97, 98], .str [98]] none (some (2 * li - 1)) = Z) (frz : freezeL Z = Z) (d1 : run tab fl' sub N (k + 2) "_law_pick" [p, .lst false Z] = .rt (.str z) [p1]) :
    evS (FFn tab fl' sub N (k + 2)) sub N (.asg (.nm 5) (.call "_law_pick" [(.var 0), (.slc (.lst [(.lit (.str [97])), (.lit (.str [97, 98])), (.lit (.str [98]))]) none (some (.bop .Sub (.bop .Mult (.lit (.int (2))) (.var 2)) (.lit (.int (1))))))])) [.mw p, A, .fz (.int li), C, .un, .un, .un, .un, .un, .un, .un, .un, .un] =
      .nx [.mw p1, A, .fz (.int li), C, .un, .fz (.str z), .un, .un, .un, .un, .un, .un, .un] := by
  trivial
theorem by_many0 {F : Fn} {A B C E : Slot} {X : List D} {n : Nat} {m : Int} (i1 : ixN 3 (X.length : Int) = some n) (i2 : [D.int 1, .int 2, .int 4][n]? = some (.int m)) : evSs F sub N [(.asg (.nm 6) (.sub (.lst [(.lit (.int (1))), (.lit (.int (2))), (.lit (.int (4)))]) (.bi "len" [(.var 3)]))), (.asg (.nm 7) (.lst []))] [A, B, C, .ow (.lst true X), .un, E, .un, .un, .un, .un, .un, .un, .un] =
    .nx [A, B, C, .ow (.lst true X), .un, E, .fz (.int m), .ow (.lst true []), .un, .un, .un, .un, .un] := by
  trivial
theorem ret_mv7 {F : Fn} {a b c d e f g h i j k l : Slot} {X : D} : evSs F sub N [.ret (.mv 7)] [a, b, c, d, e, f, g, .ow X, h, i, j, k, l] = .rt X [a, b, c, d, e, f, g, .un, h, i, j, k, l] := by
  trivial
theorem by_sign {r l : Nat} (d : Dom r l) {p : D} (hp : PlOk p) {A C : Slot} : ∃ z p1, PlOk p1 ∧ evS (FFn tab fl sub N (k + 2)) sub N (.asg (.nm 5) (.call "_law_pick" [(.var 0), (.slc (.lst [(.lit (.str [97])), (.lit (.str [97, 98])), (.lit (.str [98]))]) none (some (.bop .Sub (.bop .Mult (.lit (.int (2))) (.var 2)) (.lit (.int (1))))))])) [.mw p, A, .fz (.int l), C, .un, .un, .un, .un, .un, .un, .un, .un, .un] =
      .nx [.mw p1, A, .fz (.int l), C, .un, .fz (.str z), .un, .un, .un, .un, .un, .un, .un] := by
  obtain ⟨r1, r2, l1, l2⟩ := rows_dom d
  have : l = 1 ∨ l = 2 := by omega
  rcases this with rfl | rfl
  · obtain ⟨x, p1, e1, hx, hp1⟩ := r_pick (sub := sub) N k hp (o := false) (xs := [.str [97]]) (by simp) (by decide)
    obtain ⟨z, rfl⟩ : ∃ z, x = .str z := ⟨[97], List.mem_singleton.mp hx⟩
    exact ⟨z, p1, hp1, by_sign0 (sub := sub) N k (by decide) rfl t__law_pick rfl rfl e1⟩
  · obtain ⟨x, p1, e1, hx, hp1⟩ := r_pick (sub := sub) N k hp (o := false) (xs := [.str [97], .str [97, 98], .str [98]]) (by simp) (by simp)
    obtain ⟨z, rfl⟩ : ∃ z, x = .str z := by
      simp at hx
      rcases hx with h | h | h
      · exact ⟨_, h⟩
      · exact ⟨_, h⟩
      · exact ⟨_, h⟩
    exact ⟨z, p1, hp1, by_sign0 (sub := sub) N k (by decide) rfl t__law_pick rfl rfl e1⟩
theorem pw_cs {r : Nat} {cs : List Int} (hc : CsOk r cs) : (pw cs = 1 ∨ pw cs = 2 ∨ pw cs = 4) ∧ ∃ n, ixN 3 (((cs.map D.int).length : Nat) : Int) = some n ∧ [D.int 1, .int 2, .int 4][n]? = some (.int (pw cs)) := by
  obtain ⟨hn, _⟩ := hc
  match cs, hn with
  | [], _ => exact ⟨.inl rfl, 0, rfl, rfl⟩
  | [_], _ => exact ⟨.inr (.inl rfl), 1, rfl, rfl⟩
  | [_, _], _ => exact ⟨.inr (.inr rfl), 2, rfl, rfl⟩
  | _ :: _ :: _ :: _, hn => exact absurd hn (by simp)
theorem r_by_rows {r l : Nat} (d : Dom r l) {p : D} (hp : PlOk p) : ∃ t p', rn sub N (k + 3) "_law_by_rows" [p, .int r, .int l] = .rt (rowsD t) [p'] ∧ PlOk p' ∧ TblOk r l t := by
  obtain ⟨cs, p1, hc, hp1, s1⟩ := by_counted (sub := sub) N (k + 1) d hp
  obtain ⟨z, p2, hp2, s2⟩ := by_sign (sub := sub) N k d hp1 (A := .fz (.int r)) (C := .ow (intsD cs))
  obtain ⟨hm, n, i1, i2⟩ := pw_cs hc
  have s3 := by_many0 (sub := sub) N (F := FFn tab fl sub N (k + 2)) (A := .mw p2) (B := .fz (.int r)) (C := .fz (.int l)) (E := .fz (.str z)) i1 i2
  obtain ⟨⟨p3, t⟩, e2, hp3, htl, htb⟩ := forL_rng (σ := D × Tbl) (fun st => [.mw st.1, .fz (.int r), .fz (.int l), .ow (intsD cs), .un, .fz (.str z), .un, .ow (rowsD st.2), .un, .un, .un, .un, .un])
    (f := frB (FFn tab fl sub N (k + 2)) sub N [false, false, false, false, true, false, true, false, true, true, true, true, true] (.nm 8) true B__law_by_rows_2)
    (fun i st => PlOk st.1 ∧ st.2.length = i.toNat ∧ ∀ s ∈ st.2, RowOk r l (pw cs) s) (hi := pw cs) (pw cs).toNat 0 (p2, []) (by omega) (by omega) ⟨hp2, rfl, fun _ z => nomatch z⟩ (fun i st h0 h1 ⟨hq, hl, hb⟩ => by
      obtain ⟨xs, f1, f2, f3⟩ := by_cols (sub := sub) N (k + 1) d hc (p := st.1) (T := rowsD st.2) (z := z) ⟨h0, h1⟩
      have f0 := by_nil (sub := sub) N (F := FFn tab fl sub N (k + 2)) (A := .mw st.1) (B := .fz (.int r)) (C := .fz (.int l)) (E := .ow (intsD cs)) (G := .fz (.str z)) (H := .ow (rowsD st.2)) (I := .fz (.int i))
      obtain ⟨v, p5, d5, v0, v1, hp5⟩ := r_draw (sub := sub) N (k + 1) hq (m := 2) (by omega) (by omega)
      have hlen : (st.2.map stD).length < 16777216 := by rw [List.length_map]; omega
      have f4 := by_app7 (sub := sub) N (k + 1) (A := .fz (.int r)) (B := .fz (.int l)) (C := .ow (intsD cs)) (E := .fz (.str z)) (G := .fz (.int i)) (T := st.2.map stD) rfl t__law_draw d5 (frL_ints xs) (bt_ints true (xs.map D.int)) (fun x => mv_append _ x (line_t.mpr hlen))
      refine ⟨(p5, st.2 ++ [(decide (v = 0), xs)]), ?_, hp5, ?_, fun s hs => ?_⟩
      · have := fr_turn (sub := sub) N (F := FFn tab fl sub N (k + 2)) (ks := [false, false, false, false, true, false, true, false, true, true, true, true, true]) (t := .nm 8) (bz := true) (b := B__law_by_rows_2) (x := .int i) (ρ := [.mw st.1, .fz (.int r), .fz (.int l), .ow (intsD cs), .un, .fz (.str z), .un, .ow (rowsD st.2), .un, .un, .un, .un, .un]) rfl ((ss_nx N f0).trans ((ss_nx N f1).trans ((ss_nx N f4).trans (by rw [evSs]))))
        rw [this]
        unfold rowsD
        rw [map_app1]
        rfl
      · rw [List.length_append, hl]
        show i.toNat + 1 = _
        omega
      · rcases List.mem_append.mp hs with y | y
        · exact hb s y
        · rw [List.mem_singleton.mp y]; exact ⟨f2, f3⟩)
  dsimp only at htl htb hp3
  have eS : evS (FFn tab fl sub N (k + 2)) sub N S__law_by_rows_2 [.mw p2, .fz (.int r), .fz (.int l), .ow (.lst true (cs.map .int)), .un, .fz (.str z), .fz (.int (pw cs)), .ow (.lst true []), .un, .un, .un, .un, .un] =
      .nx [.mw p3, .fz (.int r), .fz (.int l), .ow (intsD cs), .un, .fz (.str z), .un, .ow (rowsD t), .un, .un, .un, .un, .un] := by
    rw [S__law_by_rows_2]
    exact (fr_run (i_rng (n := pw cs) (by rw [x_var] <;> rfl) (rOk_small (by omega) (by omega))) e2).trans uo_id
  have em : (t.length : Int) = pw cs := by omega
  refine ⟨t, p3, ?_, hp3, .of d (by omega) (by omega) (by rw [em]; exact htb)⟩
  unfold rn
  rw [run_u t__law_by_rows]
  unfold callD
  show finish [.mu, .al, .al] (evSs _ _ _ _ [.mw p, .fz (.int r), .fz (.int l), .un, .un, .un, .un, .un, .un, .un, .un, .un, .un]) = _
  rw [show c__law_by_rows.body = (.asg (.nm 3) (.slc C__law_by_rows_0 none (some (.lit (.int (2)))))) :: (.asg (.nm 5) (.call "_law_pick" [(.var 0), (.slc (.lst [(.lit (.str [97])), (.lit (.str [97, 98])), (.lit (.str [98]))]) none (some (.bop .Sub (.bop .Mult (.lit (.int (2))) (.var 2)) (.lit (.int (1))))))])) :: ([(.asg (.nm 6) (.sub (.lst [(.lit (.int (1))), (.lit (.int (2))), (.lit (.int (4)))]) (.bi "len" [(.var 3)]))), (.asg (.nm 7) (.lst []))] ++ [S__law_by_rows_2, .ret (.mv 7)]) from rfl, ss_nx N s1, ss_nx N s2]
  unfold intsD
  rw [ss_app N s3, ss_nx N eS, ret_mv7]
  rfl
/-! ### the parts -/
theorem sp_rows0 {fl' : String → String → Bool} {p p1 : D} {v : Int} (m1 : c__law_pick.modes = [.mu, .al]) (t1 : tab "_law_pick" = some c__law_pick) (d1 : run tab fl' sub N (k + 2) "_law_pick" [p, .lst false [.int 2, .int 2, .int 2, .int 4]] = .rt (.int v) [p1]) :
    evS (FFn tab fl' sub N (k + 2)) sub N (.asg (.nm 2) (.call "_law_pick" [(.var 0), (.lst [(.lit (.int (2))), (.lit (.int (2))), (.lit (.int (2))), (.var 1)])])) [.mw p, .fz (.int 4), .un, .un, .un, .un] = .nx [.mw p1, .fz (.int 4), .fz (.int v), .un, .un, .un] := by
  trivial
theorem sp_let0 {fl' : String → String → Bool} {p p1 : D} {v w : Int} (h : ¬ 3 < v) (m1 : c__law_pick.modes = [.mu, .al]) (t1 : tab "_law_pick" = some c__law_pick) (d1 : run tab fl' sub N (k + 2) "_law_pick" [p, .lst false [.int 1, .int 1, .int 2]] = .rt (.int w) [p1]) :
    evS (FFn tab fl' sub N (k + 2)) sub N (.asg (.nm 3) (.ife (.cmp .gt (.var 2) (.lit (.int (3)))) (.lit (.int (1))) (.call "_law_pick" [(.var 0), (.lst [(.lit (.int (1))), (.lit (.int (1))), (.lit (.int (2)))])]))) [.mw p, .fz (.int 4), .fz (.int v), .un, .un, .un] = .nx [.mw p1, .fz (.int 4), .fz (.int v), .fz (.int w), .un, .un] := by
  trivial
theorem sp_let1 {F : Fn} {p : D} {v : Int} (h : 3 < v) : evS F sub N (.asg (.nm 3) (.ife (.cmp .gt (.var 2) (.lit (.int (3)))) (.lit (.int (1))) (.call "_law_pick" [(.var 0), (.lst [(.lit (.int (1))), (.lit (.int (1))), (.lit (.int (2)))])]))) [.mw p, .fz (.int 4), .fz (.int v), .un, .un, .un] = .nx [.mw p, .fz (.int 4), .fz (.int v), .fz (.int 1), .un, .un] := by
  trivial
theorem sp_kind0 {fl' : String → String → Bool} {p p1 : D} {A B : Slot} {n : Int} (m1 : c__law_draw.modes = [.mu, .al]) (t1 : tab "_law_draw" = some c__law_draw) (d1 : run tab fl' sub N (k + 2) "_law_draw" [p, .int 8] = .rt (.int n) [p1]) :
    evS (FFn tab fl' sub N (k + 2)) sub N (.asg (.nm 4) (.call "_law_draw" [(.var 0), (.lit (.int (8)))])) [.mw p, .fz (.int 4), A, B, .un, .un] = .nx [.mw p1, .fz (.int 4), A, B, .fz (.int n), .un] := by
  trivial
def spI : Rw.St := (.ifs (.cmp .lt (.var 4) (.lit (.int (2)))) [(.asg (.nm 5) (.call "_law_drawn_table" [(.var 0), (.var 2), (.var 3), (.bop .Add (.lit (.int (1))) (.call "_law_draw" [(.var 0), (.lit (.int (4)))])), (.cmp .eq (.var 4) (.lit (.int (0))))]))] [(.ifs (.cmp .lt (.var 4) (.lit (.int (5)))) [(.asg (.nm 5) (.call "_law_by_rows" [(.var 0), (.var 2), (.var 3)]))] [(.ifs (.cmp .lt (.var 4) (.lit (.int (7)))) [(.asg (.nm 5) (.call "_law_first_signs" [(.var 0), (.var 2), (.var 3)]))] [(.asg (.nm 5) (.call "_law_compared" [(.var 0), (.var 2), (.var 3)]))])])])
theorem sp_a {fl' : String → String → Bool} {p p1 p2 : D} {ri li n m : Int} {T : List D} (h : n < 2) (m1 : c__law_draw.modes = [.mu, .al]) (t1 : tab "_law_draw" = some c__law_draw) (d1 : run tab fl' sub N (k + 3) "_law_draw" [p, .int 4] = .rt (.int m) [p1])
    (m2 : c__law_drawn_table.modes = [.mu, .al, .al, .al, .al]) (t2 : tab "_law_drawn_table" = some c__law_drawn_table) (d2 : run tab fl' sub N (k + 3) "_law_drawn_table" [p1, .int ri, .int li, .int (1 + m), .bl (decide (n = 0))] = .rt (.lst true T) [p2]) :
    evS (FFn tab fl' sub N (k + 3)) sub N spI [.mw p, .fz (.int 4), .fz (.int ri), .fz (.int li), .fz (.int n), .un] = .nx [.mw p2, .fz (.int 4), .fz (.int ri), .fz (.int li), .fz (.int n), .ow (.lst true T)] := by
  unfold spI
  trivial
theorem sp_b {fl' : String → String → Bool} {p p2 : D} {ri li n : Int} {T : List D} (h : ¬ n < 2) (h2 : n < 5) (m2 : c__law_by_rows.modes = [.mu, .al, .al]) (t2 : tab "_law_by_rows" = some c__law_by_rows) (d2 : run tab fl' sub N (k + 3) "_law_by_rows" [p, .int ri, .int li] = .rt (.lst true T) [p2]) :
    evS (FFn tab fl' sub N (k + 3)) sub N spI [.mw p, .fz (.int 4), .fz (.int ri), .fz (.int li), .fz (.int n), .un] = .nx [.mw p2, .fz (.int 4), .fz (.int ri), .fz (.int li), .fz (.int n), .ow (.lst true T)] := by
  unfold spI
  trivial
theorem sp_c {fl' : String → String → Bool} {p p2 : D} {ri li n : Int} {T : List D} (h : ¬ n < 2) (h2 : ¬ n < 5) (h3 : n < 7) (m2 : c__law_first_signs.modes = [.mu, .al, .al]) (t2 : tab "_law_first_signs" = some c__law_first_signs) (d2 : run tab fl' sub N (k + 3) "_law_first_signs" [p, .int ri, .int li] = .rt (.lst true T) [p2]) :
    evS (FFn tab fl' sub N (k + 3)) sub N spI [.mw p, .fz (.int 4), .fz (.int ri), .fz (.int li), .fz (.int n), .un] = .nx [.mw p2, .fz (.int 4), .fz (.int ri), .fz (.int li), .fz (.int n), .ow (.lst true T)] := by
  unfold spI
  trivial
theorem sp_d {fl' : String → String → Bool} {p p2 : D} {ri li n : Int} {T : List D} (h : ¬ n < 2) (h2 : ¬ n < 5) (h3 : ¬ n < 7) (m2 : c__law_compared.modes = [.mu, .al, .al]) (t2 : tab "_law_compared" = some c__law_compared) (d2 : run tab fl' sub N (k + 3) "_law_compared" [p, .int ri, .int li] = .rt (.lst true T) [p2]) :
    evS (FFn tab fl' sub N (k + 3)) sub N spI [.mw p, .fz (.int 4), .fz (.int ri), .fz (.int li), .fz (.int n), .un] = .nx [.mw p2, .fz (.int 4), .fz (.int ri), .fz (.int li), .fz (.int n), .ow (.lst true T)] := by
  unfold spI
  trivial
theorem sp_ret {F : Fn} {P A C : Slot} {ri li : Int} {T : List D} (fr : isFrL T = true) (bt : biV "tuple" [.lst true T] = some (.tup T)) : evSs F sub N [(.ret (.tup [(.mv 2), (.mv 3), (.bi "tuple" [(.var 5)])]))] [P, A, .fz (.int ri), .fz (.int li), C, .ow (.lst true T)] = .rt (.tup [.int ri, .int li, .tup T]) [P, A, .fz (.int ri), .fz (.int li), C, .ow (.lst true T)] := by
  trivial
theorem r_spec {p : D} (hp : PlOk p) : ∃ r l t p', rn sub N (k + 4) "_law_spec" [p, .int 4] = .rt (spD r l t) [p'] ∧ PlOk p' ∧ TblOk r l t := by
  obtain ⟨x, p1, e1, hx, hp1⟩ := r_pick (sub := sub) N (k + 1) hp (o := false) (xs := [.int 2, .int 2, .int 2, .int 4]) (by simp) (by simp)
  obtain ⟨r, rfl, hr⟩ : ∃ r : Nat, x = .int r ∧ (r = 2 ∨ r = 4) := by
    simp at hx
    rcases hx with h | h
    · exact ⟨2, h, .inl rfl⟩
    · exact ⟨4, h, .inr rfl⟩
  have s1 := sp_rows0 (sub := sub) N (k + 1) rfl t__law_pick e1
  obtain ⟨l, p2, hd, hp2, s2⟩ : ∃ (l : Nat) (p2 : D), Dom r l ∧ PlOk p2 ∧ evS (FFn tab fl sub N (k + 3)) sub N (.asg (.nm 3) (.ife (.cmp .gt (.var 2) (.lit (.int (3)))) (.lit (.int (1))) (.call "_law_pick" [(.var 0), (.lst [(.lit (.int (1))), (.lit (.int (1))), (.lit (.int (2)))])]))) [.mw p1, .fz (.int 4), .fz (.int r), .un, .un, .un] = .nx [.mw p2, .fz (.int 4), .fz (.int r), .fz (.int l), .un, .un] := by
    rcases hr with rfl | rfl
    · obtain ⟨y, p2, e2, hy, hp2⟩ := r_pick (sub := sub) N (k + 1) hp1 (o := false) (xs := [.int 1, .int 1, .int 2]) (by simp) (by simp)
      simp at hy
      rcases hy with rfl | rfl
      · exact ⟨1, p2, .inl ⟨rfl, rfl⟩, hp2, sp_let0 (sub := sub) N (k + 1) (by decide) rfl t__law_pick e2⟩
      · exact ⟨2, p2, .inr (.inl ⟨rfl, rfl⟩), hp2, sp_let0 (sub := sub) N (k + 1) (by decide) rfl t__law_pick e2⟩
    · exact ⟨1, p1, .inr (.inr ⟨rfl, rfl⟩), hp1, sp_let1 (sub := sub) N (by decide)⟩
  obtain ⟨n, p3, d3, n0, n1, hp3⟩ := r_draw (sub := sub) N (k + 2) hp2 (m := 8) (by omega) (by omega)
  have s3 := sp_kind0 (sub := sub) N (k + 1) (A := .fz (.int r)) (B := .fz (.int l)) rfl t__law_draw d3
  obtain ⟨t, p4, hp4, ht, s4⟩ : ∃ (t : Tbl) (p4 : D), PlOk p4 ∧ TblOk r l t ∧ evS (FFn tab fl sub N (k + 3)) sub N spI [.mw p3, .fz (.int 4), .fz (.int r), .fz (.int l), .fz (.int n), .un] = .nx [.mw p4, .fz (.int 4), .fz (.int r), .fz (.int l), .fz (.int n), .ow (rowsD t)] := by
    by_cases h : n < 2
    · obtain ⟨m, q, dm, a1, a2, hq⟩ := r_draw (sub := sub) N (k + 2) hp3 (m := 4) (by omega) (by omega)
      obtain ⟨t, p4, e, hp4, ht⟩ := r_drawn_table (sub := sub) N (k + 1) hd hq (m := 1 + m) ⟨by omega, by omega⟩ (decide (n = 0))
      exact ⟨t, p4, hp4, ht, sp_a (sub := sub) N k h rfl t__law_draw dm rfl t__law_drawn_table e⟩
    · by_cases h2 : n < 5
      · obtain ⟨t, p4, e, hp4, ht⟩ := r_by_rows (sub := sub) N k hd hp3
        exact ⟨t, p4, hp4, ht, sp_b (sub := sub) N k h h2 rfl t__law_by_rows e⟩
      · by_cases h3 : n < 7
        · obtain ⟨t, p4, e, hp4, ht⟩ := r_first_signs (sub := sub) N (k + 1) hd hp3
          exact ⟨t, p4, hp4, ht, sp_c (sub := sub) N k h h2 h3 rfl t__law_first_signs e⟩
        · obtain ⟨t, p4, e, hp4, ht⟩ := r_compared (sub := sub) N (k + 1) hd hp3
          exact ⟨t, p4, hp4, ht, sp_d (sub := sub) N k h h2 h3 rfl t__law_compared e⟩
  have fin := sp_ret (sub := sub) N (F := FFn tab fl sub N (k + 3)) (P := .mw p4) (A := .fz (.int 4)) (C := .fz (.int n)) (ri := (r : Int)) (li := (l : Int)) (frL_st t) (bt_ints true (t.map stD))
  refine ⟨r, l, t, p4, ?_, hp4, ht⟩
  unfold rn
  rw [run_u t__law_spec]
  unfold callD
  show finish [.mu, .al] (evSs _ _ _ _ [.mw p, .fz (.int 4), .un, .un, .un, .un]) = _
  rw [show c__law_spec.body = [(.asg (.nm 2) (.call "_law_pick" [(.var 0), (.lst [(.lit (.int (2))), (.lit (.int (2))), (.lit (.int (2))), (.var 1)])])), (.asg (.nm 3) (.ife (.cmp .gt (.var 2) (.lit (.int (3)))) (.lit (.int (1))) (.call "_law_pick" [(.var 0), (.lst [(.lit (.int (1))), (.lit (.int (1))), (.lit (.int (2)))])]))), (.asg (.nm 4) (.call "_law_draw" [(.var 0), (.lit (.int (8)))])), spI, (.ret (.tup [(.mv 2), (.mv 3), (.bi "tuple" [(.var 5)])]))] from rfl, ss_nx N s1, ss_nx N s2, ss_nx N s3, ss_nx N s4]
  unfold rowsD
  rw [fin]
  rfl
end
end Kk75

set_option Elab.async false
set_option linter.all false
set_option maxRecDepth 100000
/-! k75: words that are drawn. -/
namespace Kk75
open PySem Rw
local macro_rules
  | `(tactic| trivial) => `(tactic| simp [callD, freeze, freezeL, freezeP, isFrP, calm_ok, z_pt, al_pt0, lock, unlock, backE, wipeE, killE, Slot.kl, Out.mp, pureE, pureEs, pureO, pureI, mv_popi, mv_append, mv_pop, ty_pop, ty_append, ty_join, mut_pop, mut_join, mut_append, isStrD, initE, musOf, evSs, evEs, evO, evI, evC, tst, getP, getAt, setP, setAt,
    isFr, isFrL, aliases, alPass, argV, callR, muPl, bwRoots, okPts, shrs, as_nm, as_tp, as_0, as_1, cons_, ff_run, ff_modes, bi_len, bi_int, bi_abs, bi_sum,
    fr_ap, lc_ap, wc_ap, wb_ap, e_asg, e_sub, e_ret, e_retN, e_ifs, e_whl, e_fr, e_ex, e_rse, e_try, e_brk, e_cont, e_pass, e_lc,
    x_var, x_mv, x_lit, x_dct0, x_bop, x_neg, x_cmp, x_cmp2, x_band, x_bor, x_bnot, x_ife, x_tup, x_lst, x_sub, x_slc, x_call, x_bi, x_isi, x_mth,
    b_ok, b_exc, o_ok, o_exc, th_nx, th_rt, th_bk, th_ct, th_exc, c_fz, c_ow, c_pt, al_fz, al_ow, v_fz, v_ow, z_fz, z_ow,
    k_fz, k_ow, k_pt0, k_pt, ko_fz, ko_ow, ko_pt0, ko_pt, n_fz, n_ow, n_pt0, n_pt, p_un, p_fz, p_ow, p_bw, p_mw, sc_fz, sc_ow, sc_bw, sc_mw,
    s_fz, s_ow, s_pt, pd_non, pd_bl, pd_int, pd_str, pd_lst, pd_tup, so_t, so_non, so_bl, so_int, so_str, so_lst, so_tup, tr_bl, tr_non, tr_int,
    f_nx, f_rt, f_exc, ad_pt, ad_fz, ad_ow, cm_eq, cm_ne, cm_lt, cm_le, cm_gt, cm_ge, cm_in, cm_ni, cm_isb, cm_isnb, cm_isn, cm_isnn, is_in, eo_ss, eo_ii, eo_bb, ed_ss, ed_ii, ed_bb,
    bp_ai, bp_si, bp_mi, bp_fi, bp_ri, bp_pi, bp_as, bp_ms, bp_al, bp_at, ln_str, ln_tup, ln_lst, iv_lst, iv_tup, iv_str, is_lst,
    sl_str, sl_lst, sl_tup, sl_scr, it_str, it_lst, it_tup, ipt_fz, ipt_ow, ipt_pt, lk_n, ul_n, st_str, st_lst, st_tup,
    x_dctN, x_dget, i_enm, x_fld, x_mk, x_mcall, e_sfld, ff_flds, pd_obj, so_obj, pd_dct, so_dct, cx_ok, cx_exc, bi2_max, bi2_min, bi2_sorted, mut_find, ty_find, mt_find', mut_extend, ty_extend, mv_extend, bp_mt, iv_dct, in_dct, e_aug, av_int, av_str, isFrF, freezeF, putF, List.lookup_cons,
    u1_lst, u1_tup, u1_str, fl_int, fl_bl, fl_str, uo_nx, uo_rt, uo_exc, oo_s, ixN_0, line_s, line_t, *])
section
variable {sub : Str → Str → Option Bool} (N k : Nat)
theorem dw_item0 {fl' : String → String → Bool} {p p1 : D} {A B C E : Slot} {l i n : Int} {j c : Nat} (m1 : c__law_draw.modes = [.mu, .al]) (t1 : tab "_law_draw" = some c__law_draw) (d1 : run tab fl' sub N (k + 1) "_law_draw" [p, .int l] = .rt (.int n) [p1]) (i1 : ixN 2 n = some j) (i2 : ([97, 98] : Sg)[j]? = some c) :
    lcB (FFn tab fl' sub N (k + 1)) (.nm 6) true none (.sub (.lit (.str [97, 98])) (.call "_law_draw" [(.var 0), (.var 2)])) (.int i) [.mw p, A, .fz (.int l), B, C, E, .un] = .ok (some (.str [c])) [.mw p1, A, .fz (.int l), B, C, E, .fz (.int i)] := by
  trivial
theorem dw_rng0 {fl' : String → String → Bool} {p p1 : D} {A C E G : Slot} {m n : Int} (m1 : c__law_draw.modes = [.mu, .al]) (t1 : tab "_law_draw" = some c__law_draw) (d1 : run tab fl' sub N (k + 1) "_law_draw" [p, .int (m + 1)] = .rt (.int n) [p1]) :
    evE (FFn tab fl' sub N (k + 1)) (.call "_law_draw" [(.var 0), (.bop .Add (.var 3) (.lit (.int (1))))]) [.mw p, A, C, .fz (.int m), E, G, .un] = .ok (.fz (.int n)) [.mw p1, A, C, .fz (.int m), E, G, .un] := by
  trivial
theorem dw_join0 {F : Fn} {C : Ex} {x : Sg} {ρ ρ1 : Rw.Env} {T : List D} {X : List D} (h : evE F C ρ = .ok (.ow (.lst true X)) ρ1) (hj : mthV "join" (.str []) [.lst true X] = some (.str x)) : evE F (.mth "join" (.lit (.str [])) [C]) ρ = .ok (.fz (.str x)) ρ1 := by
  trivial
theorem dw_app0 {F : Fn} {e : Ex} {p p1 : D} {A B C E G : Slot} {T : List D} {x : Sg} (hp : pureE e = false) (h : evE F e [.mw p, A, B, C, .ow (.lst true T), E, G] = .ok (.fz (.str x)) [.mw p1, A, B, C, .ow (.lst true T), E, G]) (hl2 : ∀ x, mutV "append" (.lst true T) [x] = some (.non, .lst true (T ++ [x]))) :
    evS F sub N (.ex (.mth "append" (.var 4) [e])) [.mw p, A, B, C, .ow (.lst true T), E, G] = .nx [.mw p1, A, B, C, .ow (.lst true (T ++ [.str x])), E, G] := by
  trivial
theorem dw_word {l : Nat} (hl : 1 ≤ l ∧ l ≤ 2) {p : D} (hp : PlOk p) {m : Int} (hm : 0 ≤ m ∧ m ≤ 60) {A E G : Slot} :
    ∃ x p', evE (FFn tab fl sub N (k + 1)) (.mth "join" (.lit (.str [])) [C__law_drawn_words_0]) [.mw p, A, .fz (.int l), .fz (.int m), E, G, .un] = .ok (.fz (.str x)) [.mw p', A, .fz (.int l), .fz (.int m), E, G, .un] ∧ PlOk p' ∧ x.length ≤ 60 ∧ ∀ c ∈ x, c ∈ abc.take l := by
  obtain ⟨n, p1, d1, n0, n1, hp1⟩ := r_draw (sub := sub) N k hp (m := m + 1) (by omega) (by omega)
  obtain ⟨j, rfl⟩ := Int.eq_ofNat_of_zero_le n0
  have hlen : (rangeD 0 (j : Int)).length = j := by simp [rangeD]
  obtain ⟨ys, ρ', e1, ⟨p2, s, hp2, rfl⟩, e3, e4⟩ := lcL_inv (f := lcB (FFn tab fl sub N (k + 1)) (.nm 6) true none (.sub (.lit (.str [97, 98])) (.call "_law_draw" [(.var 0), (.var 2)]))) (own := [6])
    (fun ρ => ∃ p s, PlOk p ∧ ρ = [.mw p, A, .fz (.int l), .fz (.int m), E, G, s]) (fun y => ∃ c, y = .str [c] ∧ c ∈ abc.take l) (rangeD 0 (j : Int)) [] [.mw p1, A, .fz (.int l), .fz (.int m), E, G, .un] ⟨p1, .un, hp1, rfl⟩ (by rw [hlen, List.length_nil, Nat.zero_add]; exact Nat.le_trans (show j ≤ 60 by omega) (by decide)) (by
      rintro x hx ρ ⟨p2, s, hp2, rfl⟩
      obtain ⟨i, rfl, _, _⟩ := mem_rangeD hx
      obtain ⟨n, p3, f1, f2, f3, f4⟩ := r_draw (sub := sub) N k hp2 (m := (l : Int)) (by omega) (by omega)
      obtain ⟨q, rfl⟩ := Int.eq_ofNat_of_zero_le f2
      have hq : q < 2 := by omega
      have g1 : ixN 2 (q : Int) = some q := by rw [ixN_nat, if_pos hq]
      have g2 : ([97, 98] : Sg)[q]? = some ([97, 98] : Sg)[q] := List.getElem?_eq_getElem hq
      refine ⟨.str [([97, 98] : Sg)[q]], _, dw_item0 (sub := sub) N k rfl t__law_draw f1 g1 g2, ⟨p3, _, f4, rfl⟩, _, rfl, ?_⟩
      have e : [97, 98].take l = abc.take l := by
        have : l = 1 ∨ l = 2 := by omega
        rcases this with rfl | rfl <;> rfl
      rw [← e, List.mem_iff_getElem?]
      exact ⟨q, by rw [List.getElem?_take, if_pos (by omega)]; exact g2⟩)
  obtain ⟨x, rfl, hx⟩ := strs_of e4
  have hxl : x.length = j := by rw [List.length_map, hlen] at e3; exact e3
  rw [List.nil_append] at e1
  have g1 : evE (FFn tab fl sub N (k + 1)) C__law_drawn_words_0 [.mw p, A, .fz (.int l), .fz (.int m), E, G, .un] = .ok (.ow (.lst true (x.map fun c => D.str [c]))) [.mw p2, A, .fz (.int l), .fz (.int m), E, G, .un] := by
    rw [C__law_drawn_words_0]
    exact lc_run (i_rng (dw_rng0 (sub := sub) N k rfl t__law_draw d1) (rOk_small (by omega) (by omega))) e1 rfl
  exact ⟨x, p2, dw_join0 (T := []) g1 (join1 (o := true) (Nat.le_trans (show x.length ≤ 60 by omega) (by decide))), hp2, by omega, hx⟩
theorem dw_ret0 {F : Fn} {A B C E G H : Slot} {T : List D} (fr : isFrL T = true) (bt : biV "tuple" [.lst true T] = some (.tup T)) : evSs F sub N [(.ret (.bi "tuple" [(.var 4)]))] [A, B, C, E, .ow (.lst true T), G, H] = .rt (.tup T) [A, B, C, E, .ow (.lst true T), G, H] := by
  trivial
theorem dw_nil0 {F : Fn} {A B C E G H : Slot} : evS F sub N (.asg (.nm 4) (.lst [])) [A, B, C, E, .un, G, H] = .nx [A, B, C, E, .ow (.lst true []), G, H] := by
  trivial
theorem r_drawn_words {r l : Nat} (d : Dom r l) {p : D} (hp : PlOk p) {m : Int} (hm : 0 ≤ m ∧ m ≤ 60) : ∃ ws p', rn sub N (k + 2) "_law_drawn_words" [p, .int r, .int l, .int m] = .rt (wsD ws) [p'] ∧ PlOk p' ∧ WsOk r l ws := by
  obtain ⟨r1, r2, l1, l2⟩ := rows_dom d
  obtain ⟨⟨p3, ws⟩, e2, hp3, hwl, hwb⟩ := forL_rng (σ := D × List Sg) (fun st => [.mw st.1, .un, .fz (.int l), .fz (.int m), .ow (.lst true (st.2.map .str)), .un, .un])
    (f := frB (FFn tab fl sub N (k + 1)) sub N [false, true, false, false, false, true, true] (.nm 5) true B__law_drawn_words_0)
    (fun i st => PlOk st.1 ∧ st.2.length = i.toNat ∧ ∀ w ∈ st.2, w.length ≤ 60 ∧ ∀ x ∈ w, x ∈ abc.take l) (hi := (r : Int)) r 0 (p, []) (by omega) (by omega) ⟨hp, rfl, fun _ z => nomatch z⟩ (fun i st h0 h1 ⟨hq, hl, hb⟩ => by
      obtain ⟨x, p', f1, f2, f3, f4⟩ := dw_word (sub := sub) N k ⟨l1, l2⟩ hq hm (A := .un) (E := .ow (.lst true (st.2.map .str))) (G := .fz (.int i))
      have hlen : (st.2.map D.str).length < 16777216 := by rw [List.length_map]; omega
      have f5 := dw_app0 (sub := sub) N (by rfl) f1 (fun x => mv_append _ x (line_t.mpr hlen))
      refine ⟨(p', st.2 ++ [x]), ?_, f2, ?_, fun w hw => ?_⟩
      · have := fr_turn (sub := sub) N (F := FFn tab fl sub N (k + 1)) (ks := [false, true, false, false, false, true, true]) (t := .nm 5) (bz := true) (b := B__law_drawn_words_0) (x := .int i) (ρ := [.mw st.1, .un, .fz (.int l), .fz (.int m), .ow (.lst true (st.2.map .str)), .un, .un]) rfl ((ss_nx N f5).trans (by rw [evSs]))
        rw [this, map_app1]
        rfl
      · rw [List.length_append, hl]
        show i.toNat + 1 = _
        omega
      · rcases List.mem_append.mp hw with z | z
        · exact hb w z
        · rw [List.mem_singleton.mp z]; exact ⟨f3, f4⟩)
  dsimp only at hwl hwb hp3
  have eS : evS (FFn tab fl sub N (k + 1)) sub N S__law_drawn_words_0 [.mw p, .fz (.int r), .fz (.int l), .fz (.int m), .ow (.lst true []), .un, .un] = .nx [.mw p3, .un, .fz (.int l), .fz (.int m), .ow (.lst true (ws.map .str)), .un, .un] := by
    rw [S__law_drawn_words_0]
    exact (fr_run (i_rng (n := (r : Int)) (by rw [x_var] <;> rfl) (rOk_small (by omega) (by omega))) e2).trans uo_id
  refine ⟨ws, p3, ?_, hp3, by omega, hwb⟩
  unfold rn
  rw [run_u t__law_drawn_words]
  unfold callD
  show finish [.mu, .al, .al, .al] (evSs _ _ _ _ [.mw p, .fz (.int r), .fz (.int l), .fz (.int m), .un, .un, .un]) = _
  rw [show c__law_drawn_words.body = [(.asg (.nm 4) (.lst [])), S__law_drawn_words_0, (.ret (.bi "tuple" [(.var 4)]))] from rfl, ss_nx N (dw_nil0 (sub := sub) N), ss_nx N eS, dw_ret0 N (frL_strs ws) (bt_ints true (ws.map D.str))]
  rfl
end
end Kk75

set_option Elab.async false
set_option linter.all false
set_option maxRecDepth 100000
/-! k75: the law. -/
namespace Kk75
open PySem Rw
local macro_rules
  | `(tactic| trivial) => `(tactic| simp [callD, freeze, freezeL, freezeP, isFrP, calm_ok, z_pt, al_pt0, lock, unlock, backE, wipeE, killE, Slot.kl, Out.mp, pureE, pureEs, pureO, pureI, mv_popi, mv_append, mv_pop, ty_pop, ty_append, ty_join, mut_pop, mut_join, mut_append, isStrD, initE, musOf, evSs, evEs, evO, evI, evC, tst, getP, getAt, setP, setAt,
    isFr, isFrL, aliases, alPass, argV, callR, muPl, bwRoots, okPts, shrs, as_nm, as_tp, as_0, as_1, cons_, ff_run, ff_modes, bi_len, bi_int, bi_abs, bi_sum,
    fr_ap, lc_ap, wc_ap, wb_ap, e_asg, e_sub, e_ret, e_retN, e_ifs, e_whl, e_fr, e_ex, e_rse, e_try, e_brk, e_cont, e_pass, e_lc,
    x_var, x_mv, x_lit, x_dct0, x_bop, x_neg, x_cmp, x_cmp2, x_band, x_bor, x_bnot, x_ife, x_tup, x_lst, x_sub, x_slc, x_call, x_bi, x_isi, x_mth,
    b_ok, b_exc, o_ok, o_exc, th_nx, th_rt, th_bk, th_ct, th_exc, c_fz, c_ow, c_pt, al_fz, al_ow, v_fz, v_ow, z_fz, z_ow,
    k_fz, k_ow, k_pt0, k_pt, ko_fz, ko_ow, ko_pt0, ko_pt, n_fz, n_ow, n_pt0, n_pt, p_un, p_fz, p_ow, p_bw, p_mw, sc_fz, sc_ow, sc_bw, sc_mw,
    s_fz, s_ow, s_pt, pd_non, pd_bl, pd_int, pd_str, pd_lst, pd_tup, so_t, so_non, so_bl, so_int, so_str, so_lst, so_tup, tr_bl, tr_non, tr_int,
    f_nx, f_rt, f_exc, ad_pt, ad_fz, ad_ow, cm_eq, cm_ne, cm_lt, cm_le, cm_gt, cm_ge, cm_in, cm_ni, cm_isb, cm_isnb, cm_isn, cm_isnn, is_in, eo_ss, eo_ii, eo_bb, ed_ss, ed_ii, ed_bb,
    bp_ai, bp_si, bp_mi, bp_fi, bp_ri, bp_pi, bp_as, bp_ms, bp_al, bp_at, ln_str, ln_tup, ln_lst, iv_lst, iv_tup, iv_str, is_lst,
    sl_str, sl_lst, sl_tup, sl_scr, it_str, it_lst, it_tup, ipt_fz, ipt_ow, ipt_pt, lk_n, ul_n, st_str, st_lst, st_tup,
    x_dctN, x_dget, i_enm, x_fld, x_mk, x_mcall, e_sfld, ff_flds, pd_obj, so_obj, pd_dct, so_dct, cx_ok, cx_exc, bi2_max, bi2_min, bi2_sorted, mut_find, ty_find, mt_find', mut_extend, ty_extend, mv_extend, bp_mt, iv_dct, in_dct, e_aug, av_int, av_str, isFrF, freezeF, putF, List.lookup_cons,
    u1_lst, u1_tup, u1_str, fl_int, fl_bl, fl_str, uo_nx, uo_rt, uo_exc, oo_s, ixN_0, line_s, line_t, *])
section
variable {sub : Str → Str → Option Bool} (N k : Nat)
theorem lw_1 {fl' : String → String → Bool} {p p1 p2 Q a : D} {ri li m : Int} {T : List D} {W : List D} (m1 : c__law_pick.modes = [.mu, .al]) (t1 : tab "_law_pick" = some c__law_pick) (d1 : run tab fl' sub N (k + 2) "_law_pick" [p, .lst false [.int 1, .int 2, .int 3, .int 6, .int 6]] = .rt (.int m) [p1])
    (m2 : c__law_drawn_words.modes = [.mu, .al, .al, .al]) (t2 : tab "_law_drawn_words" = some c__law_drawn_words) (d2 : run tab fl' sub N (k + 2) "_law_drawn_words" [p1, .int ri, .int li, .int m] = .rt (.tup W) [p2]) (fw : isFrL W = true) :
    evS (FFn tab fl' sub N (k + 2)) sub N (.asg (.nm 6) (.call "_law_drawn_words" [(.var 1), (.sub (.var 3) (.lit (.int (0)))), (.sub (.var 3) (.lit (.int (1)))), (.call "_law_pick" [(.var 1), (.lst [(.lit (.int (1))), (.lit (.int (2))), (.lit (.int (3))), (.lit (.int (6))), (.lit (.int (6)))])])])) [.un, .ow p, .un, .fz (.tup [.int ri, .int li, .tup T]), .ow Q, .fz a, .un, .un, .un] =
      .nx [.un, .ow p2, .un, .fz (.tup [.int ri, .int li, .tup T]), .ow Q, .fz a, .fz (.tup W), .un, .un] := by
  have i0 : ixN 3 0 = some 0 := rfl
  have i1 : ixN 3 1 = some 1 := rfl
  trivial
def lwB : Rw.St := (.ifs (.cmp .eq (.call "_law_draw" [(.var 1), (.lit (.int (20)))]) (.lit (.int (0)))) [(.asg (.nm 6) (.call "_law_drawn_words" [(.var 1), (.sub (.var 3) (.lit (.int (0)))), (.sub (.var 3) (.lit (.int (1)))), (.lit (.int (60)))]))] [])
theorem lw_2a {fl' : String → String → Bool} {p p1 p2 Q a : D} {ri li n : Int} {T : List D} {V W : List D} (hn : n = 0) (m1 : c__law_draw.modes = [.mu, .al]) (t1 : tab "_law_draw" = some c__law_draw) (d1 : run tab fl' sub N (k + 2) "_law_draw" [p, .int 20] = .rt (.int n) [p1])
    (m2 : c__law_drawn_words.modes = [.mu, .al, .al, .al]) (t2 : tab "_law_drawn_words" = some c__law_drawn_words) (d2 : run tab fl' sub N (k + 2) "_law_drawn_words" [p1, .int ri, .int li, .int 60] = .rt (.tup W) [p2]) (fw : isFrL W = true) :
    evS (FFn tab fl' sub N (k + 2)) sub N lwB [.un, .ow p, .un, .fz (.tup [.int ri, .int li, .tup T]), .ow Q, .fz a, .fz (.tup V), .un, .un] =
      .nx [.un, .ow p2, .un, .fz (.tup [.int ri, .int li, .tup T]), .ow Q, .fz a, .fz (.tup W), .un, .un] := by
  have i0 : ixN 3 0 = some 0 := rfl
  have i1 : ixN 3 1 = some 1 := rfl
  unfold lwB
  subst hn
  trivial
theorem lw_2b {fl' : String → String → Bool} {p p1 Q a S : D} {n : Int} {V : List D} (hn : ¬ n = 0) (m1 : c__law_draw.modes = [.mu, .al]) (t1 : tab "_law_draw" = some c__law_draw) (d1 : run tab fl' sub N (k + 2) "_law_draw" [p, .int 20] = .rt (.int n) [p1]) :
    evS (FFn tab fl' sub N (k + 2)) sub N lwB [.un, .ow p, .un, .fz S, .ow Q, .fz a, .fz (.tup V), .un, .un] = .nx [.un, .ow p1, .un, .fz S, .ow Q, .fz a, .fz (.tup V), .un, .un] := by
  unfold lwB
  trivial
def lwC (C : Ex) : Rw.St := (.ifs (.cmp .eq (.call "_law_draw" [(.var 1), (.lit (.int (5)))]) (.lit (.int (0)))) [(.asg (.nm 6) (.bi "tuple" [C]))] [])
theorem lw_3a {fl' : String → String → Bool} {p p1 Q a S : D} {n : Int} {V W : List D} {C : Ex} (hn : n = 0) (m1 : c__law_draw.modes = [.mu, .al]) (t1 : tab "_law_draw" = some c__law_draw) (d1 : run tab fl' sub N (k + 2) "_law_draw" [p, .int 5] = .rt (.int n) [p1])
    (g : evE (FFn tab fl' sub N (k + 2)) C [.un, .ow p1, .un, .fz S, .ow Q, .fz a, .fz (.tup V), .un, .un] = .ok (.ow (.lst true W)) [.un, .ow p1, .un, .fz S, .ow Q, .fz a, .fz (.tup V), .un, .un]) (fw : isFrL W = true) (bt : biV "tuple" [.lst true W] = some (.tup W)) :
    evS (FFn tab fl' sub N (k + 2)) sub N (lwC C) [.un, .ow p, .un, .fz S, .ow Q, .fz a, .fz (.tup V), .un, .un] = .nx [.un, .ow p1, .un, .fz S, .ow Q, .fz a, .fz (.tup W), .un, .un] := by
  unfold lwC
  subst hn
  trivial
theorem lw_3b {fl' : String → String → Bool} {p p1 Q a S : D} {n : Int} {V : List D} {C : Ex} (hn : ¬ n = 0) (m1 : c__law_draw.modes = [.mu, .al]) (t1 : tab "_law_draw" = some c__law_draw) (d1 : run tab fl' sub N (k + 2) "_law_draw" [p, .int 5] = .rt (.int n) [p1]) :
    evS (FFn tab fl' sub N (k + 2)) sub N (lwC C) [.un, .ow p, .un, .fz S, .ow Q, .fz a, .fz (.tup V), .un, .un] = .nx [.un, .ow p1, .un, .fz S, .ow Q, .fz a, .fz (.tup V), .un, .un] := by
  unfold lwC
  trivial
theorem lw_4 {fl' : String → String → Bool} {P Q Q2 a S W : D} {b : Bool} (m1 : c_answer.modes = [.mu, .al]) (t1 : tab "answer" = some c_answer) (d1 : run tab fl' sub N (k + 2) "answer" [Q, W] = .rt (.bl b) [Q2]) :
    evS (FFn tab fl' sub N (k + 2)) sub N (.asg (.nm 8) (.call "answer" [(.var 4), (.var 6)])) [.un, .ow P, .un, .fz S, .ow Q, .fz a, .fz W, .un, .un] = .nx [.un, .ow P, .un, .fz S, .ow Q2, .fz a, .fz W, .un, .fz (.bl b)] := by
  trivial
theorem lw_5 {fl' : String → String → Bool} {P Q Q2 a S W : D} {b : Bool} (m1 : c_answer.modes = [.mu, .al]) (t1 : tab "answer" = some c_answer) (d1 : run tab fl' sub N (k + 2) "answer" [Q, W] = .rt (.bl b) [Q2]) (m2 : c__law_answer.modes = [.al, .al]) (t2 : tab "_law_answer" = some c__law_answer)
    (d2 : run tab fl' sub N (k + 2) "_law_answer" [S, W] = .rt (.bl b) []) (hb : isInst (.bl b) "bool" = some true) :
    evS (FFn tab fl' sub N (k + 2)) sub N (.ifs (.bor (.bnot (.isi (.var 8) "bool")) (.bor (.cmp .ne (.var 8) (.call "_law_answer" [(.var 3), (.var 6)])) (.cmp .ne (.call "answer" [(.var 4), (.var 6)]) (.var 8)))) [(.ret (.lit (.bl false)))] []) [.un, .ow P, .un, .fz S, .ow Q, .fz a, .fz W, .un, .fz (.bl b)] = .nx [.un, .ow P, .un, .fz S, .ow Q2, .fz a, .fz W, .un, .fz (.bl b)] := by
  trivial
/-- a comprehension that gives one thing -/
theorem lc_const {F : Fn} {t : Tg} {bz : Bool} {e : Ex} {own : List Nat} {ρ0 : Rw.Env} {d : D} (xs : List D) (hl : xs.length ≤ line) (hw : wipeE ρ0 own = ρ0) (h : ∀ x ∈ xs, ∃ ρ', lcB F t bz none e x ρ0 = .ok (some d) ρ' ∧ wipeE ρ' own = ρ0) :
    ∃ ρ', lcL (lcB F t bz none e) own xs [] ρ0 = .ok (List.replicate xs.length d) ρ' ∧ wipeE ρ' own = ρ0 := by
  obtain ⟨ρ', e1, e2⟩ := lcL_pure (f := lcB F t bz none e) (own := own) (ρ0 := ρ0) (fun _ => some d) xs [] ρ0 hw (by simpa using hl) h
  refine ⟨ρ', ?_, e2⟩
  rw [e1]
  congr 1
  rw [List.nil_append]
  clear h e1 hl
  induction xs with
  | nil => rfl
  | cons x xs ih => rw [List.filterMap_cons, ih]; rfl
theorem lw_item {F : Fn} {A B C E G H : Slot} {w : D} {V : List D} {i : Int} (fr : isFrL V = true) (hv : V[0]? = some w) (hl : ixN V.length 0 = some 0) (fw : isFr w = true) : lcB F (.nm 7) true none (.sub (.var 6) (.lit (.int (0)))) (.int i) [A, B, C, E, G, H, .fz (.tup V), .un, .un] = .ok (some w) [A, B, C, E, G, H, .fz (.tup V), .fz (.int i), .un] := by
  trivial
theorem lw_same {F : Fn} {r : Nat} (hr : r ≤ 4) {ri : D} {A B C G H : Slot} {li T : D} {w : Sg} {V : List Sg} (hv : V[0]? = some w) : evE F C_law_0 [A, B, C, .fz (.tup [.int r, li, T]), G, H, .fz (wsD V), .un, .un] = .ok (.ow (.lst true ((List.replicate r w).map .str))) [A, B, C, .fz (.tup [.int r, li, T]), G, H, .fz (wsD V), .un, .un] := by
  have hlen : (rangeD 0 (r : Int)).length = r := by simp [rangeD]
  have hV : 0 < V.length := by
    rcases Nat.lt_or_ge 0 V.length with z | z
    · exact z
    · rw [List.getElem?_eq_none z] at hv; cases hv
  obtain ⟨ρ', e1, e2⟩ := lc_const (F := F) (t := .nm 7) (bz := true) (e := .sub (.var 6) (.lit (.int (0)))) (own := [7]) (ρ0 := [A, B, C, .fz (.tup [.int r, li, T]), G, H, .fz (wsD V), .un, .un]) (d := .str w) (rangeD 0 (r : Int)) (by rw [hlen]; exact Nat.le_trans hr (by decide)) rfl (fun x hx => by
    obtain ⟨i, rfl, _, _⟩ := mem_rangeD hx
    exact ⟨_, lw_item (V := V.map .str) (frL_strs V) (by rw [List.getElem?_map, hv]; rfl) (by rw [List.length_map]; have := ixN_nat (n := V.length) (j := 0); rw [show ((0 : Nat) : Int) = 0 from rfl, if_pos hV] at this; exact this) rfl, rfl⟩)
  rw [hlen] at e1
  rw [C_law_0, List.map_replicate]
  refine lc_run (i_rng (n := (r : Int)) ?_ (rOk_small (by omega) (by omega))) e1 (congrArg some e2)
  have i0 : ixN 3 0 = some 0 := rfl
  clear e1 e2 hlen hv hV hr
  generalize (r : Int) = q
  trivial
theorem WsOk.same {r l : Nat} {ws : List Sg} (h : WsOk r l ws) {w : Sg} (hw : w ∈ ws) : WsOk r l (List.replicate r w) := ⟨List.length_replicate .., fun v hv => by rw [(List.mem_replicate.mp hv).2]; exact h.b w hw⟩
def lwE (r l : Nat) (t : Tbl) (s : D × List (D × D)) : Rw.Env := [.un, .ow s.1, .un, .fz (spD r l t), .ow (qD r l (tabD t) s.2), .un, .un, .un, .un]
theorem lw_turn {r l : Nat} {t : Tbl} (h : TblOk r l t) {s : D × List (D × D)} (hs : PlOk s.1 ∧ KpOk r l s.2) (i : Int) :
    ∃ s', frB (FFn tab fl sub N (k + 7)) sub N [true, false, true, false, false, true, true, true, true] (.nm 5) true B_law_0 (.int i) (lwE r l t s) = .nx (lwE r l t s') ∧ PlOk s'.1 ∧ KpOk r l s'.2 := by
  obtain ⟨r1, r2, l1, l2⟩ := rows_dom h.d
  obtain ⟨p, kp⟩ := s
  obtain ⟨hp, hk⟩ := hs
  obtain ⟨x, p1, e1, hx, hp1⟩ := r_pick (sub := sub) N (k + 5) hp (o := false) (xs := [.int 1, .int 2, .int 3, .int 6, .int 6]) (by simp) (by simp)
  obtain ⟨m, rfl, hm⟩ : ∃ m : Int, x = .int m ∧ 0 ≤ m ∧ m ≤ 60 := by
    simp at hx
    rcases hx with h | h | h | h
    · exact ⟨_, h, by omega, by omega⟩
    · exact ⟨_, h, by omega, by omega⟩
    · exact ⟨_, h, by omega, by omega⟩
    · exact ⟨_, h, by omega, by omega⟩
  obtain ⟨ws, p2, d2, hp2, hw⟩ := r_drawn_words (sub := sub) N (k + 5) h.d hp1 hm
  have s1 := lw_1 (sub := sub) N (k + 5) (Q := qD r l (tabD t) kp) (a := .int i) (T := t.map stD) rfl t__law_pick e1 rfl t__law_drawn_words d2 (frL_strs ws)
  obtain ⟨n, p3, d3, n0, n1, hp3⟩ := r_draw (sub := sub) N (k + 6) hp2 (m := 20) (by omega) (by omega)
  obtain ⟨ws2, p4, hp4, hw2, s2⟩ : ∃ (ws2 : List Sg) (p4 : D), PlOk p4 ∧ WsOk r l ws2 ∧ evS (FFn tab fl sub N (k + 7)) sub N lwB [.un, .ow p2, .un, .fz (spD r l t), .ow (qD r l (tabD t) kp), .fz (.int i), .fz (wsD ws), .un, .un] = .nx [.un, .ow p4, .un, .fz (spD r l t), .ow (qD r l (tabD t) kp), .fz (.int i), .fz (wsD ws2), .un, .un] := by
    by_cases hn : n = 0
    · obtain ⟨ws2, p4, d4, hp4, hw2⟩ := r_drawn_words (sub := sub) N (k + 5) h.d hp3 (m := 60) (by omega)
      exact ⟨ws2, p4, hp4, hw2, lw_2a (sub := sub) N (k + 5) hn rfl t__law_draw d3 rfl t__law_drawn_words d4 (frL_strs ws2)⟩
    · exact ⟨ws, p3, hp3, hw, lw_2b (sub := sub) N (k + 5) hn rfl t__law_draw d3⟩
  obtain ⟨n', p5, d5, _, _, hp5⟩ := r_draw (sub := sub) N (k + 6) hp4 (m := 5) (by omega) (by omega)
  obtain ⟨ws3, hw3, s3⟩ : ∃ (ws3 : List Sg), WsOk r l ws3 ∧ evS (FFn tab fl sub N (k + 7)) sub N (lwC C_law_0) [.un, .ow p4, .un, .fz (spD r l t), .ow (qD r l (tabD t) kp), .fz (.int i), .fz (wsD ws2), .un, .un] = .nx [.un, .ow p5, .un, .fz (spD r l t), .ow (qD r l (tabD t) kp), .fz (.int i), .fz (wsD ws3), .un, .un] := by
    by_cases hn : n' = 0
    · obtain ⟨w, hw0⟩ : ∃ w, ws2[0]? = some w := ⟨ws2[0]'(by have := hw2.n; omega), List.getElem?_eq_getElem _⟩
      exact ⟨List.replicate r w, hw2.same (List.mem_of_getElem? hw0), lw_3a (sub := sub) N (k + 5) hn rfl t__law_draw d5 (lw_same (ri := .non) r2 hw0) (frL_strs _) (bt_ints true _)⟩
    · exact ⟨ws2, hw2, lw_3b (sub := sub) N (k + 5) hn rfl t__law_draw d5⟩
  obtain ⟨k1, hk1, a1⟩ := r_answer (sub := sub) N k h hw3 hk
  have s4 := lw_4 (sub := sub) N (k + 5) (P := p5) (a := .int i) (S := spD r l t) rfl t_answer a1
  obtain ⟨k2, hk2, a2⟩ := r_answer (sub := sub) N k h hw3 hk1
  have a3 := r_law_answer (sub := sub) N (k + 5) h hw3
  have s5 := lw_5 (sub := sub) N (k + 5) (P := p5) (a := .int i) rfl t_answer a2 rfl t__law_answer a3 (Rw.ii_bool (d := .bl _) rfl)
  refine ⟨(p5, k2), ?_, hp5, hk2⟩
  have := fr_turn (sub := sub) N (F := FFn tab fl sub N (k + 7)) (ks := [true, false, true, false, false, true, true, true, true]) (t := .nm 5) (bz := true) (b := B_law_0) (x := .int i) (ρ := lwE r l t (p, kp)) (ρ1 := [.un, .ow p, .un, .fz (spD r l t), .ow (qD r l (tabD t) kp), .fz (.int i), .un, .un, .un]) rfl ((ss_nx N s1).trans ((ss_nx N s2).trans ((ss_nx N s3).trans ((ss_nx N s4).trans ((ss_nx N s5).trans (by rw [evSs]))))))
  rw [this]
  rfl
/-! ### a turn of the whole -/
theorem lo_1 {fl' : String → String → Bool} {p p1 : D} {i : D} {S : List D} (m1 : c__law_spec.modes = [.mu, .al]) (t1 : tab "_law_spec" = some c__law_spec) (fs : isFrL S = true) (d1 : run tab fl' sub N (k + 4) "_law_spec" [p, .int 4] = .rt (.tup S) [p1]) :
    evS (FFn tab fl' sub N (k + 4)) sub N (.asg (.nm 3) (.call "_law_spec" [(.var 1), (.lit (.int (4)))])) [.un, .ow p, .fz i, .un, .un, .un, .un, .un, .un] = .nx [.un, .ow p1, .fz i, .fz (.tup S), .un, .un, .un, .un, .un] := by
  trivial
theorem lo_2 {fl' : String → String → Bool} {p S i : D} {c : String} {fs : List (String × D)} (m1 : c__law_question.modes = [.al]) (t1 : tab "_law_question" = some c__law_question) (d1 : run tab fl' sub N (k + 5) "_law_question" [S] = .rt (.obj true c fs) []) :
    evS (FFn tab fl' sub N (k + 5)) sub N (.asg (.nm 4) (.call "_law_question" [(.var 3)])) [.un, .ow p, .fz i, .fz S, .un, .un, .un, .un, .un] = .nx [.un, .ow p, .fz i, .fz S, .ow (.obj true c fs), .un, .un, .un, .un] := by
  trivial
theorem lo_3 {fl' : String → String → Bool} {p i Q Q2 : D} {ri li : Int} {T R : List D} {b : Bool} {W : List D} (m1 : c_answer.modes = [.mu, .al]) (t1 : tab "answer" = some c_answer) (bm : bop .Mult (.tup [.str []]) (.int ri) = some (.tup W)) (fw : isFrL W = true) (d1 : run tab fl' sub N (k + 5) "answer" [Q, .tup W] = .rt (.bl b) [Q2])
    (ft : isFrL T = true) (i1 : ixN T.length 0 = some 0) (i2 : T[0]? = some (.tup [.bl b, .tup R])) :
    evS (FFn tab fl' sub N (k + 5)) sub N (.ifs (.cmp .ne (.call "answer" [(.var 4), (.bop .Mult (.tup [(.lit (.str []))]) (.sub (.var 3) (.lit (.int (0)))))]) (.sub (.sub (.sub (.var 3) (.lit (.int (2)))) (.lit (.int (0)))) (.lit (.int (0))))) [(.ret (.lit (.bl false)))] []) [.un, .ow p, .fz i, .fz (.tup [.int ri, .int li, .tup T]), .ow Q, .un, .un, .un, .un] =
      .nx [.un, .ow p, .fz i, .fz (.tup [.int ri, .int li, .tup T]), .ow Q2, .un, .un, .un, .un] := by
  have j0 : ixN 3 0 = some 0 := rfl
  have j2 : ixN 3 2 = some 2 := rfl
  have j3 : ixN 2 0 = some 0 := rfl
  trivial
theorem empties {r l : Nat} {t : Tbl} (d : Dom r l) : WsOk r l (List.replicate r []) ∧ ansr l t (List.replicate r []) = flag t 0 ∧ bop .Mult (.tup [.str []]) (.int (r : Int)) = some (wsD (List.replicate r [])) := by
  rcases d with ⟨rfl, rfl⟩ | ⟨rfl, rfl⟩ | ⟨rfl, rfl⟩
  · exact ⟨⟨rfl, fun w hw => by rw [(List.mem_replicate.mp hw).2]; exact ⟨by simp, fun _ z => nomatch z⟩⟩, rfl, rfl⟩
  · exact ⟨⟨rfl, fun w hw => by rw [(List.mem_replicate.mp hw).2]; exact ⟨by simp, fun _ z => nomatch z⟩⟩, rfl, rfl⟩
  · exact ⟨⟨rfl, fun w hw => by rw [(List.mem_replicate.mp hw).2]; exact ⟨by simp, fun _ z => nomatch z⟩⟩, rfl, rfl⟩
def loE (p : D) : Rw.Env := [.un, .ow p, .un, .un, .un, .un, .un, .un, .un]
theorem frL_sp (r l : Nat) (t : Tbl) : isFrL [.int r, .int l, tabD t] = true := by
  show (true && (true && (isFrL (t.map stD) && true))) = true
  rw [frL_st] <;> rfl
theorem lo_turn {p : D} (hp : PlOk p) (i : Int) : ∃ p', frB (FFn tab fl sub N (k + 7)) sub N [true, false, true, true, true, true, true, true, true] (.nm 2) true B_law_1 (.int i) (loE p) = .nx (loE p') ∧ PlOk p' := by
  obtain ⟨r, l, t, p1, d1, hp1, ht⟩ := r_spec (sub := sub) N (k + 3) hp
  have s1 := lo_1 (sub := sub) N (k + 3) (i := .int i) rfl t__law_spec (frL_sp r l t) d1
  have d2 := r_question (sub := sub) N (k + 2) ht
  have s2 := lo_2 (sub := sub) N (k + 2) (p := p1) (i := .int i) rfl t__law_question d2
  obtain ⟨w1, w2, w3⟩ := empties (t := t) ht.d
  obtain ⟨kp, hk, d3⟩ := r_answer (sub := sub) N k ht w1 (.inl rfl)
  obtain ⟨st, i2, i3⟩ := flag_at (t := t) (s := 0) ht.lo
  have i1 : ixN (t.map stD).length 0 = some 0 := by
    have := ixN_nat (n := (t.map stD).length) (j := 0)
    rw [List.length_map, show ((0 : Nat) : Int) = 0 from rfl, if_pos (show 0 < t.length from ht.lo)] at this
    rw [List.length_map]
    exact this
  have s3 := lo_3 (sub := sub) N (k + 2) (p := p1) (i := .int i) (li := (l : Int)) (T := t.map stD) (R := st.2.map .int) (b := flag t 0) rfl t_answer w3 (frL_strs _) (by rw [← w2]; exact d3) (frL_st t) i1 (by rw [← i3]; exact i2)
  obtain ⟨⟨p2, k2⟩, e4, hp2, hk2⟩ := forL_st (lwE r l t) (f := frB (FFn tab fl sub N (k + 7)) sub N [true, false, true, false, false, true, true, true, true] (.nm 5) true B_law_0) (fun s => PlOk s.1 ∧ KpOk r l s.2) (rangeD 0 10) (p1, kp) ⟨hp1, hk⟩ (fun x hx s hs => by
    obtain ⟨j, rfl, _, _⟩ := mem_rangeD hx
    exact lw_turn N k ht hs j)
  have s4 : evS (FFn tab fl sub N (k + 7)) sub N S_law_0 [.un, .ow p1, .fz (.int i), .fz (spD r l t), .ow (qD r l (tabD t) kp), .un, .un, .un, .un] = .nx (lwE r l t (p2, k2)) := by
    rw [S_law_0]
    exact (fr_run (i_rng (by rw [x_lit]) (rOk_small (by omega) (by omega))) e4).trans uo_id
  refine ⟨p2, ?_, hp2⟩
  have := fr_turn (sub := sub) N (F := FFn tab fl sub N (k + 7)) (ks := [true, false, true, true, true, true, true, true, true]) (t := .nm 2) (bz := true) (b := B_law_1) (x := .int i) (ρ := loE p) (ρ1 := [.un, .ow p, .fz (.int i), .un, .un, .un, .un, .un, .un]) rfl ((ss_nx N s1).trans ((ss_nx N s2).trans ((ss_nx N s3).trans ((ss_nx N s4).trans (by rw [evSs])))))
  rw [this]
  rfl
theorem la_0 {fl' : String → String → Bool} {p X : D} {L : List D} (hX : X = .lst true L) (m1 : c__law_pool.modes = [.al]) (t1 : tab "_law_pool" = some c__law_pool) {ns : List Int} (d1 : run tab fl' sub N (k + 7) "_law_pool" [.scr ns] = .rt X []) :
    evS (FFn tab fl' sub N (k + 7)) sub N (.asg (.nm 1) (.call "_law_pool" [(.var 0)])) [.fz (.scr ns), .un, .un, .un, .un, .un, .un, .un, .un] = .nx [.fz (.scr ns), .ow X, .un, .un, .un, .un, .un, .un, .un] := by
  subst hX
  trivial
end
theorem law_true (ns : List Int) (hn : ns.length ≤ 63) : ∃ N, run tab fl (subF fa) N 20 "law" [.scr ns] = .rt (.bl true) [] := by
  refine ⟨1000, ?_⟩
  obtain ⟨p, d0, hp⟩ := r_pool (sub := subF fa) 1000 18 ns hn
  have s0 : evS (FFn tab fl (subF fa) 1000 19) (subF fa) 1000 (.asg (.nm 1) (.call "_law_pool" [(.var 0)])) [.fz (.scr ns), .un, .un, .un, .un, .un, .un, .un, .un] = .nx [.fz (.scr ns), .ow p, .un, .un, .un, .un, .un, .un, .un] := by
    obtain ⟨gs, ss, a, b, rfl, _⟩ := hp
    exact la_0 (sub := subF fa) 1000 12 (p := .non) rfl rfl t__law_pool d0
  obtain ⟨p2, e2, hp2⟩ := forL_st loE (f := frB (FFn tab fl (subF fa) 1000 19) (subF fa) 1000 [true, false, true, true, true, true, true, true, true] (.nm 2) true B_law_1) PlOk (rangeD 0 4) p hp (fun x hx s hs => by
    obtain ⟨j, rfl, _, _⟩ := mem_rangeD hx
    exact lo_turn 1000 12 hs j)
  have s1 : evS (FFn tab fl (subF fa) 1000 19) (subF fa) 1000 S_law_1 [.fz (.scr ns), .ow p, .un, .un, .un, .un, .un, .un, .un] = .nx (loE p2) := by
    rw [S_law_1]
    exact (fr_run (i_rng (by rw [x_lit]) (rOk_small (by omega) (by omega))) e2).trans uo_id
  rw [run_u t_law]
  unfold callD
  show finish [.al] (evSs _ _ _ _ [.fz (.scr ns), .un, .un, .un, .un, .un, .un, .un, .un]) = _
  rw [show c_law.body = [(.asg (.nm 1) (.call "_law_pool" [(.var 0)])), S_law_1, (.ret (.lit (.bl true)))] from rfl, ss_nx _ s0, ss_nx _ s1]
  rfl
end Kk75

set_option Elab.async false
set_option linter.all false
set_option maxRecDepth 100000
namespace Kk75
open PySem PySem.Spec L2 Rw
def top (i : Nat) : Stmt :=
  PySem.Challenge.pw_rowwalkers_k75_whole_answers.main.body.getD i (.Pass ⟨0, 0, 0, 0⟩)
def clsB (s : Stmt) : List Stmt := match s with
  | .ClassDef _ _ _ b _ _ _ _ _ _ _ => b
  | _ => []
def mth (i j : Nat) : Stmt := (clsB (top i)).getD j (.Pass ⟨0, 0, 0, 0⟩)
def d_is_integer : He.DefD where
  at_ := ("is_integer", none)
  name := "is_integer"
  qual := "is_integer"
  params := defArgs (top 6)
  body := defBody (top 6)
  scope := defScope (top 6)
def n_is_integer : List Str := ["thing"]
def d_is_within : He.DefD where
  at_ := ("is_within", none)
  name := "is_within"
  qual := "is_within"
  params := defArgs (top 7)
  body := defBody (top 7)
  scope := defScope (top 7)
def n_is_within : List Str := ["thing", "least", "most"]
def d_is_pair : He.DefD where
  at_ := ("is_pair", none)
  name := "is_pair"
  qual := "is_pair"
  params := defArgs (top 8)
  body := defBody (top 8)
  scope := defScope (top 8)
def n_is_pair : List Str := ["thing"]
def d_is_string_of : He.DefD where
  at_ := ("is_string_of", none)
  name := "is_string_of"
  qual := "is_string_of"
  params := defArgs (top 9)
  body := defBody (top 9)
  scope := defScope (top 9)
def n_is_string_of : List Str := ["thing", "signs", "sign"]
def d_is_letters : He.DefD where
  at_ := ("is_letters", none)
  name := "is_letters"
  qual := "is_letters"
  params := defArgs (top 10)
  body := defBody (top 10)
  scope := defScope (top 10)
def n_is_letters : List Str := ["thing", "letters"]
def d_columns : He.DefD where
  at_ := ("columns", none)
  name := "columns"
  qual := "columns"
  params := defArgs (top 17)
  body := defBody (top 17)
  scope := defScope (top 17)
def n_columns : List Str := ["rows", "letters", "found", "row", "column", "sign"]
def d_readings : He.DefD where
  at_ := ("readings", none)
  name := "readings"
  qual := "readings"
  params := defArgs (top 18)
  body := defBody (top 18)
  scope := defScope (top 18)
def n_readings : List Str := ["rows", "letters"]
def d_is_standing : He.DefD where
  at_ := ("is_standing", none)
  name := "is_standing"
  qual := "is_standing"
  params := defArgs (top 19)
  body := defBody (top 19)
  scope := defScope (top 19)
def n_is_standing : List Str := ["thing", "many", "wide", "later"]
def d_numbers_of : He.DefD where
  at_ := ("numbers_of", none)
  name := "numbers_of"
  qual := "numbers_of"
  params := defArgs (top 21)
  body := defBody (top 21)
  scope := defScope (top 21)
def n_numbers_of : List Str := ["question", "listed", "number", "reading"]
def d_read : He.DefD where
  at_ := ("read", none)
  name := "read"
  qual := "read"
  params := defArgs (top 22)
  body := defBody (top 22)
  scope := defScope (top 22)
def n_read : List Str := ["question", "standing", "reading", "number"]
def d_column_at : He.DefD where
  at_ := ("column_at", none)
  name := "column_at"
  qual := "column_at"
  params := defArgs (top 23)
  body := defBody (top 23)
  scope := defScope (top 23)
def n_column_at : List Str := ["words", "place", "word"]
def d_longest : He.DefD where
  at_ := ("longest", none)
  name := "longest"
  qual := "longest"
  params := defArgs (top 24)
  body := defBody (top 24)
  scope := defScope (top 24)
def n_longest : List Str := ["words", "word"]
def d_are_words : He.DefD where
  at_ := ("are_words", none)
  name := "are_words"
  qual := "are_words"
  params := defArgs (top 25)
  body := defBody (top 25)
  scope := defScope (top 25)
def n_are_words : List Str := ["many", "letters", "thing", "word"]
def d_check_words : He.DefD where
  at_ := ("check_words", none)
  name := "check_words"
  qual := "check_words"
  params := defArgs (top 26)
  body := defBody (top 26)
  scope := defScope (top 26)
def n_check_words : List Str := ["many", "letters", "thing"]
def d_standing_with : He.DefD where
  at_ := ("standing_with", none)
  name := "standing_with"
  qual := "standing_with"
  params := defArgs (top 27)
  body := defBody (top 27)
  scope := defScope (top 27)
def n_standing_with : List Str := ["question", "words", "found", "place"]
def d_answer_to : He.DefD where
  at_ := ("answer_to", none)
  name := "answer_to"
  qual := "answer_to"
  params := defArgs (top 28)
  body := defBody (top 28)
  scope := defScope (top 28)
def n_answer_to : List Str := ["question", "words"]
def d_answer : He.DefD where
  at_ := ("answer", none)
  name := "answer"
  qual := "answer"
  params := defArgs (top 29)
  body := defBody (top 29)
  scope := defScope (top 29)
def n_answer : List Str := ["question", "words"]
def d__law_pool : He.DefD where
  at_ := ("_law_pool", none)
  name := "_law_pool"
  qual := "_law_pool"
  params := defArgs (top 31)
  body := defBody (top 31)
  scope := defScope (top 31)
def n__law_pool : List Str := ["script", "great", "cell", "small"]
def d__law_draw : He.DefD where
  at_ := ("_law_draw", none)
  name := "_law_draw"
  qual := "_law_draw"
  params := defArgs (top 32)
  body := defBody (top 32)
  scope := defScope (top 32)
def n__law_draw : List Str := ["pool", "many", "digit", "cell", "number"]
def d__law_pick : He.DefD where
  at_ := ("_law_pick", none)
  name := "_law_pick"
  qual := "_law_pick"
  params := defArgs (top 33)
  body := defBody (top 33)
  scope := defScope (top 33)
def n__law_pick : List Str := ["pool", "things"]
def d__law_columns : He.DefD where
  at_ := ("_law_columns", none)
  name := "_law_columns"
  qual := "_law_columns"
  params := defArgs (top 34)
  body := defBody (top 34)
  scope := defScope (top 34)
def n__law_columns : List Str := ["rows", "letters", "found", "row", "later", "column", "sign"]
def d__law_lead : He.DefD where
  at_ := ("_law_lead", none)
  name := "_law_lead"
  qual := "_law_lead"
  params := defArgs (top 35)
  body := defBody (top 35)
  scope := defScope (top 35)
def n__law_lead : List Str := ["spec", "standing", "column", "number", "sign"]
def d__law_column_at : He.DefD where
  at_ := ("_law_column_at", none)
  name := "_law_column_at"
  qual := "_law_column_at"
  params := defArgs (top 36)
  body := defBody (top 36)
  scope := defScope (top 36)
def n__law_column_at : List Str := ["words", "place", "word"]
def d__law_answer : He.DefD where
  at_ := ("_law_answer", none)
  name := "_law_answer"
  qual := "_law_answer"
  params := defArgs (top 37)
  body := defBody (top 37)
  scope := defScope (top 37)
def n__law_answer : List Str := ["spec", "words", "standing", "place", "word"]
def d__law_by_rows : He.DefD where
  at_ := ("_law_by_rows", none)
  name := "_law_by_rows"
  qual := "_law_by_rows"
  params := defArgs (top 38)
  body := defBody (top 38)
  scope := defScope (top 38)
def n__law_by_rows : List Str := ["pool", "rows", "letters", "counted", "row", "sign", "many", "table", "standing", "nexts", "column", "later", "at"]
def d__law_drawn_table : He.DefD where
  at_ := ("_law_drawn_table", none)
  name := "_law_drawn_table"
  qual := "_law_drawn_table"
  params := defArgs (top 39)
  body := defBody (top 39)
  scope := defScope (top 39)
def n__law_drawn_table : List Str := ["pool", "rows", "letters", "many", "plain", "wide", "table", "standing", "usual", "nexts", "column", "later"]
def d__law_first_signs : He.DefD where
  at_ := ("_law_first_signs", none)
  name := "_law_first_signs"
  qual := "_law_first_signs"
  params := defArgs (top 40)
  body := defBody (top 40)
  scope := defScope (top 40)
def n__law_first_signs : List Str := ["pool", "rows", "letters", "row", "other", "table", "nexts", "column", "at", "stays"]
def d__law_compared : He.DefD where
  at_ := ("_law_compared", none)
  name := "_law_compared"
  qual := "_law_compared"
  params := defArgs (top 41)
  body := defBody (top 41)
  scope := defScope (top 41)
def n__law_compared : List Str := ["pool", "rows", "letters", "one", "other", "by_letter", "nexts", "column", "pair", "unlike"]
def d__law_spec : He.DefD where
  at_ := ("_law_spec", none)
  name := "_law_spec"
  qual := "_law_spec"
  params := defArgs (top 42)
  body := defBody (top 42)
  scope := defScope (top 42)
def n__law_spec : List Str := ["pool", "most_rows", "rows", "letters", "kind", "table"]
def d__law_question : He.DefD where
  at_ := ("_law_question", none)
  name := "_law_question"
  qual := "_law_question"
  params := defArgs (top 43)
  body := defBody (top 43)
  scope := defScope (top 43)
def n__law_question : List Str := ["spec"]
def d__law_drawn_words : He.DefD where
  at_ := ("_law_drawn_words", none)
  name := "_law_drawn_words"
  qual := "_law_drawn_words"
  params := defArgs (top 44)
  body := defBody (top 44)
  scope := defScope (top 44)
def n__law_drawn_words : List Str := ["pool", "rows", "letters", "most", "found", "row", "place"]
def d_law : He.DefD where
  at_ := ("law", none)
  name := "law"
  qual := "law"
  params := defArgs (top 45)
  body := defBody (top 45)
  scope := defScope (top 45)
def n_law : List Str := ["script", "pool", "turn", "spec", "question", "again", "words", "row", "told"]
def d_Question___init__ : He.DefD where
  at_ := ("Question", some "__init__")
  name := "__init__"
  qual := "Question.__init__"
  params := defArgs (mth 20 0)
  body := defBody (mth 20 0)
  scope := defScope (mth 20 0)
def n_Question___init__ : List Str := ["self", "rows", "letters", "table", "wide", "item"]
def e_is_integer : Ent := ⟨d_is_integer, n_is_integer, c_is_integer⟩
def e_is_within : Ent := ⟨d_is_within, n_is_within, c_is_within⟩
def e_is_pair : Ent := ⟨d_is_pair, n_is_pair, c_is_pair⟩
def e_is_string_of : Ent := ⟨d_is_string_of, n_is_string_of, c_is_string_of⟩
def e_is_letters : Ent := ⟨d_is_letters, n_is_letters, c_is_letters⟩
def e_columns : Ent := ⟨d_columns, n_columns, c_columns⟩
def e_readings : Ent := ⟨d_readings, n_readings, c_readings⟩
def e_is_standing : Ent := ⟨d_is_standing, n_is_standing, c_is_standing⟩
def e_numbers_of : Ent := ⟨d_numbers_of, n_numbers_of, c_numbers_of⟩
def e_read : Ent := ⟨d_read, n_read, c_read⟩
def e_column_at : Ent := ⟨d_column_at, n_column_at, c_column_at⟩
def e_longest : Ent := ⟨d_longest, n_longest, c_longest⟩
def e_are_words : Ent := ⟨d_are_words, n_are_words, c_are_words⟩
def e_check_words : Ent := ⟨d_check_words, n_check_words, c_check_words⟩
def e_standing_with : Ent := ⟨d_standing_with, n_standing_with, c_standing_with⟩
def e_answer_to : Ent := ⟨d_answer_to, n_answer_to, c_answer_to⟩
def e_answer : Ent := ⟨d_answer, n_answer, c_answer⟩
def e__law_pool : Ent := ⟨d__law_pool, n__law_pool, c__law_pool⟩
def e__law_draw : Ent := ⟨d__law_draw, n__law_draw, c__law_draw⟩
def e__law_pick : Ent := ⟨d__law_pick, n__law_pick, c__law_pick⟩
def e__law_columns : Ent := ⟨d__law_columns, n__law_columns, c__law_columns⟩
def e__law_lead : Ent := ⟨d__law_lead, n__law_lead, c__law_lead⟩
def e__law_column_at : Ent := ⟨d__law_column_at, n__law_column_at, c__law_column_at⟩
def e__law_answer : Ent := ⟨d__law_answer, n__law_answer, c__law_answer⟩
def e__law_by_rows : Ent := ⟨d__law_by_rows, n__law_by_rows, c__law_by_rows⟩
def e__law_drawn_table : Ent := ⟨d__law_drawn_table, n__law_drawn_table, c__law_drawn_table⟩
def e__law_first_signs : Ent := ⟨d__law_first_signs, n__law_first_signs, c__law_first_signs⟩
def e__law_compared : Ent := ⟨d__law_compared, n__law_compared, c__law_compared⟩
def e__law_spec : Ent := ⟨d__law_spec, n__law_spec, c__law_spec⟩
def e__law_question : Ent := ⟨d__law_question, n__law_question, c__law_question⟩
def e__law_drawn_words : Ent := ⟨d__law_drawn_words, n__law_drawn_words, c__law_drawn_words⟩
def e_law : Ent := ⟨d_law, n_law, c_law⟩
def e_Question___init__ : Ent := ⟨d_Question___init__, n_Question___init__, c_Question___init__⟩
def ents : List (Str × Ent) := [
  (("is_integer" : Str), e_is_integer),
  (("is_within" : Str), e_is_within),
  (("is_pair" : Str), e_is_pair),
  (("is_string_of" : Str), e_is_string_of),
  (("is_letters" : Str), e_is_letters),
  (("columns" : Str), e_columns),
  (("readings" : Str), e_readings),
  (("is_standing" : Str), e_is_standing),
  (("numbers_of" : Str), e_numbers_of),
  (("read" : Str), e_read),
  (("column_at" : Str), e_column_at),
  (("longest" : Str), e_longest),
  (("are_words" : Str), e_are_words),
  (("check_words" : Str), e_check_words),
  (("standing_with" : Str), e_standing_with),
  (("answer_to" : Str), e_answer_to),
  (("answer" : Str), e_answer),
  (("_law_pool" : Str), e__law_pool),
  (("_law_draw" : Str), e__law_draw),
  (("_law_pick" : Str), e__law_pick),
  (("_law_columns" : Str), e__law_columns),
  (("_law_lead" : Str), e__law_lead),
  (("_law_column_at" : Str), e__law_column_at),
  (("_law_answer" : Str), e__law_answer),
  (("_law_by_rows" : Str), e__law_by_rows),
  (("_law_drawn_table" : Str), e__law_drawn_table),
  (("_law_first_signs" : Str), e__law_first_signs),
  (("_law_compared" : Str), e__law_compared),
  (("_law_spec" : Str), e__law_spec),
  (("_law_question" : Str), e__law_question),
  (("_law_drawn_words" : Str), e__law_drawn_words),
  (("law" : Str), e_law),
  (("Question.__init__" : Str), e_Question___init__)]
theorem tab_eq : (fun f => (ents.lookup f).map Ent.df) = tab := by
  funext f
  show _ = defs.lookup f
  have : defs = ents.map fun p => (p.1, p.2.df) := rfl
  rw [this, lookup_map]
theorem ok_is_integer : EntOk (ggF pg) tab e_is_integer where
  kwd := rfl
  sc := ⟨rfl, rfl, rfl, by decide +kernel, rfl, by decide +kernel, by decide +kernel⟩
  ml := rfl
  nl := rfl
  bd := by kernel_rfl
  bi := .inl ⟨rfl, fun _ _ _ _ _ _ us hl => match us, hl with
    | [_], _ => rfl⟩
theorem ok_is_within : EntOk (ggF pg) tab e_is_within where
  kwd := rfl
  sc := ⟨rfl, rfl, rfl, by decide +kernel, rfl, by decide +kernel, by decide +kernel⟩
  ml := rfl
  nl := rfl
  bd := by kernel_rfl
  bi := .inl ⟨rfl, fun _ _ _ _ _ _ us hl => match us, hl with
    | [_, _, _], _ => rfl⟩
theorem ok_is_pair : EntOk (ggF pg) tab e_is_pair where
  kwd := rfl
  sc := ⟨rfl, rfl, rfl, by decide +kernel, rfl, by decide +kernel, by decide +kernel⟩
  ml := rfl
  nl := rfl
  bd := by kernel_rfl
  bi := .inl ⟨rfl, fun _ _ _ _ _ _ us hl => match us, hl with
    | [_], _ => rfl⟩
theorem ok_is_string_of : EntOk (ggF pg) tab e_is_string_of where
  kwd := rfl
  sc := ⟨rfl, rfl, rfl, by decide +kernel, rfl, by decide +kernel, by decide +kernel⟩
  ml := rfl
  nl := rfl
  bd := by kernel_rfl
  bi := .inl ⟨rfl, fun _ _ _ _ _ _ us hl => match us, hl with
    | [_, _], _ => rfl⟩
theorem ok_is_letters : EntOk (ggF pg) tab e_is_letters where
  kwd := rfl
  sc := ⟨rfl, rfl, rfl, by decide +kernel, rfl, by decide +kernel, by decide +kernel⟩
  ml := rfl
  nl := rfl
  bd := by kernel_rfl
  bi := .inl ⟨rfl, fun _ _ _ _ _ _ us hl => match us, hl with
    | [_, _], _ => rfl⟩
theorem ok_columns : EntOk (ggF pg) tab e_columns where
  kwd := rfl
  sc := ⟨rfl, rfl, rfl, by decide +kernel, rfl, by decide +kernel, by decide +kernel⟩
  ml := rfl
  nl := rfl
  bd := by kernel_rfl
  bi := .inl ⟨rfl, fun _ _ _ _ _ _ us hl => match us, hl with
    | [_, _], _ => rfl⟩
theorem ok_readings : EntOk (ggF pg) tab e_readings where
  kwd := rfl
  sc := ⟨rfl, rfl, rfl, by decide +kernel, rfl, by decide +kernel, by decide +kernel⟩
  ml := rfl
  nl := rfl
  bd := by kernel_rfl
  bi := .inl ⟨rfl, fun _ _ _ _ _ _ us hl => match us, hl with
    | [_, _], _ => rfl⟩
theorem ok_is_standing : EntOk (ggF pg) tab e_is_standing where
  kwd := rfl
  sc := ⟨rfl, rfl, rfl, by decide +kernel, rfl, by decide +kernel, by decide +kernel⟩
  ml := rfl
  nl := rfl
  bd := by kernel_rfl
  bi := .inl ⟨rfl, fun _ _ _ _ _ _ us hl => match us, hl with
    | [_, _, _], _ => rfl⟩
theorem ok_numbers_of : EntOk (ggF pg) tab e_numbers_of where
  kwd := rfl
  sc := ⟨rfl, rfl, rfl, by decide +kernel, rfl, by decide +kernel, by decide +kernel⟩
  ml := rfl
  nl := rfl
  bd := by kernel_rfl
  bi := .inl ⟨rfl, fun _ _ _ _ _ _ us hl => match us, hl with
    | [_], _ => rfl⟩
theorem ok_read : EntOk (ggF pg) tab e_read where
  kwd := rfl
  sc := ⟨rfl, rfl, rfl, by decide +kernel, rfl, by decide +kernel, by decide +kernel⟩
  ml := rfl
  nl := rfl
  bd := by kernel_rfl
  bi := .inl ⟨rfl, fun _ _ _ _ _ _ us hl => match us, hl with
    | [_, _, _], _ => rfl⟩
theorem ok_column_at : EntOk (ggF pg) tab e_column_at where
  kwd := rfl
  sc := ⟨rfl, rfl, rfl, by decide +kernel, rfl, by decide +kernel, by decide +kernel⟩
  ml := rfl
  nl := rfl
  bd := by kernel_rfl
  bi := .inl ⟨rfl, fun _ _ _ _ _ _ us hl => match us, hl with
    | [_, _], _ => rfl⟩
theorem ok_longest : EntOk (ggF pg) tab e_longest where
  kwd := rfl
  sc := ⟨rfl, rfl, rfl, by decide +kernel, rfl, by decide +kernel, by decide +kernel⟩
  ml := rfl
  nl := rfl
  bd := by kernel_rfl
  bi := .inl ⟨rfl, fun _ _ _ _ _ _ us hl => match us, hl with
    | [_], _ => rfl⟩
theorem ok_are_words : EntOk (ggF pg) tab e_are_words where
  kwd := rfl
  sc := ⟨rfl, rfl, rfl, by decide +kernel, rfl, by decide +kernel, by decide +kernel⟩
  ml := rfl
  nl := rfl
  bd := by kernel_rfl
  bi := .inl ⟨rfl, fun _ _ _ _ _ _ us hl => match us, hl with
    | [_, _, _], _ => rfl⟩
theorem ok_check_words : EntOk (ggF pg) tab e_check_words where
  kwd := rfl
  sc := ⟨rfl, rfl, rfl, by decide +kernel, rfl, by decide +kernel, by decide +kernel⟩
  ml := rfl
  nl := rfl
  bd := by kernel_rfl
  bi := .inl ⟨rfl, fun _ _ _ _ _ _ us hl => match us, hl with
    | [_, _, _], _ => rfl⟩
theorem ok_standing_with : EntOk (ggF pg) tab e_standing_with where
  kwd := rfl
  sc := ⟨rfl, rfl, rfl, by decide +kernel, rfl, by decide +kernel, by decide +kernel⟩
  ml := rfl
  nl := rfl
  bd := by kernel_rfl
  bi := .inl ⟨rfl, fun _ _ _ _ _ _ us hl => match us, hl with
    | [_, _], _ => rfl⟩
theorem ok_answer_to : EntOk (ggF pg) tab e_answer_to where
  kwd := rfl
  sc := ⟨rfl, rfl, rfl, by decide +kernel, rfl, by decide +kernel, by decide +kernel⟩
  ml := rfl
  nl := rfl
  bd := by kernel_rfl
  bi := .inl ⟨rfl, fun _ _ _ _ _ _ us hl => match us, hl with
    | [_, _], _ => rfl⟩
theorem ok_answer : EntOk (ggF pg) tab e_answer where
  kwd := rfl
  sc := ⟨rfl, rfl, rfl, by decide +kernel, rfl, by decide +kernel, by decide +kernel⟩
  ml := rfl
  nl := rfl
  bd := by kernel_rfl
  bi := .inl ⟨rfl, fun _ _ _ _ _ _ us hl => match us, hl with
    | [_, _], _ => rfl⟩
theorem ok__law_pool : EntOk (ggF pg) tab e__law_pool where
  kwd := rfl
  sc := ⟨rfl, rfl, rfl, by decide +kernel, rfl, by decide +kernel, by decide +kernel⟩
  ml := rfl
  nl := rfl
  bd := by kernel_rfl
  bi := .inl ⟨rfl, fun _ _ _ _ _ _ us hl => match us, hl with
    | [_], _ => rfl⟩
theorem ok__law_draw : EntOk (ggF pg) tab e__law_draw where
  kwd := rfl
  sc := ⟨rfl, rfl, rfl, by decide +kernel, rfl, by decide +kernel, by decide +kernel⟩
  ml := rfl
  nl := rfl
  bd := by kernel_rfl
  bi := .inl ⟨rfl, fun _ _ _ _ _ _ us hl => match us, hl with
    | [_, _], _ => rfl⟩
theorem ok__law_pick : EntOk (ggF pg) tab e__law_pick where
  kwd := rfl
  sc := ⟨rfl, rfl, rfl, by decide +kernel, rfl, by decide +kernel, by decide +kernel⟩
  ml := rfl
  nl := rfl
  bd := by kernel_rfl
  bi := .inl ⟨rfl, fun _ _ _ _ _ _ us hl => match us, hl with
    | [_, _], _ => rfl⟩
theorem ok__law_columns : EntOk (ggF pg) tab e__law_columns where
  kwd := rfl
  sc := ⟨rfl, rfl, rfl, by decide +kernel, rfl, by decide +kernel, by decide +kernel⟩
  ml := rfl
  nl := rfl
  bd := by kernel_rfl
  bi := .inl ⟨rfl, fun _ _ _ _ _ _ us hl => match us, hl with
    | [_, _], _ => rfl⟩
theorem ok__law_lead : EntOk (ggF pg) tab e__law_lead where
  kwd := rfl
  sc := ⟨rfl, rfl, rfl, by decide +kernel, rfl, by decide +kernel, by decide +kernel⟩
  ml := rfl
  nl := rfl
  bd := by kernel_rfl
  bi := .inl ⟨rfl, fun _ _ _ _ _ _ us hl => match us, hl with
    | [_, _, _], _ => rfl⟩
theorem ok__law_column_at : EntOk (ggF pg) tab e__law_column_at where
  kwd := rfl
  sc := ⟨rfl, rfl, rfl, by decide +kernel, rfl, by decide +kernel, by decide +kernel⟩
  ml := rfl
  nl := rfl
  bd := by kernel_rfl
  bi := .inl ⟨rfl, fun _ _ _ _ _ _ us hl => match us, hl with
    | [_, _], _ => rfl⟩
theorem ok__law_answer : EntOk (ggF pg) tab e__law_answer where
  kwd := rfl
  sc := ⟨rfl, rfl, rfl, by decide +kernel, rfl, by decide +kernel, by decide +kernel⟩
  ml := rfl
  nl := rfl
  bd := by kernel_rfl
  bi := .inl ⟨rfl, fun _ _ _ _ _ _ us hl => match us, hl with
    | [_, _], _ => rfl⟩
theorem ok__law_by_rows : EntOk (ggF pg) tab e__law_by_rows where
  kwd := rfl
  sc := ⟨rfl, rfl, rfl, by decide +kernel, rfl, by decide +kernel, by decide +kernel⟩
  ml := rfl
  nl := rfl
  bd := by kernel_rfl
  bi := .inl ⟨rfl, fun _ _ _ _ _ _ us hl => match us, hl with
    | [_, _, _], _ => rfl⟩
theorem ok__law_drawn_table : EntOk (ggF pg) tab e__law_drawn_table where
  kwd := rfl
  sc := ⟨rfl, rfl, rfl, by decide +kernel, rfl, by decide +kernel, by decide +kernel⟩
  ml := rfl
  nl := rfl
  bd := by kernel_rfl
  bi := .inl ⟨rfl, fun _ _ _ _ _ _ us hl => match us, hl with
    | [_, _, _, _, _], _ => rfl⟩
theorem ok__law_first_signs : EntOk (ggF pg) tab e__law_first_signs where
  kwd := rfl
  sc := ⟨rfl, rfl, rfl, by decide +kernel, rfl, by decide +kernel, by decide +kernel⟩
  ml := rfl
  nl := rfl
  bd := by kernel_rfl
  bi := .inl ⟨rfl, fun _ _ _ _ _ _ us hl => match us, hl with
    | [_, _, _], _ => rfl⟩
theorem ok__law_compared : EntOk (ggF pg) tab e__law_compared where
  kwd := rfl
  sc := ⟨rfl, rfl, rfl, by decide +kernel, rfl, by decide +kernel, by decide +kernel⟩
  ml := rfl
  nl := rfl
  bd := by kernel_rfl
  bi := .inl ⟨rfl, fun _ _ _ _ _ _ us hl => match us, hl with
    | [_, _, _], _ => rfl⟩
theorem ok__law_spec : EntOk (ggF pg) tab e__law_spec where
  kwd := rfl
  sc := ⟨rfl, rfl, rfl, by decide +kernel, rfl, by decide +kernel, by decide +kernel⟩
  ml := rfl
  nl := rfl
  bd := by kernel_rfl
  bi := .inl ⟨rfl, fun _ _ _ _ _ _ us hl => match us, hl with
    | [_, _], _ => rfl⟩
theorem ok__law_question : EntOk (ggF pg) tab e__law_question where
  kwd := rfl
  sc := ⟨rfl, rfl, rfl, by decide +kernel, rfl, by decide +kernel, by decide +kernel⟩
  ml := rfl
  nl := rfl
  bd := by kernel_rfl
  bi := .inl ⟨rfl, fun _ _ _ _ _ _ us hl => match us, hl with
    | [_], _ => rfl⟩
theorem ok__law_drawn_words : EntOk (ggF pg) tab e__law_drawn_words where
  kwd := rfl
  sc := ⟨rfl, rfl, rfl, by decide +kernel, rfl, by decide +kernel, by decide +kernel⟩
  ml := rfl
  nl := rfl
  bd := by kernel_rfl
  bi := .inl ⟨rfl, fun _ _ _ _ _ _ us hl => match us, hl with
    | [_, _, _, _], _ => rfl⟩
theorem ok_law : EntOk (ggF pg) tab e_law where
  kwd := rfl
  sc := ⟨rfl, rfl, rfl, by decide +kernel, rfl, by decide +kernel, by decide +kernel⟩
  ml := rfl
  nl := rfl
  bd := by kernel_rfl
  bi := .inl ⟨rfl, fun _ _ _ _ _ _ us hl => match us, hl with
    | [_], _ => rfl⟩
theorem ok_Question___init__ : EntOk (ggF pg) tab e_Question___init__ where
  kwd := rfl
  sc := ⟨rfl, rfl, rfl, by decide +kernel, rfl, by decide +kernel, by decide +kernel⟩
  ml := rfl
  nl := rfl
  bd := by kernel_rfl
  bi := .inl ⟨rfl, fun _ _ _ _ _ _ us hl => match us, hl with
    | [_, _, _, _], _ => rfl⟩
def Good (f : Str) (e : Ent) : Prop :=
  EntOk (ggF pg) tab e ∧ e.d ∈ ents.map (·.2.d) ∧ (hasGlo fa f = true → e.d.at_ = (f, none))
theorem all_good : ∀ p ∈ ents, Good p.1 p.2 := by
  intro p hp
  have hm : p.2.d ∈ ents.map (·.2.d) := List.mem_map_of_mem hp
  refine (fun (h : EntOk (ggF pg) tab p.2 ∧ (hasGlo fa p.1 = true → p.2.d.at_ = (p.1, none))) =>
    ⟨h.1, hm, h.2⟩) ?_
  clear hm
  revert p
  refine List.forall_mem_cons.mpr ⟨⟨ok_is_integer, fun _ => rfl⟩,
    List.forall_mem_cons.mpr ⟨⟨ok_is_within, fun _ => rfl⟩,
    List.forall_mem_cons.mpr ⟨⟨ok_is_pair, fun _ => rfl⟩,
    List.forall_mem_cons.mpr ⟨⟨ok_is_string_of, fun _ => rfl⟩,
    List.forall_mem_cons.mpr ⟨⟨ok_is_letters, fun _ => rfl⟩,
    List.forall_mem_cons.mpr ⟨⟨ok_columns, fun _ => rfl⟩,
    List.forall_mem_cons.mpr ⟨⟨ok_readings, fun _ => rfl⟩,
    List.forall_mem_cons.mpr ⟨⟨ok_is_standing, fun _ => rfl⟩,
    List.forall_mem_cons.mpr ⟨⟨ok_numbers_of, fun _ => rfl⟩,
    List.forall_mem_cons.mpr ⟨⟨ok_read, fun _ => rfl⟩,
    List.forall_mem_cons.mpr ⟨⟨ok_column_at, fun _ => rfl⟩,
    List.forall_mem_cons.mpr ⟨⟨ok_longest, fun _ => rfl⟩,
    List.forall_mem_cons.mpr ⟨⟨ok_are_words, fun _ => rfl⟩,
    List.forall_mem_cons.mpr ⟨⟨ok_check_words, fun _ => rfl⟩,
    List.forall_mem_cons.mpr ⟨⟨ok_standing_with, fun _ => rfl⟩,
    List.forall_mem_cons.mpr ⟨⟨ok_answer_to, fun _ => rfl⟩,
    List.forall_mem_cons.mpr ⟨⟨ok_answer, fun _ => rfl⟩,
    List.forall_mem_cons.mpr ⟨⟨ok__law_pool, fun _ => rfl⟩,
    List.forall_mem_cons.mpr ⟨⟨ok__law_draw, fun _ => rfl⟩,
    List.forall_mem_cons.mpr ⟨⟨ok__law_pick, fun _ => rfl⟩,
    List.forall_mem_cons.mpr ⟨⟨ok__law_columns, fun _ => rfl⟩,
    List.forall_mem_cons.mpr ⟨⟨ok__law_lead, fun _ => rfl⟩,
    List.forall_mem_cons.mpr ⟨⟨ok__law_column_at, fun _ => rfl⟩,
    List.forall_mem_cons.mpr ⟨⟨ok__law_answer, fun _ => rfl⟩,
    List.forall_mem_cons.mpr ⟨⟨ok__law_by_rows, fun _ => rfl⟩,
    List.forall_mem_cons.mpr ⟨⟨ok__law_drawn_table, fun _ => rfl⟩,
    List.forall_mem_cons.mpr ⟨⟨ok__law_first_signs, fun _ => rfl⟩,
    List.forall_mem_cons.mpr ⟨⟨ok__law_compared, fun _ => rfl⟩,
    List.forall_mem_cons.mpr ⟨⟨ok__law_spec, fun _ => rfl⟩,
    List.forall_mem_cons.mpr ⟨⟨ok__law_question, fun _ => rfl⟩,
    List.forall_mem_cons.mpr ⟨⟨ok__law_drawn_words, fun _ => rfl⟩,
    List.forall_mem_cons.mpr ⟨⟨ok_law, fun _ => rfl⟩,
    List.forall_mem_cons.mpr ⟨⟨ok_Question___init__, fun h => absurd h (by decide +kernel)⟩,
    List.forall_mem_nil _⟩⟩⟩⟩⟩⟩⟩⟩⟩⟩⟩⟩⟩⟩⟩⟩⟩⟩⟩⟩⟩⟩⟩⟩⟩⟩⟩⟩⟩⟩⟩⟩⟩
theorem ents_good : ∀ f e, ents.lookup f = some e → EntOk (ggF pg) (fun f => (ents.lookup f).map Ent.df) e ∧ e.d ∈ ents.map (·.2.d) ∧ (hasGlo pg.fa f = true → e.d.at_ = (f, none)) := by
  rw [tab_eq]
  exact fun f e h => all_good (f, e) (PySem.mem_of_lookup h)
theorem mss_ok : mssB pg ents = true := by decide +kernel
theorem kcs_ok : kcsB pg ents = true := by decide +kernel
abbrev R : PySem.W.OpenRow := PySem.W.OpenLaw.row PySem.Challenge.rw_rowwalkers_k75_whole_answers
abbrev hk : PySem.W.Hook := He.hookD 4 fa (ents.map (·.2.d))
def ob (s : PySem.W.SharedT) : He.AlD :=
  He.obsDG 4 fa (ents.map (·.2.d)) (HandSHeadRun.getT s)
theorem ob_eq (s : PySem.W.SharedT) : ob s = hk.obs s.abs :=
  He.obsDG_eq (HandSHeadRun.getT_eq s)
def zz_lo0 : List Str := ["is_integer", "is_within", "is_pair", "is_string_of", "is_letters", "columns", "readings", "is_standing", "numbers_of", "read", "column_at", "longest", "are_words", "check_words", "standing_with", "answer_to", "answer", "_law_pool", "_law_draw", "_law_pick", "_law_columns", "_law_lead", "_law_column_at", "_law_answer", "_law_by_rows", "_law_drawn_table", "_law_first_signs", "_law_compared", "_law_spec", "_law_question"]
def zz_lo1 : List Str := ["_law_drawn_words", "WalkError", "BadQuestion", "NoWords", "Question", "__name__", "LETTERS", "LEAST_ROWS", "MOST_ROWS", "MOST_LETTERS", "MOST_STANDINGS", "GONE"]
def loose : List Str := zz_lo0 ++ zz_lo1
theorem runs (w : World) :
  HandSHeadRun.RunEq R (PySem.W.view R.prog [45]) hk ob 20000 loose w := by
  intro os
  kernel_rfl
end Kk75

set_option Elab.async false
set_option linter.all false
set_option maxRecDepth 100000
set_option maxHeartbeats 0
open PySem PySem.W PySem.Calls PyProof.Rows
theorem PySem.Challenge.cw_rowwalkers_k75_whole_answers_holds : PySem.Challenge.rw_rowwalkers_k75_whole_answers.Holds := by
  w_on; o_law
  refine HandSHeadRun.head_any (r := Kk75.R) (q := view Kk75.R.prog [45]) (H := Kk75.hk) (ob := Kk75.ob) (M := 20000) (loose := Kk75.loose) (d := HandSHeadRun.topDef Kk75.R.prog 45) (kwd := []) Kk75.ob_eq
    (by kernel_rfl) (fun s => by kernel_rfl) Kk75.runs (by kernel_rfl) (by kernel_rfl) (by kernel_rfl) (by rfl) (by first | assumption | decide +kernel) (by decide +kernel) ⟨rfl, rfl, rfl, rfl, rfl, by decide +kernel⟩ ?hw ?hc
  case hw => w_witness2
  case hc =>
    refine Rw.walkX (l := PySem.Challenge.rw_rowwalkers_k75_whole_answers) (n := 63) (k := 2 * 20) (x := "script") rfl (by decide) (by kernel_rfl) ⟨rfl, by decide, by decide⟩ ?F
    intro w mg a h Y G hmg0
    have hmg : mg ("law" : PySem.Str) = some (.ref a) := by
      have e : (HandSHeadRun.topDef Kk75.R.prog 45).name = ("law" : PySem.Str) := by kernel_rfl
      rw [← e]
      exact hmg0
    exact Rw.prog_ok (p := Kk75.pg) (k := 20) (el := Kk75.e_law) Kk75.ents_good Kk75.mss_ok Kk75.kcs_ok (by kernel_rfl) (by decide +kernel) rfl (by kernel_rfl) rfl (by rw [Kk75.tab_eq]; exact Kk75.law_true) w mg a h Y G hmg
