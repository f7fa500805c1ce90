import PyProof.Rows.All
import Wide.All
import OpenK.AllK
import Wide.FinOn
import HandS.ForMost
import HandS.Exc
import HandS.Flow
import HandS.TryMany
import HandS.IsInst
import HandS.TupAny
import HandS.Style
import HandS.StrMore
import HandS.Iter
import HandS.Comp
import HandS.WordsExc
import HandS.ExcOwn
import HandS.HeadHook2
import HandS.HeadEnd
import KE.KStateDown
import HandS.Head0
import HandS.Head1
import HandS.Head2
import PySem.Challenge.RW_rowwalkers_k02_whole_least_contents
set_option Elab.async false
set_option linter.all false
/-! RwA: data as trees, the core syntax, its evaluator (value semantics; lists and dicts are owned by one variable while they may be changed). Plain Lean. -/
namespace Rw
open PySem

abbrev Sg := List Nat
/-- a written text's signs -/
def sg (s : String) : Sg := s.toList.map Char.toNat

/-- Python data; o: owned (may be changed in place, through its one owner) -/
inductive D where
  | non | bl (b : Bool) | int (i : Int) | str (x : Sg)
  | tup (xs : List D) | lst (o : Bool) (xs : List D)
  | dct (o : Bool) (kvs : List (D × D)) | obj (o : Bool) (c : Str) (fs : List (Str × D))
  /-- the script that the law is handed -/
  | scr (ns : List Int)
  deriving Inhabited

mutual
/-- nothing in it is owned -/
def isFr : D → Bool
  | .non | .bl _ | .int _ | .str _ | .scr _ => true
  | .tup xs => isFrL xs
  | .lst o xs => !o && isFrL xs
  | .dct o kvs => !o && isFrP kvs
  | .obj o _ fs => !o && isFrF fs
def isFrL : List D → Bool
  | [] => true
  | x :: t => isFr x && isFrL t
def isFrP : List (D × D) → Bool
  | [] => true
  | (k, v) :: t => isFr k && (isFr v && isFrP t)
def isFrF : List (Str × D) → Bool
  | [] => true
  | (_, v) :: t => isFr v && isFrF t
end
mutual
def freeze : D → D
  | .non => .non
  | .bl b => .bl b
  | .int i => .int i
  | .str x => .str x
  | .scr ns => .scr ns
  | .tup xs => .tup (freezeL xs)
  | .lst _ xs => .lst false (freezeL xs)
  | .dct _ kvs => .dct false (freezeP kvs)
  | .obj _ c fs => .obj false c (freezeF fs)
def freezeL : List D → List D
  | [] => []
  | x :: t => freeze x :: freezeL t
def freezeP : List (D × D) → List (D × D)
  | [] => []
  | (k, v) :: t => (freeze k, freeze v) :: freezeP t
def freezeF : List (Str × D) → List (Str × D)
  | [] => []
  | (f, v) :: t => (f, freeze v) :: freezeF t
end

/-! ### the state -/
/-- nothing; a frozen value; an owned thing; one that is only read; an argument that may be changed -/
inductive Slot where
  | un | fz (d : D) | ow (d : D) | bw (d : D) | mw (d : D)
  deriving Inhabited
abbrev Env := List Slot
/-- a step into an owned thing -/
inductive Stp where
  | ix (n : Nat) | key (k : D) | fld (f : Str)
/-- an operand: a frozen value, a new owned thing that nothing else knows, a place of an owned variable -/
inductive Opd where
  | fz (d : D) | ow (d : D) | pt (i : Nat) (p : List Stp)
structure Exc where
  cls : Str
  fs : List (Str × D)
/-- what an evaluation gives -/
inductive Rr (α : Type) where
  | ok (a : α) (ρ : Env) | exc (x : Exc) (ρ : Env) | stuck
def Rr.bind {α β : Type} (r : Rr α) (f : α → Env → Rr β) : Rr β := match r with
  | .ok a ρ => f a ρ
  | .exc x ρ => .exc x ρ
  | .stuck => .stuck
/-- no error may leave it -/
def Rr.calm {α : Type} : Rr α → Rr α
  | .exc _ _ => .stuck
  | r => r
inductive Out where
  | nx (ρ : Env) | rt (d : D) (ρ : Env) | bk (ρ : Env) | ct (ρ : Env) | exc (x : Exc) (ρ : Env) | stuck
/-- what a call gives: its value and what the arguments that it may change have become -/
inductive FRes where
  | rt (d : D) (mus : List D) | exc (x : Exc) (mus : List D) | stuck
/-- how a parameter is handed over: for good, to be read, to be changed -/
inductive Mode where
  | al | bw | mu
  deriving DecidableEq

/-! ### the core syntax -/
inductive Cop where
  | eq | ne | lt | le | gt | ge | is | isnot | isin | notin
inductive Tg where
  | nm (i : Nat) | tp (ts : List Tg)
mutual
inductive Ex where
  | var (i : Nat) | mv (i : Nat) | lit (d : D)
  | bop (op : Operator) (a b : Ex) | neg (a : Ex)
  | cmp (op : Cop) (a b : Ex) | cmp2 (op op' : Cop) (a b c : Ex)
  | band (a b : Ex) | bor (a b : Ex) | bnot (a : Ex) | ife (c a b : Ex)
  | tup (es : List Ex) | lst (es : List Ex)
  | sub (a i : Ex) | slc (a : Ex) (lo hi : Option Ex)
  | call (f : Str) (es : List Ex)
  | bi (f : Str) (es : List Ex)
  | isi (a : Ex) (t : Str)
  | mth (m : Str) (o : Ex) (es : List Ex)
  | lc (own : List Nat) (t : Tg) (it : It) (c : Option Ex) (e : Ex)
  | dct0
inductive It where
  | seq (e : Ex) | rng (a : Ex) | rng2 (a b : Ex)
end
inductive St where
  | asg (t : Tg) (e : Ex)
  | sub (a i e : Ex)
  | ret (e : Ex) | retN
  | ifs (c : Ex) (a b : List St)
  /-- ks: the names that no turn needs from an earlier one, nor what follows -/
  | whl (ks : List Bool) (c : Ex) (b : List St)
  | fr (ks : List Bool) (t : Tg) (it : It) (b : List St)
  | ex (e : Ex)
  | rse (c : Str)
  | tryx (b : List St) (hs : List (Str × Nat × D))
  | brk | cont | pass
/-- a def: its parameters' modes, the number of its names, its body -/
structure Def where
  modes : List Mode
  ns : Nat
  body : List St

/-! ### what changes nothing -/
mutual
/-- its evaluation changes no owned thing -/
def pureE : Ex → Bool
  | .var _ | .lit _ | .mv _ | .dct0 => true
  | .call .. => false
  | .lc _ _ it c e => pureI it && (pureO c && pureE e)
  | .bop _ a b | .cmp _ a b | .band a b | .bor a b | .sub a b => pureE a && pureE b
  | .neg a | .bnot a | .isi a _ => pureE a
  | .cmp2 _ _ a b c | .ife a b c => pureE a && (pureE b && pureE c)
  | .tup es | .lst es => pureEs es
  | .bi _ es => pureEs es
  | .slc a lo hi => pureE a && (pureO lo && pureO hi)
  | .mth m o es => !(m = "append" || m = "pop") && (pureE o && pureEs es)
def pureEs : List Ex → Bool
  | [] => true
  | e :: es => pureE e && pureEs es
def pureO : Option Ex → Bool
  | none => true
  | some e => pureE e
def pureI : It → Bool
  | .seq e | .rng e => pureE e
  | .rng2 a b => pureE a && pureE b
end
/-- an operand that is a place within an owned thing must not be moved by what is evaluated behind it -/
def okPt (o : Opd) (e : Ex) : Bool := match o with
  | .pt _ (_ :: _) => pureE e
  | _ => true
def okPtO (o : Opd) (e : Option Ex) : Bool := match o with
  | .pt _ (_ :: _) => pureO e
  | _ => true
def Opd.noPlB : Opd → Bool
  | .pt _ (_ :: _) => false
  | _ => true
def okPts (os : List Opd) (es : List Ex) : Bool := os.all Opd.noPlB || pureEs es

/-! ### owned things by places -/
def getAt : D → List Stp → Option D
  | d, [] => some d
  | .lst true xs, .ix n :: p => match xs[n]? with
    | some x => getAt x p
    | none => none
  | .obj true _ fs, .fld f :: p => match fs.lookup f with
    | some x => getAt x p
    | none => none
  | _, _ => none
def putF (f : Str) (v : D) : List (Str × D) → List (Str × D)
  | [] => [(f, v)]
  | (g, x) :: r => if g = f then (g, v) :: r else (g, x) :: putF f v r
def setAt : D → List Stp → D → Option D
  | _, [], e => some e
  | .lst true xs, .ix n :: p, e => match xs[n]? with
    | some x => (setAt x p e).map fun x' => .lst true (xs.set n x')
    | none => none
  | .obj true c fs, .fld f :: p, e => match fs.lookup f with
    | some x => (setAt x p e).map fun x' => .obj true c (putF f x' fs)
    | none => none
  | _, _, _ => none
def Slot.con : Slot → Option D
  | .fz d | .ow d | .bw d | .mw d => some d
  | .un => none
/-- its name can't be stored to -/
def Slot.pin : Slot → Bool
  | .bw _ | .mw _ => true
  | _ => false
def getP (ρ : Env) (i : Nat) (p : List Stp) : Option D := ((ρ[i]?).bind Slot.con).bind fun d => getAt d p
def setP (ρ : Env) (i : Nat) (p : List Stp) (e : D) : Option Env := match ρ[i]? with
  | some (.ow d) => (setAt d p e).map fun d' => ρ.set i (.ow d')
  | some (.mw d) => (setAt d p e).map fun d' => ρ.set i (.mw d')
  | _ => none
/-- an operand's value now -/
def con (ρ : Env) : Opd → Option D
  | .fz d | .ow d => some d
  | .pt i p => getP ρ i p
/-- an operand handed on for good -/
def alias_ (ρ : Env) : Opd → Option (Opd × Env)
  | .fz d => some (.fz d, ρ)
  | .ow d => some (.ow d, ρ)
  | .pt i [] => (match ρ[i]? with
      | some (.ow d) => some (.fz (freeze d), ρ.set i (.fz (freeze d)))
      | _ => none)
  | .pt i (st :: p) => (match getP ρ i (st :: p) with
      | some d => (setP ρ i (st :: p) (freeze d)).map fun ρ' => (.fz (freeze d), ρ')
      | none => none)
def Opd.val : Opd → D
  | .fz d | .ow d => d
  | .pt _ _ => .non
def Opd.isFz : Opd → Bool
  | .fz _ => true
  | _ => false
def opd (d : D) : Opd := if isFr d then .fz d else .ow d
/-- b: it is known to be frozen -/
def slotOf (b : Bool) (d : D) : Slot := if b || isFr d then .fz d else .ow d
/-- operands handed on for good, from the left: their values, whether all are frozen -/
def aliases (ρ : Env) : List Opd → Option (List D × Bool × Env)
  | [] => some ([], true, ρ)
  | o :: os => match alias_ ρ o with
    | none => none
    | some (o', ρ') => match aliases ρ' os with
      | none => none
      | some (ds, b, ρ'') => some (o'.val :: ds, (match o' with | .fz _ => b | _ => false), ρ'')
def cons_ (ρ : Env) : List Opd → Option (List D)
  | [] => some []
  | o :: os => match con ρ o, cons_ ρ os with
    | some d, some ds => some (d :: ds)
    | _, _ => none

/-! ### operations on values -/
def line : Nat := 16777216
/-- a value's truth -/
def tru : D → Option Bool
  | .non => some false
  | .bl b => some b
  | .int i => some (i != 0)
  | .str x => if x.length ≤ line then some (!x.isEmpty) else none
  | .tup xs => some (!xs.isEmpty)
  | .lst _ xs => some (!xs.isEmpty)
  | .dct _ kvs => some (!kvs.isEmpty)
  | .obj .. | .scr _ => none
mutual
/-- == may be asked: data of at most n layers, no dicts, no objects -/
def lay : Nat → D → Bool
  | _, .non | _, .bl _ | _, .int _ => true
  | _, .str x => x.all fun c => decide (c < 1114112)
  | n + 1, .tup xs => layL n xs
  | n + 1, .lst _ xs => layL n xs
  | _, _ => false
def layL : Nat → List D → Bool
  | _, [] => true
  | n, x :: t => lay n x && layL n t
end
mutual
def eqD : D → D → Bool
  | .non, .non => true
  | .bl a, .bl b => a == b
  | .bl a, .int j => (if a then 1 else 0) == j
  | .int i, .bl b => i == (if b then 1 else 0)
  | .int i, .int j => i == j
  | .str x, .str y => x == y
  | .tup xs, .tup ys => eqL xs ys
  | .lst _ xs, .lst _ ys => eqL xs ys
  | _, _ => false
def eqL : List D → List D → Bool
  | [], [] => true
  | x :: xs, y :: ys => eqD x y && eqL xs ys
  | _, _ => false
end
def flat : D → Bool
  | .non | .bl _ | .int _ | .str _ => true
  | _ => false
def eqOk (a b : D) : Bool := (flat a && flat b) || (lay 60 a && lay 60 b)
def small (i : Int) : Bool := decide (-(2 ^ 64) < i ∧ i < 2 ^ 64)
/-- a op b -/
def bop : Operator → D → D → Option D
  | .Add, .int i, .int j => some (.int (i + j))
  | .Sub, .int i, .int j => some (.int (i - j))
  | .Mult, .int i, .int j => if small i || small j then some (.int (i * j)) else none
  | .FloorDiv, .int i, .int j => if 0 < j ∧ j < 1073741824 then some (.int (i / j)) else none
  | .Mod, .int i, .int j => if 0 < j then some (.int (i % j)) else none
  | .Pow, .int i, .int j => if 0 ≤ j ∧ j ≤ 1000 ∧ small i then some (.int (i ^ j.toNat)) else none
  | .Add, .str x, .str y => if x.length + y.length ≤ line then some (.str (x ++ y)) else none
  | .Mult, .str x, .int k => if x.length * k.toNat ≤ line ∧ k < 1000000 ∧ -1000000 < k then some (.str (List.replicate k.toNat x).flatten) else none
  | .Add, .tup xs, .tup ys => if xs.length + ys.length ≤ line then some (.tup (xs ++ ys)) else none
  | .Add, .lst _ xs, .lst _ ys => if xs.length + ys.length ≤ line then some (.lst true (xs ++ ys)) else none
  | _, _, _ => none
def ixN (n : Nat) (i : Int) : Option Nat := if 0 ≤ i then (if i < n then some i.toNat else none) else if -(n : Int) ≤ i then some (i + n).toNat else none
def sIx (n d : Nat) : Option Int → Nat
  | none => d
  | some v => if v < 0 then (v + (n : Int)).toNat else min v.toNat n
def cut {α : Type} (xs : List α) (lo hi : Option Int) : List α := (xs.drop (sIx xs.length 0 lo)).take (sIx xs.length xs.length hi - sIx xs.length 0 lo)
/-- the place of a[i] within a -/
def ixStp : D → D → Option Stp
  | .lst _ xs, .int i => (ixN xs.length i).map Stp.ix
  | _, _ => none
def ixVal : D → D → Option D
  | .lst _ xs, .int i => (ixN xs.length i).bind fun j => xs[j]?
  | .tup xs, .int i => (ixN xs.length i).bind fun j => xs[j]?
  | .str x, .int i => if x.length ≤ line then ((ixN x.length i).bind fun j => x[j]?).map fun c => .str [c] else none
  | _, _ => none
def slice : D → Option Int → Option Int → Option D
  | .str x, lo, hi => if x.length ≤ line then some (.str (cut x lo hi)) else none
  | .lst _ xs, lo, hi => some (.lst true (cut xs lo hi))
  | .tup xs, lo, hi => some (.tup (cut xs lo hi))
  | .scr ns, lo, hi => some (.lst true ((cut ns lo hi).map .int))
  | _, _, _ => none
def isPre : Sg → Sg → Bool
  | [], _ => true
  | _, [] => false
  | x :: s, y :: t => x == y && isPre s t
def inL (x : D) : List D → Bool
  | [] => false
  | y :: t => eqD y x || inL x t
/-- x in y -/
def isIn : D → D → Option Bool
  | .str [c], .str z => some (decide (c ∈ z))
  | x, .lst _ xs => if flat x ∧ xs.all flat then some (inL x xs) else none
  | x, .tup xs => if flat x ∧ xs.all flat then some (inL x xs) else none
  | _, _ => none
def cmpV : Cop → D → D → Option Bool
  | .eq, a, b => if eqOk a b then some (eqD a b) else none
  | .ne, a, b => if eqOk a b then some (!eqD a b) else none
  | .lt, .int i, .int j => some (decide (i < j))
  | .le, .int i, .int j => some (decide (i ≤ j))
  | .gt, .int i, .int j => some (decide (j < i))
  | .ge, .int i, .int j => some (decide (j ≤ i))
  | .is, a, .non => some (match a with | .non => true | _ => false)
  | .isnot, a, .non => some (match a with | .non => false | _ => true)
  | .is, .bl a, .bl b => some (a == b)
  | .isnot, .bl a, .bl b => some (!(a == b))
  | .isin, a, b => isIn a b
  | .notin, a, b => (isIn a b).map (!·)
  | _, _, _ => none
/-- isinstance(x, T), T a built-in class -/
def isInst (d : D) (t : Str) : Option Bool :=
  if (match d with | .scr _ | .obj .. => true | _ => false) then none
  else if t = "int" then some (match d with | .int _ | .bl _ => true | _ => false)
  else if t = "bool" then some (match d with | .bl _ => true | _ => false)
  else if t = "str" then some (match d with | .str _ => true | _ => false)
  else if t = "tuple" then some (match d with | .tup _ => true | _ => false)
  else if t = "list" then some (match d with | .lst .. => true | _ => false)
  else if t = "dict" then some (match d with | .dct .. => true | _ => false)
  else none
def intsOf : List D → Option (List Int)
  | [] => some []
  | .int i :: t => (intsOf t).map (i :: ·)
  | _ :: _ => none
def strsOf : List D → Option (List Sg)
  | [] => some []
  | .str i :: t => (strsOf t).map (i :: ·)
  | _ :: _ => none
def blsOf : List D → Option (List Bool)
  | [] => some []
  | .bl i :: t => (blsOf t).map (i :: ·)
  | _ :: _ => none
def lenV : D → Option Int
  | .str x => if x.length ≤ line then some x.length else none
  | .tup xs => some xs.length
  | .lst _ xs => some xs.length
  | _ => none
/-- a built-in function of values -/
def biV (f : Str) (ds : List D) : Option D :=
  if f = "len" then (match ds with
    | [d] => (lenV d).map .int
    | _ => none)
  else if f = "abs" then (match ds with
    | [.int i] => some (.int (if i < 0 then -i else i))
    | _ => none)
  else if f = "int" then (match ds with
    | [.int i] => some (.int i)
    | [.bl b] => some (.int (if b then 1 else 0))
    | _ => none)
  else if f = "sum" then (match ds with
    | [.lst _ xs] => (intsOf xs).map fun ns => .int ns.sum
    | _ => none)
  else if f = "all" then (match ds with
    | [.lst _ xs] => (blsOf xs).map fun bs => .bl (bs.all id)
    | _ => none)
  else if f = "any" then (match ds with
    | [.lst _ xs] => (blsOf xs).map fun bs => .bl (bs.any id)
    | _ => none)
  else if f = "tuple" then (match ds with
    | [.lst _ xs] => some (.tup xs)
    | [.tup xs] => some (.tup xs)
    | _ => none)
  else if f = "list" then (match ds with
    | [.lst _ xs] => some (.lst true xs)
    | [.tup xs] => some (.lst true xs)
    | _ => none)
  else none
def joinS (S : Sg) : List Sg → Sg
  | [] => []
  | [p] => p
  | p :: q :: r => p ++ (S ++ joinS S (q :: r))
/-- a method that changes nothing -/
def mthV (m : Str) (d : D) (ds : List D) : Option D :=
  if m = "join" then (match d, ds with
    | .str a, [.lst _ xs] => (strsOf xs).bind fun ys => if (ys.map List.length).sum + ys.length * a.length ≤ line then some (.str (joinS a ys)) else none
    | .str a, [.tup xs] => (strsOf xs).bind fun ys => if (ys.map List.length).sum + ys.length * a.length ≤ line then some (.str (joinS a ys)) else none
    | _, _ => none)
  else none
/-- a method that changes its receiver: the result, the receiver behind it -/
def mutV (m : Str) (d : D) (ds : List D) : Option (D × D) :=
  if m = "append" then (match d, ds with
    | .lst true xs, [x] => if xs.length < line then some (.non, .lst true (xs ++ [x])) else none
    | _, _ => none)
  else if m = "pop" then (match d, ds with
    | .lst true xs, [] => (xs[xs.length - 1]?).map fun y => (y, .lst true xs.dropLast)
    | .lst true xs, [.int i] => if -(2 ^ 63) ≤ i ∧ i < 2 ^ 63 then (ixN xs.length i).bind fun k => (xs[k]?).map fun y => (y, .lst true (xs.eraseIdx k)) else none
    | _, _ => none)
  else none
def isMut (m : Str) : Bool := m = "append" || m = "pop"
/-- the receiver's type is right -/
def tyOk (m : Str) (d : D) : Bool := if isMut m then (match d with | .lst true _ => true | _ => false) else (match d with | .str _ => true | _ => false)
def items : D → Option (List D)
  | .lst _ xs => some xs
  | .tup xs => some xs
  | .str x => some (x.map fun c => .str [c])
  | _ => none
def isStr : D → Bool
  | .str _ => true
  | _ => false
def rangeD (lo hi : Int) : List D := (List.range (hi - lo).toNat).map fun (k : Nat) => .int (lo + (k : Int))
def rOk (i : Int) : Bool := decide (-(2 ^ 62) ≤ i ∧ i < 2 ^ 62)

/-! ### targets -/
mutual
def asgT : Tg → Bool → D → Env → Option Env
  | .nm i, b, d, ρ => match ρ[i]? with
    | some s => if s.pin then none else some (ρ.set i (slotOf b d))
    | none => none
  | .tp ts, b, .tup xs, ρ => asgTs ts b xs ρ
  | .tp _, _, _, _ => none
def asgTs : List Tg → Bool → List D → Env → Option Env
  | [], _, [], ρ => some ρ
  | t :: ts, b, x :: xs, ρ => match asgT t b x ρ with
    | some ρ' => asgTs ts b xs ρ'
    | none => none
  | _, _, _, _ => none
end
/-- its parts are frozen -/
def sub1 : D → Bool
  | .tup xs | .lst _ xs => isFrL xs
  | .dct _ kvs => isFrP kvs
  | .obj _ _ fs => isFrF fs
  | _ => true
/-- operands whose parts may be shared -/
def shr (o : Opd) (d : D) : Bool := o.isFz || sub1 d
def shrs : List Opd → List D → Bool
  | o :: os, d :: ds => shr o d && shrs os ds
  | _, _ => true

/-! ### calls -/
/-- what is handed over for good is let go of, from the left -/
def alPass (ρ : Env) : List Mode → List Opd → Option (List Opd × Env)
  | [], [] => some ([], ρ)
  | .al :: ms, o :: os => match alias_ ρ o with
    | some (o', ρ') => (alPass ρ' ms os).map fun (os', ρ'') => (o' :: os', ρ'')
    | none => none
  | _ :: ms, o :: os => (alPass ρ ms os).map fun (os', ρ'') => (o :: os', ρ'')
  | _, _ => none
/-- the arguments' data -/
def argD (ρ : Env) : Mode → Opd → Option D
  | _, .pt i p => getP ρ i p
  | .mu, _ => none
  | _, .fz d => some d
  | _, .ow d => some (freeze d)
def argV (ρ : Env) : List Mode → List Opd → Option (List D)
  | [], [] => some []
  | m :: ms, o :: os => match argD ρ m o, argV ρ ms os with
    | some d, some ds => some (d :: ds)
    | _, _ => none
  | _, _ => none
/-- the places of the arguments that may be changed -/
def muPl : List Mode → List Opd → List (Nat × List Stp)
  | .mu :: ms, .pt i p :: os => (i, p) :: muPl ms os
  | _ :: ms, _ :: os => muPl ms os
  | _, _ => []
def bwRoots : List Mode → List Opd → List Nat
  | .bw :: ms, .pt i _ :: os => i :: bwRoots ms os
  | _ :: ms, _ :: os => bwRoots ms os
  | _, _ => []
structure Fn where
  modes : Str → Option (List Mode)
  run : Str → List D → FRes

/-- the call, behind its arguments -/
def callR (ρ : Env) (ms : List Mode) (os : List Opd) (m : List D → FRes) : Rr Opd := match argV ρ ms os with
  | none => .stuck
  | some ds => match muPl ms os with
    | [] => (match m ds with
      | .rt d [] => .ok (opd d) ρ
      | .exc x [] => .exc x ρ
      | _ => .stuck)
    | [(i, p)] => if (bwRoots ms os).contains i then .stuck else (match m ds with
      | .rt d [e] => (match setP ρ i p e with
        | some ρ' => .ok (opd d) ρ'
        | none => .stuck)
      | .exc x [e] => (match setP ρ i p e with
        | some ρ' => .exc x ρ'
        | none => .stuck)
      | _ => .stuck)
    | _ => .stuck
def isPt : Opd → Option Nat
  | .pt i _ => some i
  | _ => none
/-- while its list is walked a variable can only be read -/
def lock (ρ : Env) : Option Nat → Env
  | none => ρ
  | some i => match ρ[i]? with
    | some (.ow d) => ρ.set i (.bw d)
    | some (.mw d) => ρ.set i (.bw d)
    | _ => ρ
def unlock (ρ₀ : Env) (k : Option Nat) (ρ : Env) : Option Env := match k with
  | none => some ρ
  | some i => match ρ₀[i]? with
    | some (.ow d) => some (ρ.set i (.ow d))
    | some (.mw d) => some (ρ.set i (.mw d))
    | _ => some ρ
def wipeE (ρ : Env) : List Nat → Env
  | [] => ρ
  | v :: vs => (wipeE ρ vs).set v .un
/-- the slots vs as they were in ρ₀ (none of them owned) -/
def backE (ρ₀ ρ : Env) : List Nat → Option Env
  | [] => some ρ
  | v :: vs => match ρ₀[v]? with
    | some .un => (backE ρ₀ ρ vs).map fun ρ' => ρ'.set v .un
    | some (.fz d) => (backE ρ₀ ρ vs).map fun ρ' => ρ'.set v (.fz d)
    | _ => none
def ofOpt {α : Type} (ρ : Env) : Option α → Rr α
  | some a => .ok a ρ
  | none => .stuck

/-- a value's truth -/
def tst (r : Rr Opd) : Rr Bool := r.bind fun x ρ => ofOpt ρ ((con ρ x).bind tru)
/-- a list comprehension's turn -/
def lcT (t : Tg) (bz : Bool) (fc : Env → Rr Bool) (fe : Env → Rr Opd) (x : D) (ρ : Env) : Rr (Option D) := match asgT t bz x ρ with
  | none => .stuck
  | some ρ' => (fc ρ').bind fun b ρ2 => if b then (fe ρ2).bind fun o ρ3 => (match alias_ ρ3 o with
    | some (o', ρ4) => .ok (some o'.val) ρ4
    | none => .stuck) else .ok none ρ2
/-- a list comprehension's turns -/
def lcL (f : D → Env → Rr (Option D)) (own : List Nat) : List D → List D → Env → Rr (List D)
  | [], acc, ρ => .ok acc ρ
  | x :: xs, acc, ρ => (f x (wipeE ρ own)).bind fun o ρ' => match o with
    | some y => if acc.length < line then lcL f own xs (acc ++ [y]) ρ' else .stuck
    | none => lcL f own xs acc ρ'

mutual
def evE (F : Fn) : Ex → Env → Rr Opd
  | .var i, ρ => match ρ[i]? with
    | some (.fz d) => .ok (.fz d) ρ
    | some (.ow _) => .ok (.pt i []) ρ
    | some (.bw _) => .ok (.pt i []) ρ
    | some (.mw _) => .ok (.pt i []) ρ
    | _ => .stuck
  | .mv i, ρ => match ρ[i]? with
    | some (.fz d) => .ok (.fz d) ρ
    | some (.ow d) => .ok (.ow d) (ρ.set i .un)
    | _ => .stuck
  | .lit d, ρ => .ok (.fz d) ρ
  | .dct0, ρ => .ok (.fz (.dct false [])) ρ
  | .bop op a b, ρ => (evE F a ρ).bind fun x ρ1 => (evE F b ρ1).bind fun y ρ2 =>
    match con ρ2 x, con ρ2 y with
    | some d, some e => if okPt x b && (shr x d && shr y e) then ofOpt ρ2 ((bop op d e).map opd) else .stuck
    | _, _ => .stuck
  | .neg a, ρ => (evE F a ρ).bind fun x ρ1 => match x with
    | .fz (.int i) => .ok (.fz (.int (-i))) ρ1
    | _ => .stuck
  | .cmp op a b, ρ => (evE F a ρ).bind fun x ρ1 => (evE F b ρ1).bind fun y ρ2 =>
    match con ρ2 x, con ρ2 y with
    | some d, some e => if okPt x b then ofOpt ρ2 ((cmpV op d e).map fun c => .fz (.bl c)) else .stuck
    | _, _ => .stuck
  | .cmp2 op op' a b c, ρ => (evE F a ρ).bind fun x ρ1 => (evE F b ρ1).bind fun y ρ2 =>
    match con ρ2 x, con ρ2 y with
    | some d, some e => if okPt x b && okPt y c then (match cmpV op d e with
      | some true => (evE F c ρ2).bind fun z ρ3 => (match con ρ3 y, con ρ3 z with
        | some e', some g => ofOpt ρ3 ((cmpV op' e' g).map fun k => .fz (.bl k))
        | _, _ => .stuck)
      | some false => .ok (.fz (.bl false)) ρ2
      | none => .stuck) else .stuck
    | _, _ => .stuck
  | .band a b, ρ => (evE F a ρ).bind fun x ρ1 => match (con ρ1 x).bind tru with
    | some true => evE F b ρ1
    | some false => .ok x ρ1
    | none => .stuck
  | .bor a b, ρ => (evE F a ρ).bind fun x ρ1 => match (con ρ1 x).bind tru with
    | some true => .ok x ρ1
    | some false => evE F b ρ1
    | none => .stuck
  | .bnot a, ρ => (evE F a ρ).bind fun x ρ1 => match (con ρ1 x).bind tru with
    | some c => .ok (.fz (.bl (!c))) ρ1
    | none => .stuck
  | .ife c a b, ρ => (tst (evE F c ρ)).bind fun t ρ1 => if t then evE F a ρ1 else evE F b ρ1
  | .tup es, ρ => (evEs F es ρ).bind fun os ρ1 => match if okPts os es then aliases ρ1 os else none with
    | some (ds, b, ρ2) => if ds.length ≤ line then .ok (if b then .fz (.tup ds) else .ow (.tup ds)) ρ2 else .stuck
    | none => .stuck
  | .lst es, ρ => (evEs F es ρ).bind fun os ρ1 => match if okPts os es then aliases ρ1 os else none with
    | some (ds, _, ρ2) => if ds.length ≤ line then .ok (.ow (.lst true ds)) ρ2 else .stuck
    | none => .stuck
  | .sub a i, ρ => (evE F a ρ).bind fun x ρ1 => (evE F i ρ1).bind fun y ρ2 =>
    match con ρ2 x, con ρ2 y with
    | some d, some k => if okPt x i then (match ixVal d k with
      | some e => (match x with
        | .fz _ => .ok (.fz e) ρ2
        | .ow _ => if isFr e then .ok (.fz e) ρ2 else .stuck
        | .pt j p => if isFr e then .ok (.fz e) ρ2 else (match ixStp d k with
          | some st => .ok (.pt j (p ++ [st])) ρ2
          | none => .stuck))
      | none => .stuck) else .stuck
    | _, _ => .stuck
  | .slc a lo hi, ρ => (evE F a ρ).bind fun x ρ1 => (evO F lo ρ1).bind fun l ρ2 => (evO F hi ρ2).bind fun h ρ3 =>
    match con ρ3 x with
    | some d => if okPtO x lo && (okPtO x hi && shr x d) then ofOpt ρ3 ((slice d l h).map opd) else .stuck
    | none => .stuck
  | .call f es, ρ => (evEs F es ρ).bind fun os ρ1 => match F.modes f with
    | none => .stuck
    | some ms => match if okPts os es then alPass ρ1 ms os else none with
      | none => .stuck
      | some (os', ρ2) => callR ρ2 ms os' (F.run f)
  | .bi f es, ρ => (evEs F es ρ).bind fun os ρ1 => match cons_ ρ1 os with
    | some ds => if okPts os es then (match biV f ds with
      | some r => if flat r || shrs os ds then .ok (opd r) ρ1 else .stuck
      | none => .stuck) else .stuck
    | none => .stuck
  | .isi a t, ρ => (evE F a ρ).bind fun x ρ1 => match con ρ1 x with
    | some d => ofOpt ρ1 ((isInst d t).map fun b => .fz (.bl b))
    | none => .stuck
  | .mth m o es, ρ => (evE F o ρ).bind fun x ρ1 => if ((con ρ1 x).map (tyOk m)).getD false then (evEs F es ρ1).bind fun os ρ2 =>
    if okPt x (.tup es) && okPts os es then (if isMut m then (match x with
      | .pt i p => (match aliases ρ2 os with
        | some (ds, _, ρ3) => (match getP ρ3 i p with
          | some d => (match mutV m d ds with
            | some (r, d') => (match setP ρ3 i p d' with
              | some ρ4 => .ok (opd r) ρ4
              | none => .stuck)
            | none => .stuck)
          | none => .stuck)
        | none => .stuck)
      | _ => .stuck)
    else (match con ρ2 x, cons_ ρ2 os with
      | some d, some ds => (match mthV m d ds with
        | some r => if flat r || (shr x d && shrs os ds) then .ok (opd r) ρ2 else .stuck
        | none => .stuck)
      | _, _ => .stuck)) else .stuck
    else .stuck
  | .lc own t it c e, ρ => (evI F it ρ).bind fun (xs, bz, k) ρ1 =>
    (lcL (lcT t bz (fun ρ => evC F c ρ) fun ρ => evE F e ρ) own xs [] (lock ρ1 k)).calm.bind fun ys ρ2 =>
    match (backE ρ1 ρ2 own).bind (unlock ρ1 k) with
    | some ρ3 => .ok (.ow (.lst true ys)) ρ3
    | none => .stuck
def evEs (F : Fn) : List Ex → Env → Rr (List Opd)
  | [], ρ => .ok [] ρ
  | e :: es, ρ => (evE F e ρ).bind fun o ρ1 => (evEs F es ρ1).bind fun os ρ2 => .ok (o :: os) ρ2
def evC (F : Fn) : Option Ex → Env → Rr Bool
  | none, ρ => .ok true ρ
  | some c, ρ => tst (evE F c ρ)
def evO (F : Fn) : Option Ex → Env → Rr (Option Int)
  | none, ρ => .ok none ρ
  | some e, ρ => (evE F e ρ).bind fun o ρ1 => match o with
    | .fz (.int i) => .ok (some i) ρ1
    | _ => .stuck
/-- what is walked, and the variable that is locked meanwhile -/
def evI (F : Fn) : It → Env → Rr (List D × Bool × Option Nat)
  | .seq e, ρ => (evE F e ρ).bind fun o ρ1 => match con ρ1 o with
    | some d => (match items d with
      | some xs => if shr o d then .ok (xs, o.isFz || isStr d, isPt o) ρ1 else .stuck
      | none => .stuck)
    | none => .stuck
  | .rng a, ρ => (evE F a ρ).bind fun o ρ1 => match o with
    | .fz (.int n) => if rOk n then .ok (rangeD 0 n, true, none) ρ1 else .stuck
    | _ => .stuck
  | .rng2 a b, ρ => (evE F a ρ).bind fun o ρ1 => (evE F b ρ1).bind fun u ρ2 => match o, u with
    | .fz (.int m), .fz (.int n) => if rOk m && rOk n then .ok (rangeD m n, true, none) ρ2 else .stuck
    | _, _ => .stuck
end

/-! ### statements -/
/-- a name that is let go of -/
def Slot.kl : Slot → Slot
  | .bw d => .bw d
  | .mw d => .mw d
  | _ => .un
def killE : List Bool → Env → Env
  | b :: ks, s :: ρ => (match b with
    | true => s.kl
    | false => s) :: killE ks ρ
  | _, ρ => ρ
/-- a turn's end -/
def Out.mp (o : Out) (ks : List Bool) : Out := match o with
  | .nx ρ => .nx (killE ks ρ)
  | .ct ρ => .ct (killE ks ρ)
  | .bk ρ => .bk (killE ks ρ)
  | o => o
def Out.then (o : Out) (f : Env → Out) : Out := match o with
  | .nx ρ => f ρ
  | o => o
def Rr.out {α : Type} (r : Rr α) (f : α → Env → Out) : Out := match r with
  | .ok a ρ => f a ρ
  | .exc x ρ => .exc x ρ
  | .stuck => .stuck
/-- a for's turns -/
def forL (f : D → Env → Out) : List D → Env → Out
  | [], ρ => .nx ρ
  | x :: xs, ρ => match f x ρ with
    | .nx ρ' => forL f xs ρ'
    | .ct ρ' => forL f xs ρ'
    | .bk ρ' => .nx ρ'
    | o => o
/-- a while's turns, n at most -/
def whlL (c : Env → Rr Bool) (f : Env → Out) : Nat → Env → Out
  | 0, _ => .stuck
  | n + 1, ρ => (c ρ).out fun b ρ1 => if b then (match f ρ1 with
      | .nx ρ' => whlL c f n ρ'
      | .ct ρ' => whlL c f n ρ'
      | .bk ρ' => .nx ρ'
      | o => o) else .nx ρ1
def unlockO (ρ₀ : Env) (k : Option Nat) : Out → Out
  | .nx ρ => (match unlock ρ₀ k ρ with | some ρ' => .nx ρ' | none => .stuck)
  | .rt d ρ => (match unlock ρ₀ k ρ with | some ρ' => .rt d ρ' | none => .stuck)
  | .bk ρ => (match unlock ρ₀ k ρ with | some ρ' => .bk ρ' | none => .stuck)
  | .ct ρ => (match unlock ρ₀ k ρ with | some ρ' => .ct ρ' | none => .stuck)
  | .exc x ρ => (match unlock ρ₀ k ρ with | some ρ' => .exc x ρ' | none => .stuck)
  | .stuck => .stuck
/-- the first clause whose class fits -/
def pick (sub : Str → Str → Option Bool) (c : Str) : List (Str × Nat × D) → Option (Option (Nat × D))
  | [] => some none
  | (k, i, d) :: hs => match sub c k with
    | some true => some (some (i, d))
    | some false => pick sub c hs
    | none => none

mutual
/-- sub: which error class derives from which; N: turns of a while at most -/
def evS (F : Fn) (sub : Str → Str → Option Bool) (N : Nat) : St → Env → Out
  | .asg t e, ρ => (evE F e ρ).out fun o ρ1 => match alias_ ρ1 o with
    | some (o', ρ2) => (match asgT t o'.isFz o'.val ρ2 with | some ρ3 => .nx ρ3 | none => .stuck)
    | none => .stuck
  | .sub a i e, ρ => (evE F e ρ).out fun o ρ1 => match alias_ ρ1 o with
    | some (o', ρ2) => (evE F a ρ2).out fun x ρ3 => (evE F i ρ3).out fun y ρ4 => (match x, con ρ4 x, con ρ4 y with
      | .pt j p, some d, some k => if okPt x i then (match ixStp d k with
        | some st => (match setP ρ4 j (p ++ [st]) o'.val with
          | some ρ5 => .nx ρ5
          | none => .stuck)
        | none => .stuck) else .stuck
      | _, _, _ => .stuck)
    | none => .stuck
  | .ret e, ρ => (evE F e ρ).out fun o ρ1 => match alias_ ρ1 o with
    | some (o', ρ2) => .rt o'.val ρ2
    | none => .stuck
  | .retN, ρ => .rt .non ρ
  | .ifs c a b, ρ => (tst (evE F c ρ)).out fun t ρ1 => if t then evSs F sub N a ρ1 else evSs F sub N b ρ1
  | .whl ks c b, ρ => whlL (fun ρ => tst (evE F c ρ)) (fun ρ => (evSs F sub N b ρ).mp ks) N (killE ks ρ)
  | .fr ks t it b, ρ => (evI F it ρ).out fun (xs, bz, k) ρ1 => unlockO ρ1 k (forL (fun x ρ => match asgT t bz x ρ with
      | some ρ' => (evSs F sub N b ρ').mp ks
      | none => .stuck) xs (killE ks (lock ρ1 k)))
  | .ex e, ρ => (evE F e ρ).out fun _ ρ1 => .nx ρ1
  | .rse c, ρ => .exc ⟨c, []⟩ ρ
  | .tryx b hs, ρ => match evSs F sub N b ρ with
    | .exc x ρ1 => (match pick sub x.cls hs with
      | some (some (i, d)) => (match asgT (.nm i) true d ρ1 with | some ρ2 => .nx ρ2 | none => .stuck)
      | some none => .exc x ρ1
      | none => .stuck)
    | o => o
  | .brk, ρ => .bk ρ
  | .cont, ρ => .ct ρ
  | .pass, ρ => .nx ρ
def evSs (F : Fn) (sub : Str → Str → Option Bool) (N : Nat) : List St → Env → Out
  | [], ρ => .nx ρ
  | s :: ss, ρ => (evS F sub N s ρ).then fun ρ1 => evSs F sub N ss ρ1
end

/-! ### defs, programs -/
def initE (ms : List Mode) (ns : Nat) (ds : List D) : Option Env :=
  if ds.length = ms.length ∧ ms.length ≤ ns then some ((ms.zip ds).map (fun p => match p.1 with
    | .al => .fz p.2
    | .bw => .bw p.2
    | .mu => .mw p.2) ++ List.replicate (ns - ms.length) .un) else none
/-- what the arguments that may be changed have become -/
def musOf : List Mode → Env → Option (List D)
  | [], _ => some []
  | .mu :: ms, s :: ρ => (match s with
    | .mw d => (musOf ms ρ).map (d :: ·)
    | _ => none)
  | _ :: ms, _ :: ρ => musOf ms ρ
  | _ :: _, [] => none
def finish (ms : List Mode) : Out → FRes
  | .nx ρ => (match musOf ms ρ with | some mus => .rt .non mus | none => .stuck)
  | .rt d ρ => (match musOf ms ρ with | some mus => .rt d mus | none => .stuck)
  | .exc x ρ => (match musOf ms ρ with | some mus => .exc x mus | none => .stuck)
  | _ => .stuck
def callD (F : Fn) (sub : Str → Str → Option Bool) (N : Nat) (d : Def) (ds : List D) : FRes := match initE d.modes d.ns ds with
  | some ρ => finish d.modes (evSs F sub N d.body ρ)
  | none => .stuck
abbrev Tab := Str → Option Def
/-- the whole program, calls k deep at most -/
def run (tab : Tab) (sub : Str → Str → Option Bool) (N : Nat) : Nat → Str → List D → FRes
  | 0, _, _ => .stuck
  | k + 1, f, ds => match tab f with
    | some d => callD ⟨fun g => (tab g).map Def.modes, run tab sub N k⟩ sub N d ds
    | none => .stuck
end Rw

set_option Elab.async false
set_option linter.all false
set_option maxRecDepth 100000
/-! RwB: how data stand in the heap; the state's invariant and its steps. -/
namespace Rw
open PySem L2

/-! ### data in the heap -/
def KTup (K : PySem.W.Frag) (a : Addr) (xs : List V) : Prop :=
  ∃ (o : Obj) (its : Array Value) (n : Nat), K.lookup a = some o ∧ o.cls = .type "tuple" ∧ o.data = .seq its n ∧ its.size ≤ sizeLine ∧ Vals xs its.toList
def KLst (K : PySem.W.Frag) (a : Addr) (xs : List V) : Prop :=
  ∃ (o : Obj) (its : Array Value) (n : Nat), K.lookup a = some o ∧ o.cls = .type "list" ∧ o.dict = none ∧ o.data = .seq its n ∧ its.size ≤ sizeLine ∧ Vals xs its.toList
/-- a tuple that may be shared -/
def TAt (K : PySem.W.Frag) (H : Hp) (B : Addr → Prop) (p : Addr) (xs : List V) : Prop := (Rd H p (.tup xs) ∧ ¬ B p) ∨ KTup K p xs
/-- a list that may be shared -/
def LAt (H : Hp) (B : Addr → Prop) (p : Addr) (xs : List V) : Prop := H p = some (.lst xs) ∧ ¬ B p
/-- an empty dict that may be shared -/
def EAt (H : Hp) (B : Addr → Prop) (p : Addr) : Prop := H p = some (.dK []) ∧ ¬ B p
/-- the script -/
def SAt (K : PySem.W.Frag) (H : Hp) (B : Addr → Prop) (p : Addr) (xs : List V) : Prop := (Rd H p (.lst xs) ∧ ¬ B p) ∨ KLst K p xs
theorem SAt.sq {K H B p xs} (h : SAt K H B p xs) : SqL K H p xs := h.elim (fun q => .inl q.1) .inr
theorem TAt.sq {K H B p xs} (h : TAt K H B p xs) : SqT K H p xs := h.elim (fun q => .inl q.1) .inr
theorem LAt.sq {K H B p xs} (h : LAt H B p xs) : SqL K H p xs := .of h.1
mutual
/-- the value v is the data d; fp: the owned things' addresses; B: the addresses that shared things keep off -/
inductive Rp (K : PySem.W.Frag) (H : Hp) (B : Addr → Prop) : V → D → List Addr → Prop
  | non : Rp K H B .non .non []
  | bl (b : Bool) : Rp K H B (.bl b) (.bl b) []
  | int (i : Int) : Rp K H B (.int i) (.int i) []
  | str (x : Sg) : Rp K H B (.str ⟨x.toArray⟩) (.str x) []
  | tup {p : Addr} {vs : List V} {ds : List D} {fp : List Addr} : TAt K H B p vs → RpL K H B vs ds fp → Rp K H B (.ref p) (.tup ds) fp
  | scr {p : Addr} {ns : List Int} : SAt K H B p (ns.map V.int) → Rp K H B (.ref p) (.scr ns) []
  | lf {p : Addr} {vs : List V} {ds : List D} : LAt H B p vs → RpL K H B vs ds [] → Rp K H B (.ref p) (.lst false ds) []
  | dE {p : Addr} : EAt H B p → Rp K H B (.ref p) (.dct false []) []
  | lo {p : Addr} {vs : List V} {ds : List D} {fp : List Addr} : H p = some (.lst vs) → RpL K H B vs ds fp → Rp K H B (.ref p) (.lst true ds) (p :: fp)
inductive RpL (K : PySem.W.Frag) (H : Hp) (B : Addr → Prop) : List V → List D → List Addr → Prop
  | nil : RpL K H B [] [] []
  | cons {v : V} {d : D} {f : List Addr} {vs : List V} {ds : List D} {fs : List Addr} : Rp K H B v d f → RpL K H B vs ds fs → RpL K H B (v :: vs) (d :: ds) (f ++ fs)
end
section
variable {K : PySem.W.Frag} {H H' : Hp} {B B' : Addr → Prop}
theorem Rd_kept {a : Addr} {u : HO} (r : Rd H a u) (k : ∀ o, H a = some o → H' a = some o) : Rd H' a u := r.elim (fun h => .inl (k _ h)) fun ⟨o, h⟩ => .inr ⟨o, k _ h⟩
theorem Rd_ne {a : Addr} {u : HO} (r : Rd H a u) : H a ≠ none := by
  rcases r with h | ⟨o, h⟩ <;> rw [h] <;> exact fun z => by cases z
theorem TAt.mono {p xs} (h : TAt K H B p xs) (hk : ∀ a o, H a = some o → ¬ B a → H' a = some o) (hB : ∀ a, B' a → B a ∨ H a = none) : TAt K H' B' p xs := by
  rcases h with ⟨r, n⟩ | h
  · exact .inl ⟨Rd_kept r fun o e => hk _ o e n, fun b => (hB _ b).elim n (Rd_ne r)⟩
  · exact .inr h
theorem SAt.mono {p xs} (h : SAt K H B p xs) (hk : ∀ a o, H a = some o → ¬ B a → H' a = some o) (hB : ∀ a, B' a → B a ∨ H a = none) : SAt K H' B' p xs := by
  rcases h with ⟨r, n⟩ | h
  · exact .inl ⟨Rd_kept r fun o e => hk _ o e n, fun b => (hB _ b).elim n (Rd_ne r)⟩
  · exact .inr h
theorem EAt.mono {p} (h : EAt H B p) (hk : ∀ a o, H a = some o → ¬ B a → H' a = some o) (hB : ∀ a, B' a → B a ∨ H a = none) : EAt H' B' p :=
  ⟨hk _ _ h.1 h.2, fun b => (hB _ b).elim h.2 fun z => by rw [h.1] at z; cases z⟩
theorem LAt.mono {p xs} (h : LAt H B p xs) (hk : ∀ a o, H a = some o → ¬ B a → H' a = some o) (hB : ∀ a, B' a → B a ∨ H a = none) : LAt H' B' p xs :=
  ⟨hk _ _ h.1 h.2, fun b => (hB _ b).elim h.2 fun z => by rw [h.1] at z; cases z⟩
mutual
theorem Rp.mono {v d q} (hk : ∀ a o, H a = some o → (¬ B a ∨ a ∈ q) → H' a = some o) (hB : ∀ a, B' a → B a ∨ H a = none) : Rp K H B v d q → Rp K H' B' v d q
  | .non => .non
  | .bl b => .bl b
  | .int i => .int i
  | .str x => .str x
  | .scr t => .scr (t.mono (fun a o e n => hk a o e (.inl n)) hB)
  | .dE t => .dE (t.mono (fun a o e n => hk a o e (.inl n)) hB)
  | .tup t l => .tup (t.mono (fun a o e n => hk a o e (.inl n)) hB) (RpL.mono hk hB l)
  | .lf t l => .lf (t.mono (fun a o e n => hk a o e (.inl n)) hB) (RpL.mono (fun a o e n => hk a o e (n.elim .inl fun z => nomatch z)) hB l)
  | .lo t l => .lo (hk _ _ t (.inr List.mem_cons_self)) (RpL.mono (fun a o e n => hk a o e (n.elim .inl fun z => .inr (List.mem_cons_of_mem _ z))) hB l)
theorem RpL.mono {vs ds q} (hk : ∀ a o, H a = some o → (¬ B a ∨ a ∈ q) → H' a = some o) (hB : ∀ a, B' a → B a ∨ H a = none) : RpL K H B vs ds q → RpL K H' B' vs ds q
  | .nil => .nil
  | .cons h t => .cons (Rp.mono (fun a o e n => hk a o e (n.elim .inl fun z => .inr (List.mem_append_left _ z))) hB h) (RpL.mono (fun a o e n => hk a o e (n.elim .inl fun z => .inr (List.mem_append_right _ z))) hB t)
end
mutual
theorem Rp.fr {v d q} : Rp K H B v d q → isFr d = true → q = []
  | .non, _ => rfl
  | .bl b, _ => rfl
  | .int i, _ => rfl
  | .str x, _ => rfl
  | .scr _, _ => rfl
  | .dE _, _ => rfl
  | .tup t l, h => RpL.fr l (by simpa [isFr] using h)
  | .lf t l, _ => rfl
  | .lo t l, h => by simp [isFr] at h
theorem RpL.fr {vs ds q} : RpL K H B vs ds q → isFrL ds = true → q = []
  | .nil, _ => rfl
  | .cons h t, e => by
    rw [isFrL, Bool.and_eq_true] at e
    rw [Rp.fr h e.1, RpL.fr t e.2]
    rfl
end
mutual
/-- a thing that is let go of may be shared -/
theorem Rp.freeze {v d q} (hB : ∀ a, B' a → B a ∧ a ∉ q) : Rp K H B v d q → Rp K H B' v (freeze d) []
  | .non => .non
  | .bl b => .bl b
  | .int i => .int i
  | .str x => .str x
  | .scr t => .scr (t.mono (fun _ _ e _ => e) fun a b => .inl (hB a b).1)
  | .dE t => .dE (t.mono (fun _ _ e _ => e) fun a b => .inl (hB a b).1)
  | .tup t l => .tup (t.mono (fun _ _ e _ => e) fun a b => .inl (hB a b).1) (RpL.freeze hB l)
  | .lf t l => .lf (t.mono (fun _ _ e _ => e) fun a b => .inl (hB a b).1) (RpL.freeze (fun a b => ⟨(hB a b).1, List.not_mem_nil⟩) l)
  | .lo t l => .lf ⟨t, fun b => (hB _ b).2 List.mem_cons_self⟩ (RpL.freeze (fun a b => ⟨(hB a b).1, fun z => (hB a b).2 (List.mem_cons_of_mem _ z)⟩) l)
theorem RpL.freeze {vs ds q} (hB : ∀ a, B' a → B a ∧ a ∉ q) : RpL K H B vs ds q → RpL K H B' vs (freezeL ds) []
  | .nil => .nil
  | .cons h t => .cons (Rp.freeze (fun a b => ⟨(hB a b).1, fun z => (hB a b).2 (List.mem_append_left _ z)⟩) h) (RpL.freeze (fun a b => ⟨(hB a b).1, fun z => (hB a b).2 (List.mem_append_right _ z)⟩) t)
end
mutual
/-- owned things are tracked -/
theorem Rp.there {v d q} : Rp K H B v d q → ∀ a ∈ q, ∃ o, H a = some o
  | .non, _, h => nomatch h
  | .bl b, _, h => nomatch h
  | .int i, _, h => nomatch h
  | .str x, _, h => nomatch h
  | .scr _, _, h => nomatch h
  | .dE _, _, h => nomatch h
  | .tup t l, a, h => RpL.there l a h
  | .lf t l, _, h => nomatch h
  | .lo t l, a, h => by
    rcases List.mem_cons.mp h with rfl | h
    · exact ⟨_, t⟩
    · exact RpL.there l a h
theorem RpL.there {vs ds q} : RpL K H B vs ds q → ∀ a ∈ q, ∃ o, H a = some o
  | .nil, _, h => nomatch h
  | .cons h t, a, z => (List.mem_append.mp z).elim (Rp.there h a) (RpL.there t a)
end
theorem RpL.len {vs ds q} : RpL K H B vs ds q → vs.length = ds.length
  | .nil => rfl
  | .cons _ t => by rw [List.length_cons, List.length_cons, RpL.len t]
theorem RpL.get {vs ds q} : RpL K H B vs ds q → ∀ {n : Nat} {d : D}, ds[n]? = some d → ∃ v f pre post, vs[n]? = some v ∧ Rp K H B v d f ∧ q = pre ++ (f ++ post)
  | .nil, n, d, h => by simp at h
  | .cons (f := f) (fs := fs) h t, 0, d, e => by
    simp at e
    subst e
    exact ⟨_, f, [], fs, rfl, h, rfl⟩
  | .cons (f := f) (fs := fs) h t, n + 1, d, e => by
    obtain ⟨v, g, pre, post, h1, h2, h3⟩ := RpL.get t (n := n) (d := d) (by simpa using e)
    exact ⟨v, g, f ++ pre, post, by simpa using h1, h2, by rw [h3, List.append_assoc]⟩
theorem RpL.get0 {vs ds} (h : RpL K H B vs ds []) {n : Nat} {d : D} (e : ds[n]? = some d) : ∃ v, vs[n]? = some v ∧ Rp K H B v d [] := by
  obtain ⟨v, f, pre, post, h1, h2, h3⟩ := h.get e
  have : f = [] := by
    have := congrArg List.length h3
    simp at this
    exact List.eq_nil_of_length_eq_zero (by omega)
  subst this
  exact ⟨v, h1, h2⟩
/-- the n-th part is changed -/
theorem RpL.set {vs ds q} : RpL K H B vs ds q → ∀ {n : Nat} {d : D} {v : V}, ds[n]? = some d → vs[n]? = some v → ∃ f pre post, Rp K H B v d f ∧ q = pre ++ (f ++ post) ∧
    ∀ {H' : Hp} {B' : Addr → Prop} {v' : V} {d' : D} {f' : List Addr}, (∀ a o, H a = some o → (¬ B a ∨ a ∈ pre ∨ a ∈ post) → H' a = some o) → (∀ a, B' a → B a ∨ H a = none) → Rp K H' B' v' d' f' →
      RpL K H' B' (vs.set n v') (ds.set n d') (pre ++ (f' ++ post))
  | .nil, n, d, v, h, _ => by simp at h
  | .cons (f := f) (fs := fs) h t, 0, d, v, e, e' => by
    simp at e e'
    subst e e'
    refine ⟨f, [], fs, h, rfl, fun hk hB r => ?_⟩
    exact RpL.cons (fs := fs) r (t.mono (fun a o e n => hk a o e (n.elim .inl fun z => .inr (.inr z))) hB)
  | .cons (f := f) (fs := fs) h t, n + 1, d, v, e, e' => by
    obtain ⟨g, pre, post, h1, h2, h3⟩ := RpL.set t (n := n) (d := d) (v := v) (by simpa using e) (by simpa using e')
    refine ⟨g, f ++ pre, post, h1, by rw [h2, List.append_assoc], fun hk hB r => ?_⟩
    have r1 := h3 (fun a o e n => hk a o e (n.elim .inl fun z => z.elim (fun y => .inr (.inl (List.mem_append_right _ y))) fun y => .inr (.inr y))) hB r
    have r0 := Rp.mono (fun a o e n => hk a o e (n.elim .inl fun z => .inr (.inl (List.mem_append_left _ z)))) hB h
    have := RpL.cons r0 r1
    simpa [List.append_assoc] using this
theorem RpL.app {vs ds q ws es r} : RpL K H B vs ds q → RpL K H B ws es r → RpL K H B (vs ++ ws) (ds ++ es) (q ++ r)
  | .nil, h => h
  | .cons h t, g => by
    have := RpL.cons h (RpL.app t g)
    simpa [List.append_assoc] using this
theorem RpL.one {v d q} (h : Rp K H B v d q) : RpL K H B [v] [d] q := by
  have := RpL.cons h (.nil (K := K) (H := H) (B := B))
  simpa using this
/-! ### places -/
/-- the value at a place within owned things -/
def VAt (H : Hp) : V → List Stp → V → Prop
  | v, [], u => u = v
  | v, .ix n :: t, u => ∃ p vs x, v = .ref p ∧ H p = some (.lst vs) ∧ vs[n]? = some x ∧ VAt H x t u
  | _, _ :: _, _ => False
theorem VAt.app : ∀ {p q : List Stp} {v u w : V}, VAt H v p u → VAt H u q w → VAt H v (p ++ q) w
  | [], _, v, u, w, h, g => by
    have e : u = v := h
    subst e
    exact g
  | .ix n :: t, _, v, u, w, ⟨p, vs, x, h1, h2, h3, h4⟩, g => ⟨p, vs, x, h1, h2, h3, h4.app g⟩
  | .key _ :: _, _, _, _, _, h, _ => h.elim
  | .fld _ :: _, _, _, _, _, h, _ => h.elim
/-- a place: what stands there, and what comes of another thing there -/
theorem Rp.at {v d q} (r : Rp K H B v d q) : ∀ {p : List Stp} {e : D}, getAt d p = some e → ∃ u f pre post, VAt H v p u ∧ Rp K H B u e f ∧ q = pre ++ (f ++ post) ∧
    ∀ {H' : Hp} {B' : Addr → Prop} {e' : D} {f' : List Addr}, (∀ a o, H a = some o → (¬ B a ∨ a ∈ pre ∨ a ∈ post) → H' a = some o) → (∀ a, B' a → B a ∨ H a = none) → Rp K H' B' u e' f' →
      ∃ d', setAt d p e' = some d' ∧ Rp K H' B' v d' (pre ++ (f' ++ post))
  | [], e, h => by
    have e0 : d = e := by simpa [getAt] using h
    subst e0
    exact ⟨v, q, [], [], rfl, r, by simp, fun hk hB r' => ⟨_, rfl, by simpa using r'⟩⟩
  | .ix n :: p, e, h => by
    cases r with
    | lo t l =>
      rename_i a vs ds fp
      rw [getAt] at h
      cases hx : ds[n]? with
      | none => rw [hx] at h; cases h
      | some x =>
        rw [hx] at h
        have h' : getAt x p = some e := h
        obtain ⟨y, g, g1, g2, hy, ry, eq⟩ := l.get hx
        obtain ⟨g', pre', post', ry', eq', hset⟩ := l.set hx hy
        obtain ⟨u, f, pre, post, h1, h2, h3, h4⟩ := Rp.at ry' h'
        refine ⟨u, f, a :: (pre' ++ pre), post ++ post', ⟨a, vs, y, rfl, t, hy, h1⟩, h2, by rw [eq', h3]; simp [List.append_assoc], fun {H' B' e' f'} hk hB re => ?_⟩
        obtain ⟨d', hd, rd⟩ := h4 (e' := e') (f' := f') (fun b o eo n => hk b o eo (n.elim .inl fun z => z.elim (fun z => .inr (.inl (by simp [z]))) fun z => .inr (.inr (by simp [z])))) hB re
        refine ⟨.lst true (ds.set n d'), by rw [setAt, hx]; simp [hd], ?_⟩
        have l' := hset (fun b o eo n => hk b o eo (n.elim .inl fun z => z.elim (fun z => .inr (.inl (by simp [z]))) fun z => .inr (.inr (by simp [z])))) hB rd
        have ev : vs.set n y = vs := by
          apply List.ext_getElem?
          intro i
          rw [List.getElem?_set]
          split
          · rename_i e1
            subst e1
            rw [hy]
            have := (List.getElem?_eq_some_iff.mp hy).1
            simp [this]
          · rfl
        rw [ev] at l'
        have := Rp.lo (hk _ _ t (.inr (.inl List.mem_cons_self))) l'
        simpa [List.append_assoc] using this
    | _ => simp [getAt] at h
  | .key k :: p, e, h => by cases r <;> simp [getAt] at h
  | .fld f :: p, e, h => by cases r <;> simp [getAt] at h
end

/-! ### the state -/
def look (σ : L2.St) (i : Nat) : Option V := (σ[i]?).getD none
def slot (ρ : Env) (i : Nat) : Slot := (ρ[i]?).getD .un
/-- where shared things do not reach: the callers' things and those held, the owned things -/
def Bs (A : Addr → Prop) (fp : Nat → List Addr) (a : Addr) : Prop := A a ∨ ∃ i, a ∈ fp i
def SlotOk (K : PySem.W.Frag) (H : Hp) (A₀ B : Addr → Prop) (x : Option V) : Slot → List Addr → Prop
  | .un, f => f = []
  | .fz d, f => f = [] ∧ ∃ v, x = some v ∧ Rp K H B v d []
  | .ow d, f => ∃ v, x = some v ∧ Rp K H B v d f
  | .mw d, f => ∃ v, x = some v ∧ Rp K H B v d f
  | .bw d, f => f = [] ∧ ∃ v q, x = some v ∧ Rp K H B v d q ∧ ∀ a ∈ q, A₀ a
/-- the names σ hold what ρ says; fp: what each owns -/
structure SI (K : PySem.W.Frag) (A₀ A : Addr → Prop) (σ : L2.St) (H : Hp) (ρ : Env) (fp : Nat → List Addr) : Prop where
  len : σ.length = ρ.length
  sub : ∀ a, A₀ a → A a
  nd : ∀ i, (fp i).Nodup
  dj : ∀ i j a, a ∈ fp i → a ∈ fp j → i = j
  na : ∀ i a, a ∈ fp i → ¬ A a
  tr : ∀ a, A a → ∃ o, H a = some o
  sl : ∀ i, SlotOk K H A₀ (Bs A fp) (look σ i) (slot ρ i) (fp i)
section
variable {K : PySem.W.Frag} {A₀ A A' A'' : Addr → Prop} {σ σ' : L2.St} {H H' H'' : Hp} {ρ ρ' : Env} {fp fp' fp'' : Nat → List Addr}
theorem SlotOk.there {B : Addr → Prop} {x : Option V} {s : Slot} {f : List Addr} (h : SlotOk K H A₀ B x s f) : ∀ a ∈ f, ∃ o, H a = some o := by
  cases s with
  | un => intro a ha; rw [show f = [] from h] at ha; cases ha
  | fz d => intro a ha; rw [h.1] at ha; cases ha
  | bw d => intro a ha; rw [h.1] at ha; cases ha
  | ow d => obtain ⟨v, _, r⟩ := h; exact r.there
  | mw d => obtain ⟨v, _, r⟩ := h; exact r.there
theorem SlotOk.mono {B B' : Addr → Prop} {x : Option V} {s : Slot} {f : List Addr} (h : SlotOk K H A₀ B x s f) (hk : ∀ a o, H a = some o → (¬ B a ∨ a ∈ f ∨ A₀ a) → H' a = some o) (hB : ∀ a, B' a → B a ∨ H a = none) : SlotOk K H' A₀ B' x s f := by
  cases s with
  | un => exact h
  | fz d => obtain ⟨h1, v, h2, r⟩ := h; exact ⟨h1, v, h2, r.mono (fun a o e n => hk a o e (n.elim .inl fun z => nomatch z)) hB⟩
  | ow d => obtain ⟨v, h2, r⟩ := h; exact ⟨v, h2, r.mono (fun a o e n => hk a o e (n.elim .inl fun z => .inr (.inl z))) hB⟩
  | mw d => obtain ⟨v, h2, r⟩ := h; exact ⟨v, h2, r.mono (fun a o e n => hk a o e (n.elim .inl fun z => .inr (.inl z))) hB⟩
  | bw d => obtain ⟨h1, v, q, h2, r, h3⟩ := h; exact ⟨h1, v, q, h2, r.mono (fun a o e n => hk a o e (n.elim .inl fun z => .inr (.inr (h3 a z)))) hB, h3⟩
def fup (fp : Nat → List Addr) (i : Nat) (f : List Addr) : Nat → List Addr := fun j => if j = i then f else fp j
theorem fup_same {i : Nat} {f : List Addr} : fup fp i f i = f := if_pos rfl
theorem fup_ne {i j : Nat} {f : List Addr} (h : j ≠ i) : fup fp i f j = fp j := if_neg h
/-- ONE STEP: at most the slot i and what it owns are changed -/
theorem SI.chg (S : SI K A₀ A σ H ρ fp) (i : Nat) {A₁ : Addr → Prop} {σ₁ : L2.St} {H₁ : Hp} {ρ₁ : Env} {f : List Addr} (hl : σ₁.length = ρ₁.length)
    (hσ : ∀ j, j ≠ i → look σ₁ j = look σ j) (hρ : ∀ j, j ≠ i → slot ρ₁ j = slot ρ j) (h0 : ∀ a, A₀ a → A₁ a) (hA : ∀ a, A₁ a → A a ∨ a ∈ fp i ∨ H a = none) (hT : ∀ a, A₁ a → ∃ o, H₁ a = some o)
    (hn : f.Nodup) (hf : ∀ a ∈ f, a ∈ fp i ∨ A a ∨ H a = none) (hfA : ∀ a ∈ f, ¬ A₁ a) (hk : ∀ a o, H a = some o → a ∉ fp i → H₁ a = some o)
    (hs : SlotOk K H₁ A₀ (Bs A₁ (fup fp i f)) (look σ₁ i) (slot ρ₁ i) f) : SI K A₀ A₁ σ₁ H₁ ρ₁ (fup fp i f) := by
  have ow : ∀ j a, a ∈ fp j → ∃ o, H a = some o := fun j a ha => (S.sl j).there a ha
  refine ⟨hl, h0, fun j => ?_, fun j k a h1 h2 => ?_, fun j a h1 => ?_, hT, fun j => ?_⟩
  · by_cases e : j = i
    · subst e; rw [fup_same]; exact hn
    · rw [fup_ne e]; exact S.nd j
  · have key : ∀ j, j ≠ i → a ∈ fp j → a ∈ f → False := fun j e h1 h2 => by
      rcases hf a h2 with z | z | z
      · exact e (S.dj j i a h1 z)
      · exact S.na j a h1 z
      · obtain ⟨o, eo⟩ := ow j a h1
        rw [eo] at z; cases z
    by_cases e : j = i
    · by_cases e' : k = i
      · rw [e, e']
      · rw [e, fup_same] at h1
        rw [fup_ne e'] at h2
        exact (key k e' h2 h1).elim
    · by_cases e' : k = i
      · rw [e', fup_same] at h2
        rw [fup_ne e] at h1
        exact (key j e h1 h2).elim
      · rw [fup_ne e] at h1
        rw [fup_ne e'] at h2
        exact S.dj j k a h1 h2
  · by_cases e : j = i
    · rw [e, fup_same] at h1; exact hfA a h1
    · rw [fup_ne e] at h1
      intro hA1
      rcases hA a hA1 with z | z | z
      · exact S.na j a h1 z
      · exact e (S.dj j i a h1 z)
      · obtain ⟨o, eo⟩ := ow j a h1
        rw [eo] at z; cases z
  · by_cases e : j = i
    · rw [e, fup_same]; exact hs
    · rw [hσ j e, hρ j e, fup_ne e]
      refine (S.sl j).mono (fun a o ea n => hk a o ea fun hi => ?_) fun a b => ?_
      · rcases n with n | n | n
        · exact n (.inr ⟨i, hi⟩)
        · exact e (S.dj j i a n hi)
        · exact S.na i a hi (S.sub a n)
      · rcases b with b | ⟨k, b⟩
        · rcases hA a b with z | z | z
          · exact .inl (.inl z)
          · exact .inl (.inr ⟨i, z⟩)
          · exact .inr z
        · by_cases ek : k = i
          · rw [ek, fup_same] at b
            rcases hf a b with z | z | z
            · exact .inl (.inr ⟨i, z⟩)
            · exact .inl (.inl z)
            · exact .inr z
          · rw [fup_ne ek] at b
            exact .inl (.inr ⟨k, b⟩)
theorem slot_out (h : ρ.length ≤ i) : slot ρ i = .un := by simp [slot, List.getElem?_eq_none_iff.mpr h]
theorem SI.out (S : SI K A₀ A σ H ρ fp) {i : Nat} (h : ρ.length ≤ i) : fp i = [] := by
  have := S.sl i
  rw [slot_out h] at this
  exact this
theorem fup_self {i : Nat} (h : fp i = []) : fup fp i [] = fp := by
  funext j
  unfold fup
  split
  · rename_i e; rw [e, h]
  · rfl
/-- no slot is changed -/
theorem SI.grow (S : SI K A₀ A σ H ρ fp) {A₁ : Addr → Prop} {H₁ : Hp} (h0 : ∀ a, A₀ a → A₁ a) (hA : ∀ a, A₁ a → A a ∨ H a = none) (hT : ∀ a, A₁ a → ∃ o, H₁ a = some o) (hk : ∀ a o, H a = some o → H₁ a = some o) : SI K A₀ A₁ σ H₁ ρ fp := by
  have e := S.out (Nat.le_refl ρ.length)
  have := S.chg ρ.length (A₁ := A₁) (σ₁ := σ) (H₁ := H₁) (ρ₁ := ρ) (f := []) S.len (fun _ _ => rfl) (fun _ _ => rfl) h0 (fun a b => (hA a b).elim .inl fun z => .inr (.inr z)) hT List.nodup_nil (fun _ z => nomatch z) (fun _ z => nomatch z)
    (fun a o q _ => hk a o q) (by rw [slot_out (Nat.le_refl _)]; exact rfl)
  rw [fup_self e] at this
  exact this
theorem SI.drop (S : SI K A₀ A σ H ρ fp) {A₁ : Addr → Prop} (h0 : ∀ a, A₀ a → A₁ a) (h1 : ∀ a, A₁ a → A a) : SI K A₀ A₁ σ H ρ fp := S.grow h0 (fun a h => .inl (h1 a h)) (fun a h => S.tr a (h1 a h)) fun _ _ q => q
/-- between two states -/
structure Tr (A : Addr → Prop) (fp : Nat → List Addr) (H : Hp) (A' : Addr → Prop) (fp' : Nat → List Addr) (H' : Hp) : Prop where
  a : ∀ a, A a → A' a
  k : ∀ a o, H a = some o → (∀ i, a ∉ fp i) → H' a = some o
  b : ∀ a, Bs A' fp' a → Bs A fp a ∨ H a = none
theorem Tr.refl : Tr A fp H A fp H := ⟨fun _ h => h, fun _ _ e _ => e, fun _ h => .inl h⟩
theorem Tr.trans (t : Tr A fp H A' fp' H') (S : SI K A₀ A σ H ρ fp) (S' : SI K A₀ A' σ' H' ρ' fp') (u : Tr A' fp' H' A'' fp'' H'') : Tr A fp H A'' fp'' H'' where
  a := fun a h => u.a a (t.a a h)
  k := fun a o e n => by
    refine u.k a o (t.k a o e n) fun i hi => ?_
    rcases t.b a (.inr ⟨i, hi⟩) with (z | ⟨j, z⟩) | z
    · exact S'.na i a hi (t.a a z)
    · exact n j z
    · rw [e] at z; cases z
  b := fun a h => by
    rcases u.b a h with z | z
    · exact t.b a z
    · by_cases o : ∃ i, a ∈ fp i
      · exact .inl (.inr o)
      · right
        cases e : H a with
        | none => rfl
        | some x =>
          have := t.k a x e fun i hi => o ⟨i, hi⟩
          rw [this] at z; cases z
/-- a held or shared thing persists -/
theorem Rp.keep {v d q} (r : Rp K H (Bs A fp) v d q) (S : SI K A₀ A σ H ρ fp) (hq : ∀ a ∈ q, A a) (t : Tr A fp H A' fp' H') : Rp K H' (Bs A' fp') v d q :=
  r.mono (fun a o e n => t.k a o e fun i hi => by
    rcases n with n | n
    · exact n (.inr ⟨i, hi⟩)
    · exact S.na i a hi (hq a n)) t.b
end
end Rw

set_option Elab.async false
set_option linter.all false
set_option maxRecDepth 100000
/-! RwC: operands: what they are in the heap, how they are handed on. -/
namespace Rw
open PySem L2
section
variable {K : PySem.W.Frag} {A₀ A A' A'' : Addr → Prop} {σ σ' : L2.St} {H H' H'' : Hp} {ρ ρ' : Env} {fp fp' fp'' : Nat → List Addr} {B : Addr → Prop}
theorem VAt.inj : ∀ {p : List Stp} {v u w : V}, VAt H v p u → VAt H v p w → u = w
  | [], v, u, w, h, g => by
    have e1 : u = v := h
    have e2 : w = v := g
    rw [e1, e2]
  | .ix n :: t, v, u, w, ⟨p, vs, x, h1, h2, h3, h4⟩, ⟨p', vs', x', g1, g2, g3, g4⟩ => by
    rw [h1] at g1
    cases g1
    rw [h2] at g2
    cases g2
    rw [h3] at g3
    cases g3
    exact VAt.inj h4 g4
  | .key _ :: _, _, _, _, h, _ => h.elim
  | .fld _ :: _, _, _, _, h, _ => h.elim
theorem VAt.kept : ∀ {p : List Stp} {v u : V}, VAt H v p u → (∀ a o, H a = some o → H' a = some o) → VAt H' v p u
  | [], _, _, h, _ => h
  | .ix n :: t, v, u, ⟨p, vs, x, h1, h2, h3, h4⟩, k => ⟨p, vs, x, h1, k _ _ h2, h3, h4.kept k⟩
  | .key _ :: _, _, _, h, _ => h.elim
  | .fld _ :: _, _, _, h, _ => h.elim
/-- an operand is the value v; q: what it brings along -/
def OpdR (K : PySem.W.Frag) (H : Hp) (B : Addr → Prop) (σ : L2.St) (v : V) : Opd → List Addr → Prop
  | .fz d, q => q = [] ∧ Rp K H B v d []
  | .ow d, q => Rp K H B v d q
  | .pt i p, q => q = [] ∧ ∃ r, look σ i = some r ∧ VAt H r p v
def OpdOk (K : PySem.W.Frag) (H : Hp) (A A' B : Addr → Prop) (σ : L2.St) (v : V) (o : Opd) : Prop := ∃ q, OpdR K H B σ v o q ∧ q.Nodup ∧ ∀ a ∈ q, A' a ∧ ¬ A a
theorem OpdOk.fz {d v} (r : Rp K H B v d []) : OpdOk K H A A' B σ v (.fz d) := ⟨[], ⟨rfl, r⟩, .nil, fun _ h => nomatch h⟩
theorem SI.bs (S : SI K A₀ A σ H ρ fp) {a : Addr} (b : Bs A fp a) : ∃ o, H a = some o := b.elim (S.tr a) fun ⟨i, h⟩ => (S.sl i).there a h
theorem SI.free (S : SI K A₀ A σ H ρ fp) {a : Addr} (e : H a = none) : ¬ Bs A fp a := fun b => by
  obtain ⟨o, h⟩ := S.bs b
  rw [e] at h; cases h
/-- what a name holds -/
theorem SI.con (S : SI K A₀ A σ H ρ fp) {i : Nat} {d : D} (h : (slot ρ i).con = some d) : ∃ v q, look σ i = some v ∧ Rp K H (Bs A fp) v d q ∧ ∀ a ∈ q, Bs A fp a := by
  have := S.sl i
  cases e : slot ρ i with
  | un => rw [e] at h; cases h
  | fz d' =>
    rw [e] at this h
    cases h
    obtain ⟨_, v, h2, r⟩ := this
    exact ⟨v, [], h2, r, fun _ z => nomatch z⟩
  | ow d' =>
    rw [e] at this h
    cases h
    obtain ⟨v, h2, r⟩ := this
    exact ⟨v, _, h2, r, fun a z => .inr ⟨i, z⟩⟩
  | mw d' =>
    rw [e] at this h
    cases h
    obtain ⟨v, h2, r⟩ := this
    exact ⟨v, _, h2, r, fun a z => .inr ⟨i, z⟩⟩
  | bw d' =>
    rw [e] at this h
    cases h
    obtain ⟨_, v, q, h2, r, h3⟩ := this
    exact ⟨v, q, h2, r, fun a z => .inl (S.sub a (h3 a z))⟩
theorem slot_get {ρ : Env} {i : Nat} {s : Slot} (h : ρ[i]? = some s) : slot ρ i = s := by simp [slot, h]
theorem get_slot {ρ : Env} {i : Nat} (h : slot ρ i ≠ .un) : ρ[i]? = some (slot ρ i) := by
  unfold slot at h ⊢
  cases e : ρ[i]? with
  | none => rw [e] at h; exact (h rfl).elim
  | some s => rfl
theorem getP_slot {i : Nat} {p : List Stp} {d : D} (h : getP ρ i p = some d) : ∃ d₀, (slot ρ i).con = some d₀ ∧ getAt d₀ p = some d := by
  unfold getP at h
  cases e : ρ[i]? with
  | none => rw [e] at h; cases h
  | some s =>
    rw [e] at h
    cases e2 : s.con with
    | none => rw [show (some s).bind Slot.con = s.con from rfl, e2] at h; cases h
    | some d₀ =>
      rw [show (some s).bind Slot.con = s.con from rfl, e2] at h
      exact ⟨d₀, by rw [slot_get e, e2], h⟩
/-- an operand's data -/
theorem con_ok (S : SI K A₀ A' σ H ρ fp) {v : V} {o : Opd} {d : D} (ok : OpdOk K H A A' (Bs A' fp) σ v o) (h : con ρ o = some d) : ∃ q, Rp K H (Bs A' fp) v d q ∧ ∀ a ∈ q, Bs A' fp a := by
  obtain ⟨q, r, _, hq⟩ := ok
  cases o with
  | fz e =>
    cases h
    exact ⟨[], r.2, fun _ z => nomatch z⟩
  | ow e =>
    cases h
    exact ⟨q, r, fun a z => .inl (hq a z).1⟩
  | pt i p =>
    obtain ⟨_, w, hw, va⟩ := r
    obtain ⟨d₀, h1, h2⟩ := getP_slot (show getP ρ i p = some d from h)
    obtain ⟨v₀, q₀, g1, g2, g3⟩ := S.con h1
    rw [hw] at g1
    cases g1
    obtain ⟨u, f, pre, post, k1, k2, k3, _⟩ := g2.at h2
    rw [va.inj k1]
    exact ⟨f, k2, fun a z => g3 a (by rw [k3]; simp [z])⟩
/-- .. which is frozen -/
theorem con_fr (S : SI K A₀ A' σ H ρ fp) {v : V} {o : Opd} {d : D} (ok : OpdOk K H A A' (Bs A' fp) σ v o) (h : con ρ o = some d) (f : o.isFz = true ∨ isFr d = true) : Rp K H (Bs A' fp) v d [] := by
  rcases f with f | f
  · cases o with
    | fz e => cases h; obtain ⟨q, r, _⟩ := ok; exact r.2
    | ow e => cases f
    | pt i p => cases f
  · obtain ⟨q, r, _⟩ := con_ok S ok h
    rw [r.fr f] at r
    exact r
/-- it is no place within an owned thing -/
def Opd.noPl : Opd → Prop
  | .pt _ (_ :: _) => False
  | _ => True
/-- the same later -/
theorem OpdR.later {v : V} {o : Opd} {q : List Addr} (r : OpdR K H (Bs A' fp) σ v o q) (hq : ∀ a ∈ q, A' a) (S : SI K A₀ A' σ H ρ fp) (t : Tr A' fp H A'' fp' H') (hp : o.noPl ∨ ∀ a o, H a = some o → H' a = some o) : OpdR K H' (Bs A'' fp') σ v o q := by
  cases o with
  | fz d => exact ⟨r.1, r.2.keep S (fun _ z => nomatch z) t⟩
  | ow d => exact Rp.keep r S hq t
  | pt i p =>
    obtain ⟨h1, w, h2, h3⟩ := r
    refine ⟨h1, w, h2, ?_⟩
    cases p with
    | nil => exact h3
    | cons s p =>
      rcases hp with hp | hp
      · exact hp.elim
      · exact h3.kept hp
theorem OpdOk.later {v : V} {o : Opd} (ok : OpdOk K H A A' (Bs A' fp) σ v o) (S : SI K A₀ A' σ H ρ fp) (t : Tr A' fp H A'' fp' H') (hp : o.noPl ∨ ∀ a o, H a = some o → H' a = some o) : OpdOk K H' A A'' (Bs A'' fp') σ v o := by
  obtain ⟨q, r, nd, hq⟩ := ok
  exact ⟨q, r.later (fun a z => (hq a z).1) S t hp, nd, fun a z => ⟨t.a a (hq a z).1, (hq a z).2⟩⟩
/-! ### letting go -/
theorem fup_fup {i : Nat} {f g : List Addr} : fup (fup fp i f) i g = fup fp i g := by
  funext j
  unfold fup
  split <;> rfl
theorem bs_fup {i : Nat} {f : List Addr} {a : Addr} (h : Bs A (fup fp i f) a) : Bs A fp a ∨ a ∈ f := by
  rcases h with h | ⟨j, h⟩
  · exact .inl (.inl h)
  · by_cases e : j = i
    · rw [e, fup_same] at h; exact .inr h
    · rw [fup_ne e] at h; exact .inl (.inr ⟨j, h⟩)
theorem slot_set {ρ : Env} {i j : Nat} {s : Slot} (h : j ≠ i) : slot (ρ.set i s) j = slot ρ j := by
  unfold slot
  rw [List.getElem?_set_ne (Ne.symm h)]
theorem slot_set_same {ρ : Env} {i : Nat} {s : Slot} (h : i < ρ.length) : slot (ρ.set i s) i = s := by
  unfold slot
  rw [List.getElem?_set_self h]
  rfl
theorem lt_of_get {ρ : Env} {i : Nat} {s : Slot} (h : ρ[i]? = some s) : i < ρ.length := (List.getElem?_eq_some_iff.mp h).1
/-- a place of an owned variable gets other data: the heap may change there alone -/
theorem SI.putAt (S : SI K A₀ A' σ H ρ fp) {i : Nat} {p : List Stp} {d e : D} {v : V} {w : V} (hg : getP ρ i p = some d) (hw : look σ i = some w) (hv : VAt H w p v) {ρ' : Env} (hs : setP ρ i p e = some ρ') :
    ∃ f pre post, fp i = pre ++ (f ++ post) ∧ Rp K H (Bs A' fp) v d f ∧ ∀ {A₁ : Addr → Prop} {H₁ : Hp} {f' : List Addr}, (∀ a, A₀ a → A₁ a) → (∀ a, A₁ a → A' a ∨ a ∈ f ∨ H a = none) → (∀ a, A₁ a → ∃ o, H₁ a = some o) →
      f'.Nodup → (∀ a ∈ f', a ∈ f ∨ A' a ∨ H a = none) → (∀ a ∈ f', ¬ A₁ a) → (∀ a o, H a = some o → a ∉ f → H₁ a = some o) → Rp K H₁ (Bs A₁ (fup fp i (pre ++ (f' ++ post)))) v e f' →
      SI K A₀ A₁ σ H₁ ρ' (fup fp i (pre ++ (f' ++ post))) := by
  obtain ⟨d₀, h1, h2⟩ := getP_slot hg
  have key : ∀ {r : V}, look σ i = some r → Rp K H (Bs A' fp) r d₀ (fp i) → (∀ d', setAt d₀ p e = some d' → ∃ s, (s = Slot.ow d' ∨ s = Slot.mw d') ∧ ρ' = ρ.set i s) → i < ρ.length →
      ∃ f pre post, fp i = pre ++ (f ++ post) ∧ Rp K H (Bs A' fp) v d f ∧ ∀ {A₁ : Addr → Prop} {H₁ : Hp} {f' : List Addr}, (∀ a, A₀ a → A₁ a) → (∀ a, A₁ a → A' a ∨ a ∈ f ∨ H a = none) → (∀ a, A₁ a → ∃ o, H₁ a = some o) →
      f'.Nodup → (∀ a ∈ f', a ∈ f ∨ A' a ∨ H a = none) → (∀ a ∈ f', ¬ A₁ a) → (∀ a o, H a = some o → a ∉ f → H₁ a = some o) → Rp K H₁ (Bs A₁ (fup fp i (pre ++ (f' ++ post)))) v e f' →
      SI K A₀ A₁ σ H₁ ρ' (fup fp i (pre ++ (f' ++ post))) := by
    intro r hr rr hset hi
    obtain ⟨u, f, pre, post, k1, k2, k3, k4⟩ := rr.at h2
    rw [hr] at hw
    cases hw
    obtain rfl := hv.inj k1
    refine ⟨f, pre, post, k3, k2, fun {A₁ H₁ f'} g0 g1 g2 g3 g4 g5 g6 g7 => ?_⟩
    have nd := S.nd i
    rw [k3] at nd
    have there : ∀ a, a ∈ fp i → ∃ o, H a = some o := fun a h => (S.sl i).there a h
    have ndp : ∀ a, a ∈ pre ∨ a ∈ post → a ∉ f := fun a h hf => by
      rw [List.nodup_append] at nd
      obtain ⟨n1, n2, n3⟩ := nd
      rw [List.nodup_append] at n2
      obtain ⟨m1, m2, m3⟩ := n2
      rcases h with h | h
      · exact n3 a h a (List.mem_append_left _ hf) rfl
      · exact m3 a hf a h rfl
    have inI : ∀ a, a ∈ pre ∨ a ∈ post → a ∈ fp i := fun a h => by rw [k3]; rcases h with h | h <;> simp [h]
    have hB : ∀ a, Bs A₁ (fup fp i (pre ++ (f' ++ post))) a → Bs A' fp a ∨ H a = none := fun a b => by
      rcases b with b | ⟨j, b⟩
      · rcases g1 a b with z | z | z
        · exact .inl (.inl z)
        · exact .inl (.inr ⟨i, by rw [k3]; simp [z]⟩)
        · exact .inr z
      · by_cases ej : j = i
        · rw [ej, fup_same] at b
          have b' : a ∈ pre ∨ a ∈ f' ∨ a ∈ post := by simpa using b
          rcases b' with z | z | z
          · exact .inl (.inr ⟨i, inI a (.inl z)⟩)
          · rcases g4 a z with y | y | y
            · exact .inl (.inr ⟨i, by rw [k3]; simp [y]⟩)
            · exact .inl (.inl y)
            · exact .inr y
          · exact .inl (.inr ⟨i, inI a (.inr z)⟩)
        · rw [fup_ne ej] at b
          exact .inl (.inr ⟨j, b⟩)
    obtain ⟨d', hd, rd⟩ := k4 (H' := H₁) (B' := Bs A₁ (fup fp i (pre ++ (f' ++ post)))) (e' := e) (f' := f') (fun a o ea n => g6 a o ea fun hf => by
      rcases n with n | n
      · exact n (.inr ⟨i, by rw [k3]; simp [hf]⟩)
      · exact ndp a n hf) hB g7
    obtain ⟨s, hs', rfl⟩ := hset d' hd
    refine S.chg i (by rw [List.length_set]; exact S.len) (fun _ _ => rfl) (fun j hj => slot_set hj) g0 (fun a h => (g1 a h).elim .inl fun z => z.elim (fun z => .inr (.inl (by rw [k3]; simp [z]))) fun z => .inr (.inr z)) g2 ?_ (fun a h => ?_) (fun a h => ?_) (fun a o ea n => g6 a o ea fun hf => n (by rw [k3]; simp [hf])) ?_
    · -- no address twice
      rw [List.nodup_append] at nd ⊢
      obtain ⟨n1, n2, n3⟩ := nd
      rw [List.nodup_append] at n2
      obtain ⟨m1, m2, m3⟩ := n2
      have out : ∀ a, a ∈ pre ∨ a ∈ post → a ∉ f' := fun a h hf' => by
        rcases g4 a hf' with z | z | z
        · exact ndp a h z
        · exact S.na i a (inI a h) z
        · obtain ⟨o, eo⟩ := there a (inI a h)
          rw [eo] at z; cases z
      refine ⟨n1, ?_, fun a ha b hb e => ?_⟩
      · rw [List.nodup_append]
        exact ⟨g3, m2, fun a ha b hb e => out b (.inr hb) (by rw [← e]; exact ha)⟩
      · subst e
        rcases List.mem_append.mp hb with hb | hb
        · exact out a (.inl ha) hb
        · exact n3 a ha a (List.mem_append_right _ hb) rfl
    · have h' : a ∈ pre ∨ a ∈ f' ∨ a ∈ post := by simpa using h
      rcases h' with z | z | z
      · exact .inl (inI a (.inl z))
      · rcases g4 a z with y | y | y
        · exact .inl (by rw [k3]; simp [y])
        · exact .inr (.inl y)
        · exact .inr (.inr y)
      · exact .inl (inI a (.inr z))
    · have h' : a ∈ pre ∨ a ∈ f' ∨ a ∈ post := by simpa using h
      have old : a ∈ pre ∨ a ∈ post → ¬ A₁ a := fun z hA => by
        rcases g1 a hA with y | y | y
        · exact S.na i a (inI a z) y
        · exact ndp a z y
        · obtain ⟨o, eo⟩ := there a (inI a z)
          rw [eo] at y; cases y
      rcases h' with z | z | z
      · exact old (.inl z)
      · exact g5 a z
      · exact old (.inr z)
    · rw [slot_set_same hi, hr]
      rcases hs' with rfl | rfl
      · exact ⟨_, rfl, rd⟩
      · exact ⟨_, rfl, rd⟩
  unfold setP at hs
  cases es : ρ[i]? with
  | none => rw [es] at hs; cases hs
  | some s =>
    have hi := lt_of_get es
    have esl := slot_get es
    have so := S.sl i
    rw [esl] at so h1
    rw [es] at hs
    cases s with
    | ow d1 =>
      cases h1
      obtain ⟨r, hr, rr⟩ := so
      refine key hr rr (fun d' hd => ⟨.ow d', .inl rfl, ?_⟩) hi
      have : some (ρ.set i (.ow d')) = some ρ' := by rw [← hs]; simp [hd]
      exact (Option.some.inj this).symm
    | mw d1 =>
      cases h1
      obtain ⟨r, hr, rr⟩ := so
      refine key hr rr (fun d' hd => ⟨.mw d', .inr rfl, ?_⟩) hi
      have : some (ρ.set i (.mw d')) = some ρ' := by rw [← hs]; simp [hd]
      exact (Option.some.inj this).symm
    | un => cases hs
    | fz d1 => cases hs
    | bw d1 => cases hs
theorem OpdR.shrink {fp fp'} {v : V} {o : Opd} {q : List Addr} (r : OpdR K H (Bs A' fp) σ v o q) (h : ∀ a, Bs A' fp' a → Bs A' fp a) : OpdR K H (Bs A' fp') σ v o q := by
  have m : ∀ {v d q}, Rp K H (Bs A' fp) v d q → Rp K H (Bs A' fp') v d q := fun r => r.mono (fun _ _ e _ => e) fun a b => .inl (h a b)
  cases o with
  | fz d => exact ⟨r.1, m r.2⟩
  | ow d => exact m r
  | pt i p => exact r
/-- an operand is handed on for good -/
theorem alias_ok (S : SI K A₀ A' σ H ρ fp) {v : V} {o o' : Opd} {q : List Addr} (r : OpdR K H (Bs A' fp) σ v o q) (h : alias_ ρ o = some (o', ρ')) :
    ∃ fp', SI K A₀ A' σ H ρ' fp' ∧ (∀ a, Bs A' fp' a → Bs A' fp a) ∧ OpdR K H (Bs A' fp') σ v o' q ∧ (∀ i p, o' ≠ .pt i p) := by
  cases o with
  | fz d =>
    have e : some (Opd.fz d, ρ) = some (o', ρ') := h
    cases e
    exact ⟨fp, S, fun _ b => b, r, fun _ _ z => nomatch z⟩
  | ow d =>
    have e : some (Opd.ow d, ρ) = some (o', ρ') := h
    cases e
    exact ⟨fp, S, fun _ b => b, r, fun _ _ z => nomatch z⟩
  | pt i p =>
    obtain ⟨rfl, w, hw, hv⟩ := r
    cases p with
    | nil =>
      have ew : v = w := hv
      subst ew
      rw [alias_] at h
      cases es : ρ[i]? with
      | none => rw [es] at h; cases h
      | some s =>
        rw [es] at h
        have hi := lt_of_get es
        have so := S.sl i
        rw [slot_get es] at so
        cases s with
        | ow d =>
          have e : some (Opd.fz (freeze d), ρ.set i (.fz (freeze d))) = some (o', ρ') := h
          cases e
          obtain ⟨u, hu, ru⟩ := so
          rw [hw] at hu
          cases hu
          have sub : ∀ a, Bs A' (fup fp i []) a → Bs A' fp a ∧ a ∉ fp i := fun a b => by
            rcases b with b | ⟨j, b⟩
            · exact ⟨.inl b, fun z => S.na i a z b⟩
            · by_cases e : j = i
              · rw [e, fup_same] at b; cases b
              · rw [fup_ne e] at b
                exact ⟨.inr ⟨j, b⟩, fun z => e (S.dj j i a b z)⟩
          have rf := ru.freeze sub
          refine ⟨fup fp i [], ?_, fun a b => (sub a b).1, ⟨rfl, rf⟩, fun _ _ z => nomatch z⟩
          exact S.chg i (by rw [List.length_set]; exact S.len) (fun _ _ => rfl) (fun j hj => slot_set hj) S.sub (fun a b => .inl b) S.tr .nil (fun _ z => nomatch z) (fun _ z => nomatch z) (fun _ _ e _ => e)
            (by rw [slot_set_same hi, hw]; exact ⟨rfl, _, rfl, rf⟩)
        | un => cases h
        | fz d => cases h
        | bw d => cases h
        | mw d => cases h
    | cons s p =>
      rw [alias_] at h
      cases eg : getP ρ i (s :: p) with
      | none => rw [eg] at h; cases h
      | some d =>
        rw [eg] at h
        dsimp only at h
        cases es : setP ρ i (s :: p) (freeze d) with
        | none => rw [es] at h; cases h
        | some ρ2 =>
          rw [es] at h
          have e : some (Opd.fz (freeze d), ρ2) = some (o', ρ') := h
          cases e
          obtain ⟨f, pre, post, k1, k2, k3⟩ := S.putAt eg hw hv es
          have nd := S.nd i
          rw [k1, List.nodup_append] at nd
          obtain ⟨n1, n2, n3⟩ := nd
          rw [List.nodup_append] at n2
          obtain ⟨m1, m2, m3⟩ := n2
          have sub : ∀ a, Bs A' (fup fp i (pre ++ ([] ++ post))) a → Bs A' fp a ∧ a ∉ f := fun a b => by
            rcases b with b | ⟨j, b⟩
            · exact ⟨.inl b, fun z => S.na i a (by rw [k1]; simp [z]) b⟩
            · by_cases e : j = i
              · rw [e, fup_same] at b
                have b' : a ∈ pre ∨ a ∈ post := by simpa using b
                rcases b' with b' | b'
                · exact ⟨.inr ⟨i, by rw [k1]; simp [b']⟩, fun z => n3 a b' a (List.mem_append_left _ z) rfl⟩
                · exact ⟨.inr ⟨i, by rw [k1]; simp [b']⟩, fun z => m3 a z a b' rfl⟩
              · rw [fup_ne e] at b
                exact ⟨.inr ⟨j, b⟩, fun z => e (S.dj j i a b (by rw [k1]; simp [z]))⟩
          have rf := k2.freeze sub
          refine ⟨_, k3 (A₁ := A') (H₁ := H) (f' := []) S.sub (fun a b => .inl b) S.tr .nil (fun _ z => nomatch z) (fun _ z => nomatch z) (fun _ _ e _ => e) rf, fun a b => (sub a b).1, ⟨rfl, rf⟩, fun _ _ z => nomatch z⟩
/-- several operands -/
inductive OpdsR (K : PySem.W.Frag) (H : Hp) (B : Addr → Prop) (σ : L2.St) : List V → List Opd → List Addr → Prop
  | nil : OpdsR K H B σ [] [] []
  | cons {v : V} {o : Opd} {q : List Addr} {vs : List V} {os : List Opd} {Q : List Addr} : OpdR K H B σ v o q → OpdsR K H B σ vs os Q → OpdsR K H B σ (v :: vs) (o :: os) (q ++ Q)
theorem OpdsR.shrink {fp fp'} : ∀ {vs : List V} {os : List Opd} {Q : List Addr}, OpdsR K H (Bs A' fp) σ vs os Q → (∀ a, Bs A' fp' a → Bs A' fp a) → OpdsR K H (Bs A' fp') σ vs os Q
  | _, _, _, .nil, _ => .nil
  | _, _, _, .cons r t, h => .cons (r.shrink h) (t.shrink h)
theorem OpdR.val {v : V} {o : Opd} {q : List Addr} (r : OpdR K H B σ v o q) (h : ∀ i p, o ≠ .pt i p) : Rp K H B v o.val q := by
  cases o with
  | fz d => obtain ⟨rfl, r⟩ := r; exact r
  | ow d => exact r
  | pt i p => exact (h i p rfl).elim
theorem aliases_ok : ∀ {os : List Opd} {vs : List V} {Q : List Addr} {ρ : Env} {fp : Nat → List Addr} {ds : List D} {b : Bool} {ρ' : Env}, SI K A₀ A' σ H ρ fp → OpdsR K H (Bs A' fp) σ vs os Q → aliases ρ os = some (ds, b, ρ') →
    ∃ fp', SI K A₀ A' σ H ρ' fp' ∧ (∀ a, Bs A' fp' a → Bs A' fp a) ∧ RpL K H (Bs A' fp') vs ds Q ∧ (b = true → Q = [])
  | [], _, _, ρ, fp, ds, b, ρ', S, .nil, h => by
    have e : some ([], true, ρ) = some (ds, b, ρ') := h
    cases e
    exact ⟨fp, S, fun _ b => b, .nil, fun _ => rfl⟩
  | o :: os, _, _, ρ, fp, ds, b, ρ', S, .cons (v := v) (q := q) (vs := vs) (Q := Q) r t, h => by
    rw [aliases] at h
    cases e1 : alias_ ρ o with
    | none => rw [e1] at h; cases h
    | some x =>
      obtain ⟨o', ρ1⟩ := x
      rw [e1] at h
      obtain ⟨fp1, S1, s1, r1, n1⟩ := alias_ok S r e1
      dsimp only at h
      cases e2 : aliases ρ1 os with
      | none => rw [e2] at h; cases h
      | some y =>
        obtain ⟨ds1, b1, ρ2⟩ := y
        rw [e2] at h
        obtain ⟨fp2, S2, s2, r2, n2⟩ := aliases_ok S1 (t.shrink s1) e2
        dsimp only at h
        simp only [Option.some.injEq, Prod.mk.injEq] at h
        obtain ⟨rfl, hb0, rfl⟩ := h
        refine ⟨fp2, S2, fun a b => s1 a (s2 a b), .cons ((r1.shrink s2).val n1) r2, fun hb => ?_⟩
        rw [← hb0] at hb
        cases o' with
        | fz d => rw [r1.1, n2 hb] <;> rfl
        | ow d => cases hb
        | pt i p => cases hb
end
end Rw

set_option Elab.async false
set_option linter.all false
set_option maxRecDepth 100000
/-! RwD: the operations' rules, by values. -/
namespace Rw
open PySem L2
theorem line_eq : line = sizeLine := by rw [sizeLine_eq] <;> rfl
section
variable {K : PySem.W.Frag} {H H' : Hp} {B : Addr → Prop}
/-- a result: what is new of it, all else kept -/
def Res (K : PySem.W.Frag) (H : Hp) (B : Addr → Prop) (v : V) (r : D) (H' : Hp) : Prop :=
  ∃ q, Rp K H' (fun a => B a ∨ a ∈ q) v r q ∧ q.Nodup ∧ (∀ a ∈ q, H a = none) ∧ ∀ a o, H a = some o → H' a = some o
/-- what an operation may lean on: its parts are frozen -/
def Sh (d : D) (q : List Addr) : Prop := q = [] ∨ sub1 d = true
theorem Res.same {v : V} {r : D} (h : Rp K H B v r []) : Res K H B v r H :=
  ⟨[], h.mono (fun _ _ e _ => e) fun a b => .inl (b.elim id fun z => nomatch z), .nil, (fun _ z => nomatch z), fun _ _ e => e⟩
theorem upd_keep {p : Addr} {o : HO} (h : H p = none) : ∀ a u, H a = some u → upd H p o a = some u := fun a u e => by
  rw [upd_ne (ne_of_none e h)]; exact e
theorem Res.lst {p : Addr} {vs : List V} {ds : List D} (h : H p = none) (r : RpL K H B vs ds []) : Res K H B (.ref p) (.lst true ds) (upd H p (.lst vs)) := by
  refine ⟨[p], .lo upd_same (r.mono (fun a o e _ => upd_keep h a o e) fun a b => ?_), by simp, fun a z => ?_, upd_keep h⟩
  · rcases b with b | b
    · exact .inl b
    · have : a = p := by simpa using b
      rw [this]; exact .inr h
  · have : a = p := by simpa using z
    rw [this]; exact h
theorem Res.tup {p : Addr} {vs : List V} {ds : List D} (hB : ∀ a, B a → ∃ o, H a = some o) (h : H p = none) (r : RpL K H B vs ds []) : Res K H B (.ref p) (.tup ds) (upd H p (.tup vs)) := by
  refine ⟨[], .tup (.inl ⟨.inl upd_same, fun b => ?_⟩) (r.mono (fun a o e _ => upd_keep h a o e) fun a b => .inl (b.elim id fun z => nomatch z)), .nil, fun _ z => (nomatch z), upd_keep h⟩
  rcases b with b | b
  · obtain ⟨o, e⟩ := hB p b
    rw [h] at e; cases e
  · cases b
theorem Rp.parts {x : V} {o : Bool} {ds : List D} {q : List Addr} (r : Rp K H B x (.lst o ds) q) (s : Sh (.lst o ds) q) : ∃ p vs, x = .ref p ∧ H p = some (.lst vs) ∧ RpL K H B vs ds [] := by
  cases r with
  | lf t l => exact ⟨_, _, rfl, t.1, l⟩
  | lo t l =>
    rcases s with s | s
    · cases s
    · rw [show _ = [] from l.fr s] at l
      exact ⟨_, _, rfl, t, l⟩
theorem Rp.partsT {x : V} {ds : List D} {q : List Addr} (r : Rp K H B x (.tup ds) q) (s : Sh (.tup ds) q) : ∃ p vs, x = .ref p ∧ SqT K H p vs ∧ RpL K H B vs ds [] := by
  cases r with
  | tup t l =>
    rcases s with s | s
    · subst s; exact ⟨_, _, rfl, t.sq, l⟩
    · rw [show _ = [] from l.fr s] at l
      exact ⟨_, _, rfl, t.sq, l⟩
theorem Rp.shT {x : V} {ds : List D} {q : List Addr} (r : Rp K H B x (.tup ds) q) (s : Sh (.tup ds) q) : Rp K H B x (.tup ds) [] := by
  rcases s with s | s
  · rw [s] at r; exact r
  · have := r.fr (show isFr (.tup ds) = true from s)
    rw [this] at r; exact r
theorem Rp.intI {x : V} {i : Int} {q : List Addr} (r : Rp K H B x (.int i) q) : x = .int i := by cases r; rfl
theorem Rp.blI {x : V} {i : Bool} {q : List Addr} (r : Rp K H B x (.bl i) q) : x = .bl i := by cases r; rfl
theorem Rp.strI {x : V} {i : Sg} {q : List Addr} (r : Rp K H B x (.str i) q) : x = .str ⟨i.toArray⟩ := by cases r; rfl
theorem Rp.nonI {x : V} {q : List Addr} (r : Rp K H B x .non q) : x = .non := by cases r; rfl
theorem str_len (x : Sg) : (⟨x.toArray⟩ : Str).length = x.length := by simp [Str.length]
theorem str_app (x y : Sg) : (⟨x.toArray⟩ : Str) ++ ⟨y.toArray⟩ = ⟨(x ++ y).toArray⟩ := by
  show Str.append _ _ = _
  simp [Str.append]
theorem RpL.nil_iff {vs ds q} (r : RpL K H B vs ds q) : vs = [] ↔ ds = [] := by
  cases r <;> simp
def rBin (K : PySem.W.Frag) (op : Operator) : R2 := fun x y H Q => ∃ (B : Addr → Prop) (d e : D) (q1 q2 : List Addr) (r : D), (∀ a, B a → ∃ o, H a = some o) ∧ Rp K H B x d q1 ∧ Rp K H B y e q2 ∧ Sh d q1 ∧ Sh e q2 ∧ bop op d e = some r ∧ ∀ v H', Res K H B v r H' → Q v H'
end
section
variable {X : Cx}
theorem OpR.imp {f : Value → Value → Sem Value} {r r' : R2} (h : OpR X f r) (i : ∀ x y H Q, r' x y H Q → r x y H Q) : OpR X f r' := fun pins s σ H x y v u Q I rx ry q => h pins s σ H x y v u Q I rx ry (i x y H Q q)
theorem foldl_app (x : Sg) : ∀ (n : Nat) (acc : Sg), List.foldl (fun (a b : Array Nat) => a ++ b) acc.toArray (List.replicate n x.toArray) = (acc ++ (List.replicate n x).flatten).toArray
  | 0, acc => by simp
  | n + 1, acc => by
    rw [List.replicate_succ, List.foldl_cons, List.replicate_succ, List.flatten_cons]
    have : acc.toArray ++ x.toArray = (acc ++ x).toArray := by simp
    rw [this, foldl_app x n, List.append_assoc]
theorem txt_mul (x : Sg) (k : Int) : Txt.mul ⟨x.toArray⟩ k = ⟨((List.replicate k.toNat x).flatten).toArray⟩ := by
  unfold Txt.mul
  by_cases h : k < 1
  · rw [if_pos h]
    have : k.toNat = 0 := by omega
    rw [this]
    rfl
  · rw [if_neg h]
    split
    · rename_i h2
      rw [Bool.or_eq_true] at h2
      rcases h2 with h2 | h2
      · have : k = 1 := by simpa using h2
        subst this
        simp
      · have : x.length = 0 := by simpa [Str.length] using h2
        have : x = [] := List.eq_nil_of_length_eq_zero this
        subst this
        simp
    · have := foldl_app x k.toNat []
      simp only [List.nil_append] at this
      exact congrArg Str.mk this
theorem mul_ok {x : Sg} {k : Int} (h : x.length * k.toNat ≤ line) (h1 : k < 1000000) (h2 : -1000000 < k) : MulOk ⟨x.toArray⟩ k := by
  refine ⟨?_, fun h3 h4 => ?_, fun h3 h4 => ?_⟩
  · rw [decide_eq_false (by omega), decide_eq_false (by omega)] <;> rfl
  · rw [str_len]
    have hk : 0 < k := by omega
    have e : ((x.length * k.toNat : Nat) : Int) = (x.length : Int) * k := by
      rw [Int.natCast_mul, Int.toNat_of_nonneg (by omega)]
    have : (x.length : Int) ≤ (2 ^ 63 - 1) / k := by
      rw [Int.le_ediv_iff_mul_le hk, ← e]
      unfold line at h
      omega
    omega
  · rw [str_len]
    rw [line_eq] at h
    exact decide_eq_false (by omega)
theorem small_iff {i : Int} (h : small i = true) : -(2 ^ 64) < i ∧ i < 2 ^ 64 := of_decide_eq_true h
theorem op_bin (op : Operator) : OpR X (binaryOp op) (rBin X.K op) := by
  intro pins s σ H x y v u Q I rx ry ⟨B, d, e, q1, q2, r, hB, r1, r2, s1, s2, hop, hQ⟩
  unfold bop at hop
  split at hop
  · -- int + int
    cases hop
    rw [r1.intI] at rx; rw [r2.intI] at ry
    exact op_add pins s σ H _ _ v u Q I rx ry ⟨_, _, rfl, rfl, hQ _ _ (.same (.int _))⟩
  · cases hop
    rw [r1.intI] at rx; rw [r2.intI] at ry
    exact op_sub pins s σ H _ _ v u Q I rx ry ⟨_, _, rfl, rfl, hQ _ _ (.same (.int _))⟩
  · split at hop
    · rename_i hs
      cases hop
      rw [r1.intI] at rx; rw [r2.intI] at ry
      refine op_mul pins s σ H _ _ v u Q I rx ry ⟨_, _, rfl, rfl, ?_, hQ _ _ (.same (.int _))⟩
      rw [Bool.or_eq_true] at hs
      exact hs.elim (fun h => .inl (small_iff h)) fun h => .inr (small_iff h)
    · cases hop
  · split at hop
    · rename_i hs
      cases hop
      rw [r1.intI] at rx; rw [r2.intI] at ry
      exact op_fdiv pins s σ H _ _ v u Q I rx ry ⟨_, _, rfl, rfl, hs, hQ _ _ (.same (.int _))⟩
    · cases hop
  · split at hop
    · rename_i hs
      cases hop
      rw [r1.intI] at rx; rw [r2.intI] at ry
      exact op_mod pins s σ H _ _ v u Q I rx ry ⟨_, _, rfl, rfl, hs, hQ _ _ (.same (.int _))⟩
    · cases hop
  · split at hop
    · rename_i hs
      cases hop
      rw [r1.intI] at rx; rw [r2.intI] at ry
      refine op_pow pins s σ H _ _ v u Q I rx ry ⟨_, _, rfl, rfl, ⟨hs.1, by omega, ?_⟩, hQ _ _ (.same (.int _))⟩
      have := small_iff hs.2.2
      omega
    · cases hop
  · split at hop
    · rename_i hs
      cases hop
      rw [r1.strI] at rx; rw [r2.strI] at ry
      refine op_add_str pins s σ H _ _ v u Q I rx ry ⟨_, _, rfl, rfl, by rw [str_len, str_len, ← line_eq]; exact hs, ?_⟩
      rw [str_app]
      exact hQ _ _ (.same (.str _))
    · cases hop
  · split at hop
    · rename_i hs
      cases hop
      rw [r1.strI] at rx; rw [r2.intI] at ry
      obtain ⟨t, rfl⟩ := rx
      obtain ⟨t', rfl⟩ := ry
      refine SB.mul (mul_ok hs.1 hs.2.1 hs.2.2) fun t' k => ?_
      rw [txt_mul]
      exact ⟨.str _, H, I.tok _, ⟨_, rfl⟩, hQ _ _ (.same (.str _))⟩
    · cases hop
  · split at hop
    · rename_i hs
      cases hop
      have f1 := r1.shT s1
      have f2 := r2.shT s2
      obtain ⟨p, vs, rfl, t1, l1⟩ := r1.partsT s1
      obtain ⟨p', vs', rfl, t2, l2⟩ := r2.partsT s2
      refine op_catA pins s σ H _ _ v u Q I rx ry ⟨_, _, vs, vs', rfl, rfl, t1, t2, by rw [l1.len, l2.len, ← line_eq]; exact hs, fun e => ?_, fun _ e => ?_, fun _ _ p hp => ?_⟩
      · rw [l1.nil_iff] at e
        subst e
        exact hQ _ _ (.same f2)
      · rw [l2.nil_iff] at e
        subst e
        rw [List.append_nil] at hQ
        exact hQ _ _ (.same f1)
      · have := l1.app l2
        exact hQ _ _ (.tup hB hp this)
    · cases hop
  · split at hop
    · rename_i hs
      cases hop
      obtain ⟨p, vs, rfl, t1, l1⟩ := r1.parts s1
      obtain ⟨p', vs', rfl, t2, l2⟩ := r2.parts s2
      refine op_cat pins s σ H _ _ v u Q I rx ry ⟨_, _, vs, vs', rfl, rfl, t1, t2, by rw [l1.len, l2.len, ← line_eq]; exact hs, fun p hp => ?_⟩
      have := l1.app l2
      exact hQ _ _ (.lst hp this)
    · cases hop
  · cases hop
/-! ### comparisons -/
mutual
def toPy : D → PyData
  | .non => .none
  | .bl b => .bool b
  | .int i => .int i
  | .str x => .str ⟨x.toArray⟩
  | .tup xs => .tuple (toPyL xs)
  | .lst _ xs => .list (toPyL xs)
  | _ => .dict []
def toPyL : List D → List PyData
  | [] => []
  | x :: t => toPy x :: toPyL t
end
theorem str_eq {x y : Sg} : ((⟨x.toArray⟩ : Str) == ⟨y.toArray⟩) = (x == y) := by
  by_cases h : x = y
  · subst h; simp
  · have : ¬ (⟨x.toArray⟩ : Str) = ⟨y.toArray⟩ := fun e => h (by have := congrArg Str.cps e; simpa using this)
    rw [beq_eq_false_iff_ne.mpr h, beq_eq_false_iff_ne.mpr this]
mutual
theorem eqv_toPy : ∀ (n m : Nat) (a b : D), lay n a = true → lay m b = true → PyData.eqv (toPy a) (toPy b) = eqD a b
  | n, m, a, b, ha, hb => by
    cases a <;> cases b <;> first
      | (simp only [toPy, PyData.eqv, eqD]; done)
      | (simp only [toPy, PyData.eqv, eqD, str_eq]; done)
      | (cases n <;> cases m <;> simp [lay] at ha hb; simp only [toPy, PyData.eqv, eqD]; exact eqv_toPyL _ _ _ _ ha hb)
      | (cases n <;> simp [lay] at ha; done)
      | (cases m <;> simp [lay] at hb; done)
  termination_by n m a b => (sizeOf a, 0)
theorem eqv_toPyL : ∀ (n m : Nat) (a b : List D), layL n a = true → layL m b = true → PyData.eqvAll (toPyL a) (toPyL b) = eqL a b
  | _, _, [], [], _, _ => rfl
  | _, _, [], _ :: _, _, _ => rfl
  | _, _, _ :: _, [], _, _ => rfl
  | n, m, x :: s, y :: t, ha, hb => by
    rw [layL, Bool.and_eq_true] at ha hb
    simp only [toPyL, PyData.eqvAll, eqL]
    rw [eqv_toPy n m x y ha.1 hb.1, eqv_toPyL n m s t ha.2 hb.2]
  termination_by n m a b => (sizeOf a, 1)
end
mutual
theorem lay_can : ∀ (n : Nat) (a : D), lay n a = true → (toPy a).canLay0 = true ∧ (toPy a).depth ≤ n
  | n, .non, _ => ⟨rfl, Nat.zero_le _⟩
  | n, .bl _, _ => ⟨rfl, Nat.zero_le _⟩
  | n, .int _, _ => ⟨rfl, Nat.zero_le _⟩
  | n, .str x, h => by
    refine ⟨?_, Nat.zero_le _⟩
    cases n <;>
    · rw [lay] at h
      show PyData.strOk _ = true
      unfold PyData.strOk
      rw [List.all_eq_true] at h
      rw [Array.all_eq_true]
      intro i hi
      have := h ((x.toArray)[i]) (by simp)
      simpa using this
  | 0, .tup _, h => by simp [lay] at h
  | 0, .lst _ _, h => by simp [lay] at h
  | n + 1, .tup xs, h => by
    obtain ⟨h1, h2⟩ := lay_canL n xs h
    exact ⟨h1, Nat.succ_le_succ h2⟩
  | n + 1, .lst _ xs, h => by
    obtain ⟨h1, h2⟩ := lay_canL n xs h
    exact ⟨h1, Nat.succ_le_succ h2⟩
  | 0, .dct .., h => by simp [lay] at h
  | n + 1, .dct .., h => by simp [lay] at h
  | 0, .obj .., h => by simp [lay] at h
  | n + 1, .obj .., h => by simp [lay] at h
  | 0, .scr _, h => by simp [lay] at h
  | n + 1, .scr _, h => by simp [lay] at h
theorem lay_canL : ∀ (n : Nat) (a : List D), layL n a = true → PyData.canLayAll0 (toPyL a) = true ∧ PyData.depthAll (toPyL a) ≤ n
  | n, [], _ => ⟨rfl, Nat.zero_le _⟩
  | n, x :: t, h => by
    rw [layL, Bool.and_eq_true] at h
    obtain ⟨h1, h2⟩ := lay_can n x h.1
    obtain ⟨h3, h4⟩ := lay_canL n t h.2
    refine ⟨?_, ?_⟩
    · show ((toPy x).canLay0 && PyData.canLayAll0 (toPyL t)) = true
      rw [h1, h3] <;> rfl
    · show max _ _ ≤ n
      omega
end
theorem lay_shaped {n : Nat} {a : D} (h : lay n a = true) (hn : n ≤ 64) : SeqAt.shaped (toPy a) = true := by
  obtain ⟨h1, h2⟩ := lay_can n a h
  unfold SeqAt.shaped
  rw [h1, decide_eq_true (Nat.le_trans h2 hn)] <;> rfl
mutual
theorem Rp.dp {K : PySem.W.Frag} {H : Hp} {B : Addr → Prop} : ∀ {n : Nat} {v : V} {d : D} {q : List Addr}, Rp K H B v d q → lay n d = true → Dp K H v (toPy d)
  | _, _, _, _, .non, _ => .non
  | _, _, _, _, .bl b, _ => .bl b
  | _, _, _, _, .int i, _ => .int i
  | _, _, _, _, .str x, _ => .str _
  | 0, _, _, _, .scr t, h => by simp [lay] at h
  | n + 1, _, _, _, .scr t, h => by simp [lay] at h
  | 0, _, _, _, .tup t l, h => by simp [lay] at h
  | n + 1, _, _, _, .tup t l, h => .tup t.sq (RpL.dp (n := n) l h)
  | 0, _, _, _, .lf t l, h => by simp [lay] at h
  | n + 1, _, _, _, .lf t l, h => .lst (.of t.1) (RpL.dp (n := n) l h)
  | 0, _, _, _, .lo t l, h => by simp [lay] at h
  | n + 1, _, _, _, .lo t l, h => .lst (.of t) (RpL.dp (n := n) l h)
theorem RpL.dp {K : PySem.W.Frag} {H : Hp} {B : Addr → Prop} : ∀ {n : Nat} {v : List V} {d : List D} {q : List Addr}, RpL K H B v d q → layL n d = true → DpAll K H v (toPyL d)
  | _, _, _, _, .nil, _ => .nil
  | n, _, _, _, .cons r l, h => by
    rw [layL, Bool.and_eq_true] at h
    exact .cons (Rp.dp (n := n) r h.1) (RpL.dp (n := n) l h.2)
end
def rCmpE (K : PySem.W.Frag) (neg : Bool) : R2 := fun x y H Q => ∃ (B : Addr → Prop) (d e : D) (q1 q2 : List Addr), Rp K H B x d q1 ∧ Rp K H B y e q2 ∧ eqOk d e = true ∧ Q (.bl (if neg then !eqD d e else eqD d e)) H
theorem decV {a b : V} {k : Bool} (h : decide (a = b) = k) {Q : VK} {H : Hp} (q : Q (.bl k) H) : Q (.bl (decide (a = b))) H := by rw [h]; exact q
theorem dec_strV {x y : Sg} : decide (V.str ⟨x.toArray⟩ = V.str ⟨y.toArray⟩) = (x == y) := by
  rw [L2.dec_str, str_eq]
theorem op_eqX (hu : X.A.units + 64 < cLine) : OpR X (compareOp .Eq) (rCmpE X.K false) := by
  intro pins s σ H x y v u Q I rx ry ⟨B, d, e, q1, q2, r1, r2, ok, hQ⟩
  unfold eqOk at ok
  rw [Bool.or_eq_true] at ok
  rcases ok with ok | ok
  · rw [Bool.and_eq_true] at ok
    have dat : ∀ {d e : D}, Rp X.K H B x d q1 → Rp X.K H B y e q2 → lay 60 d = true → lay 60 e = true → Q (.bl (eqD d e)) H → wpAny (model X.prog X.w) X.A (compareOp .Eq v u) (EP X pins σ Q) X.xe s := fun r1 r2 l1 l2 hQ =>
      op_eqD hu pins s σ H x y v u Q I rx ry ⟨_, _, r1.dp l1, r2.dp l2, lay_shaped l1 (by decide), lay_shaped l2 (by decide), by rw [eqv_toPy _ _ _ _ l1 l2]; exact hQ⟩
    have flt : ∀ {k : Bool}, scal x y = true → decide (x = y) = k → Q (.bl k) H → wpAny (model X.prog X.w) X.A (compareOp .Eq v u) (EP X pins σ Q) X.xe s := fun h1 h2 h3 =>
      op_eq pins s σ H x y v u Q I rx ry ⟨h1, by rw [h2]; exact h3⟩
    cases d <;> cases e <;> first
      | (simp [flat] at ok; done)
      | exact dat r1 r2 rfl rfl hQ
      | (rw [r1.strI] at flt; rw [r2.strI] at flt; exact flt rfl dec_strV hQ)
      | (rw [r1.strI] at flt; cases r2; exact flt rfl (by simp [eqD]) hQ)
      | (rw [r2.strI] at flt; cases r1; exact flt rfl (by simp [eqD]) hQ)
  · rw [Bool.and_eq_true] at ok
    exact op_eqD hu pins s σ H x y v u Q I rx ry ⟨_, _, r1.dp ok.1, r2.dp ok.2, lay_shaped ok.1 (by decide), lay_shaped ok.2 (by decide), by rw [eqv_toPy _ _ _ _ ok.1 ok.2]; exact hQ⟩
theorem op_neX (hu : X.A.units + 64 < cLine) : OpR X (compareOp .NotEq) (rCmpE X.K true) := by
  intro pins s σ H x y v u Q I rx ry ⟨B, d, e, q1, q2, r1, r2, ok, hQ⟩
  replace hQ : Q (.bl (!eqD d e)) H := hQ
  unfold eqOk at ok
  rw [Bool.or_eq_true] at ok
  rcases ok with ok | ok
  · rw [Bool.and_eq_true] at ok
    have dat : ∀ {d e : D}, Rp X.K H B x d q1 → Rp X.K H B y e q2 → lay 60 d = true → lay 60 e = true → Q (.bl (!eqD d e)) H → wpAny (model X.prog X.w) X.A (compareOp .NotEq v u) (EP X pins σ Q) X.xe s := fun r1 r2 l1 l2 hQ =>
      op_neD hu pins s σ H x y v u Q I rx ry ⟨_, _, r1.dp l1, r2.dp l2, lay_shaped l1 (by decide), lay_shaped l2 (by decide), by rw [eqv_toPy _ _ _ _ l1 l2]; exact hQ⟩
    have flt : ∀ {k : Bool}, scal x y = true → decide (x = y) = k → Q (.bl (!k)) H → wpAny (model X.prog X.w) X.A (compareOp .NotEq v u) (EP X pins σ Q) X.xe s := fun h1 h2 h3 =>
      op_ne pins s σ H x y v u Q I rx ry ⟨h1, by rw [h2]; exact h3⟩
    cases d <;> cases e <;> first
      | (simp [flat] at ok; done)
      | exact dat r1 r2 rfl rfl hQ
      | (rw [r1.strI] at flt; rw [r2.strI] at flt; exact flt rfl dec_strV hQ)
      | (rw [r1.strI] at flt; cases r2; exact flt rfl (by simp [eqD]) hQ)
      | (rw [r2.strI] at flt; cases r1; exact flt rfl (by simp [eqD]) hQ)
  · rw [Bool.and_eq_true] at ok
    exact op_neD hu pins s σ H x y v u Q I rx ry ⟨_, _, r1.dp ok.1, r2.dp ok.2, lay_shaped ok.1 (by decide), lay_shaped ok.2 (by decide), by rw [eqv_toPy _ _ _ _ ok.1 ok.2]; exact hQ⟩
end
end Rw

set_option Elab.async false
set_option linter.all false
set_option maxRecDepth 100000
/-! RwE: more operations' rules, by values: comparisons, indices, slices, built-ins, methods. -/
namespace Rw
open PySem PySem.Spec PyProof.Rows L2
def copOf : Cop → CmpOp
  | .eq => .Eq | .ne => .NotEq | .lt => .Lt | .le => .LtE | .gt => .Gt | .ge => .GtE | .is => .Is | .isnot => .IsNot | .isin => .In | .notin => .NotIn
section
variable {K : PySem.W.Frag} {H H' : Hp} {B : Addr → Prop}
theorem Rp.flatV {v d q} (r : Rp K H B v d q) (h : flat d = true) : L2.flatV v = true := by cases r <;> simp [flat] at h <;> rfl
theorem RpL.flatV {vs ds q} (r : RpL K H B vs ds q) (h : ds.all flat = true) : vs.all L2.flatV = true := by
  induction ds generalizing vs q with
  | nil => cases r; rfl
  | cons d ds ih =>
    cases r with
    | cons r l =>
      rw [List.all_cons, Bool.and_eq_true] at h
      rw [List.all_cons, r.flatV h.1, ih l h.2] <;> rfl
theorem eqV_eqD {v w : V} {d e : D} {q q' : List Addr} (r : Rp K H B v d q) (s : Rp K H B w e q') (hd : flat d = true) (he : flat e = true) : eqV v w = eqD d e := by
  cases r <;> cases s <;> simp [flat] at hd he <;> first | rfl | exact str_eq | (simp only [eqV, eqD])
theorem inV_inL {v : V} {d : D} {q : List Addr} (r : Rp K H B v d q) (hd : flat d = true) : ∀ {ws : List V} {es : List D} {q' : List Addr}, RpL K H B ws es q' → es.all flat = true → inV v ws = inL d es
  | _, _, _, .nil, _ => rfl
  | _, _, _, .cons s l, h => by
    rw [List.all_cons, Bool.and_eq_true] at h
    have := inV_inL r hd l h.2
    unfold inV at this ⊢
    rw [List.any_cons, this, inL, eqV_eqD s r h.1 hd]
def rCmp (K : PySem.W.Frag) (c : Cop) : R2 := fun x y H Q => ∃ (B : Addr → Prop) (d e : D) (q1 q2 : List Addr) (k : Bool), Rp K H B x d q1 ∧ Rp K H B y e q2 ∧ cmpV c d e = some k ∧ Q (.bl k) H
end
section
variable {X : Cx}
theorem one_sign (c : Nat) : (⟨[c].toArray⟩ : Str) = ⟨#[c]⟩ := rfl
theorem op_inX : OpR X (compareOp .In) (fun x y H Q => ∃ (B : Addr → Prop) (d e : D) (q1 q2 : List Addr) (k : Bool), Rp X.K H B x d q1 ∧ Rp X.K H B y e q2 ∧ isIn d e = some k ∧ Q (.bl k) H) := by
  intro pins s σ H x y v u Q I rx ry ⟨B, d, e, q1, q2, k, r1, r2, hk, hQ⟩
  unfold isIn at hk
  split at hk
  · rename_i c z
    cases hk
    rw [r1.strI] at rx; rw [r2.strI] at ry
    exact op_in_sign pins s σ H _ _ v u Q I rx ry ⟨c, _, rfl, rfl, by simpa using hQ⟩
  · split at hk
    · rename_i hs
      cases hk
      have hin : ∀ vs q, RpL X.K H B vs _ q → inV x vs = inL d _ := fun vs q l => inV_inL r1 hs.1 l hs.2
      cases r2 with
      | lf t l => exact op_in_seq pins s σ H _ _ v u Q I rx ry ⟨_, _, rfl, .inl (.of t.1), r1.flatV hs.1, l.flatV hs.2, by rw [hin _ _ l]; exact hQ⟩
      | lo t l => exact op_in_seq pins s σ H _ _ v u Q I rx ry ⟨_, _, rfl, .inl (.of t), r1.flatV hs.1, l.flatV hs.2, by rw [hin _ _ l]; exact hQ⟩
    · cases hk
  · split at hk
    · rename_i hs
      cases hk
      cases r2 with
      | tup t l => exact op_in_seq pins s σ H _ _ v u Q I rx ry ⟨_, _, rfl, .inr t.sq, r1.flatV hs.1, l.flatV hs.2, by rw [inV_inL r1 hs.1 l hs.2]; exact hQ⟩
    · cases hk
  · cases hk
theorem op_notinX : OpR X (compareOp .NotIn) (fun x y H Q => ∃ (B : Addr → Prop) (d e : D) (q1 q2 : List Addr) (k : Bool), Rp X.K H B x d q1 ∧ Rp X.K H B y e q2 ∧ isIn d e = some k ∧ Q (.bl (!k)) H) := by
  intro pins s σ H x y v u Q I rx ry ⟨B, d, e, q1, q2, k, r1, r2, hk, hQ⟩
  unfold isIn at hk
  split at hk
  · rename_i c z
    cases hk
    rw [r1.strI] at rx; rw [r2.strI] at ry
    exact op_notIn_sign pins s σ H _ _ v u Q I rx ry ⟨c, _, rfl, rfl, by simpa using hQ⟩
  · split at hk
    · rename_i hs
      cases hk
      have hin : ∀ vs q, RpL X.K H B vs _ q → inV x vs = inL d _ := fun vs q l => inV_inL r1 hs.1 l hs.2
      cases r2 with
      | lf t l => exact op_notIn_seq pins s σ H _ _ v u Q I rx ry ⟨_, _, rfl, .inl (.of t.1), r1.flatV hs.1, l.flatV hs.2, by rw [hin _ _ l]; exact hQ⟩
      | lo t l => exact op_notIn_seq pins s σ H _ _ v u Q I rx ry ⟨_, _, rfl, .inl (.of t), r1.flatV hs.1, l.flatV hs.2, by rw [hin _ _ l]; exact hQ⟩
    · cases hk
  · split at hk
    · rename_i hs
      cases hk
      cases r2 with
      | tup t l => exact op_notIn_seq pins s σ H _ _ v u Q I rx ry ⟨_, _, rfl, .inr t.sq, r1.flatV hs.1, l.flatV hs.2, by rw [inV_inL r1 hs.1 l hs.2]; exact hQ⟩
    · cases hk
  · cases hk
theorem op_cmp (hu : X.A.units + 64 < cLine) (c : Cop) : OpR X (compareOp (copOf c)) (rCmp X.K c) := by
  intro pins s σ H x y v u Q I rx ry ⟨B, d, e, q1, q2, k, r1, r2, hk, hQ⟩
  unfold cmpV at hk
  split at hk
  · split at hk
    · rename_i hs; cases hk
      exact op_eqX hu pins s σ H x y v u Q I rx ry ⟨B, _, _, q1, q2, r1, r2, hs, hQ⟩
    · cases hk
  · split at hk
    · rename_i hs; cases hk
      exact op_neX hu pins s σ H x y v u Q I rx ry ⟨B, _, _, q1, q2, r1, r2, hs, hQ⟩
    · cases hk
  · cases hk; rw [r1.intI] at rx; rw [r2.intI] at ry
    exact op_lt pins s σ H _ _ v u Q I rx ry ⟨_, _, rfl, rfl, hQ⟩
  · cases hk; rw [r1.intI] at rx; rw [r2.intI] at ry
    exact op_le pins s σ H _ _ v u Q I rx ry ⟨_, _, rfl, rfl, hQ⟩
  · cases hk; rw [r1.intI] at rx; rw [r2.intI] at ry
    exact op_gt pins s σ H _ _ v u Q I rx ry ⟨_, _, rfl, rfl, hQ⟩
  · cases hk; rw [r1.intI] at rx; rw [r2.intI] at ry
    exact op_ge pins s σ H _ _ v u Q I rx ry ⟨_, _, rfl, rfl, hQ⟩
  · cases hk; rw [r2.nonI] at ry
    refine op_isN pins s σ H _ _ v u Q I rx ry ⟨rfl, ?_⟩
    cases r1 <;> exact hQ
  · cases hk; rw [r2.nonI] at ry
    refine op_notN pins s σ H _ _ v u Q I rx ry ⟨rfl, ?_⟩
    cases r1 <;> exact hQ
  · cases hk; rw [r1.blI] at rx; rw [r2.blI] at ry
    refine op_isBl pins s σ H _ _ v u Q I rx ry ⟨_, _, rfl, rfl, ?_⟩
    rw [← Bool.beq_eq_decide_eq]; exact hQ
  · cases hk; rw [r1.blI] at rx; rw [r2.blI] at ry
    refine op_notBl pins s σ H _ _ v u Q I rx ry ⟨_, _, rfl, rfl, ?_⟩
    rw [← Bool.beq_eq_decide_eq]; exact hQ
  · exact op_inX pins s σ H x y v u Q I rx ry ⟨B, _, _, q1, q2, k, r1, r2, hk, hQ⟩
  · cases e : isIn d e with
    | none => rw [e] at hk; cases hk
    | some k0 =>
      rw [e] at hk
      cases hk
      exact op_notinX pins s σ H x y v u Q I rx ry ⟨B, _, _, q1, q2, k0, r1, r2, e, hQ⟩
  · cases hk
/-! ### places -/
theorem ixN_eq (n : Nat) (i : Int) : ixN n i = L2.ixN n i := rfl
/-- what comes of a[i]: a frozen part, or the value at a place -/
def rIdx (K : PySem.W.Frag) : R2 := fun x y H Q => ∃ (B : Addr → Prop) (d e : D) (q1 q2 : List Addr) (r : D), Rp K H B x d q1 ∧ Rp K H B y e q2 ∧ ixVal d e = some r ∧
  ∀ v, ((∃ c, r = .str [c] ∧ v = .str ⟨#[c]⟩) ∨ (∃ q, Rp K H B v r q ∧ (∀ a ∈ q, a ∈ q1) ∧ ∀ st, ixStp d e = some st → q ≠ [] → VAt H x [st] v)) → Q v H
theorem ix_idx : IxR X (rIdx X.K) := by
  intro ve se pins s σ H x y v u Q I rx ry ⟨B, d, e, q1, q2, r, r1, r2, hk, hQ⟩ hs
  unfold ixVal at hk
  split at hk
  · rename_i o xs i
    rw [r2.intI] at ry
    cases hj : ixN xs.length i with
    | none => rw [hj] at hk; cases hk
    | some j =>
      rw [hj] at hk
      have hx : xs[j]? = some r := hk
      have go : ∀ {p vs f}, x = .ref p → H p = some (.lst vs) → RpL X.K H B vs xs f → (∀ a ∈ f, a ∈ q1) → wpAny (model X.prog X.w) X.A (subscriptTail ve se v u) (EP X pins σ Q) X.xe s := by
        intro p vs f ep t l hf
        subst ep
        obtain ⟨w, g, pre, post, h1, h2, h3⟩ := l.get hx
        refine ix_list ve se pins s σ H _ _ v u Q I rx ry ⟨p, vs, i, w, rfl, rfl, .of t, ?_, hQ w (.inr ⟨g, h2, fun a z => hf a (by rw [h3]; simp [z]), fun st hst _ => ?_⟩)⟩ hs
        · unfold atI
          rw [l.len, ← ixN_eq, hj]
          exact h1
        · rw [ixStp, hj] at hst
          cases hst
          exact ⟨p, vs, w, rfl, t, h1, rfl⟩
      cases r1 with
      | lf t l => exact go rfl t.1 l (fun _ z => z)
      | lo t l => exact go rfl t l fun a z => List.mem_cons_of_mem _ z
  · rename_i xs i
    rw [r2.intI] at ry
    cases hj : ixN xs.length i with
    | none => rw [hj] at hk; cases hk
    | some j =>
      rw [hj] at hk
      have hx : xs[j]? = some r := hk
      cases r1 with
      | tup t l =>
        obtain ⟨w, g, pre, post, h1, h2, h3⟩ := l.get hx
        refine ix_tup ve se pins s σ H _ _ v u Q I rx ry ⟨_, _, i, w, rfl, rfl, t.sq, ?_, hQ w (.inr ⟨g, h2, fun a z => by rw [h3]; simp [z], fun st hst _ => ?_⟩)⟩ hs
        · unfold atI
          rw [l.len, ← ixN_eq, hj]
          exact h1
        · cases hst
  · rename_i z i
    split at hk
    · rename_i hl
      rw [r2.intI] at ry
      rw [r1.strI] at rx
      cases hj : ixN z.length i with
      | none => rw [hj] at hk; cases hk
      | some j =>
        rw [hj] at hk
        cases hc : z[j]? with
        | none => rw [show (some j).bind (fun j => z[j]?) = z[j]? from rfl, hc] at hk; cases hk
        | some c =>
          rw [show (some j).bind (fun j => z[j]?) = z[j]? from rfl, hc] at hk
          have er : r = .str [c] := by cases hk; rfl
          subst er
          refine ix_str ve se pins s σ H _ _ v u Q I rx ry ⟨_, i, c, rfl, rfl, by rw [str_len, ← line_eq]; exact hl, ?_, hQ _ (.inl ⟨c, rfl, rfl⟩)⟩ hs
          unfold atI
          rw [show (⟨z.toArray⟩ : Str).cps.toList = z from rfl, ← ixN_eq, hj]
          exact hc
    · cases hk
  · cases hk
/-! ### slices -/
theorem cut_cutV {vs : List V} {lo hi : Option Int} : cutV vs lo hi = cut vs lo hi := rfl
theorem RpL.take {K : PySem.W.Frag} {H : Hp} {B : Addr → Prop} : ∀ {vs : List V} {ds : List D} (n : Nat), RpL K H B vs ds [] → RpL K H B (vs.take n) (ds.take n) []
  | vs, ds, n, l => by
    induction n generalizing vs ds with
    | zero => exact .nil
    | succ n ih =>
      generalize hq : ([] : List Addr) = q at l
      cases l with
      | nil => exact .nil
      | cons r l =>
        rename_i f _ _ fs
        have h1 : f = [] := by
          have := congrArg List.length hq
          simp at this
          exact List.eq_nil_of_length_eq_zero (by omega)
        have h2 : fs = [] := by
          have := congrArg List.length hq
          simp at this
          exact List.eq_nil_of_length_eq_zero (by omega)
        subst h1 h2
        exact RpL.cons (f := []) (fs := []) r (ih _ _ l)
theorem RpL.drop {K : PySem.W.Frag} {H : Hp} {B : Addr → Prop} : ∀ {vs : List V} {ds : List D} (n : Nat), RpL K H B vs ds [] → RpL K H B (vs.drop n) (ds.drop n) []
  | vs, ds, n, l => by
    induction n generalizing vs ds with
    | zero => exact l
    | succ n ih =>
      generalize hq : ([] : List Addr) = q at l
      cases l with
      | nil => exact .nil
      | cons r l =>
        rename_i f _ _ fs
        have h1 : f = [] := by
          have := congrArg List.length hq
          simp at this
          exact List.eq_nil_of_length_eq_zero (by omega)
        have h2 : fs = [] := by
          have := congrArg List.length hq
          simp at this
          exact List.eq_nil_of_length_eq_zero (by omega)
        subst h1 h2
        exact ih _ _ l
theorem RpL.cut {K : PySem.W.Frag} {H : Hp} {B : Addr → Prop} {vs : List V} {ds : List D} (lo hi : Option Int) (l : RpL K H B vs ds []) : RpL K H B (cutV vs lo hi) (cut ds lo hi) [] := by
  rw [cut_cutV]
  unfold Rw.cut
  rw [l.len]
  exact (l.drop _).take _
def rSli (K : PySem.W.Frag) : V → Option Int → Option Int → Hp → VK → Prop := fun x lo hi H Q => ∃ (B : Addr → Prop) (d : D) (q : List Addr) (r : D), (∀ a, B a → ∃ o, H a = some o) ∧ Rp K H B x d q ∧ Sh d q ∧ slice d lo hi = some r ∧ ∀ v H', Res K H B v r H' → Q v H'
theorem RpL.ints {K : PySem.W.Frag} {H : Hp} {B : Addr → Prop} : ∀ ns : List Int, RpL K H B (ns.map V.int) (ns.map D.int) []
  | [] => .nil
  | n :: ns => RpL.cons (f := []) (fs := []) (.int n) (RpL.ints ns)
theorem cut_map {α β : Type} (f : α → β) (xs : List α) (lo hi : Option Int) : cut (xs.map f) lo hi = (cut xs lo hi).map f := by
  unfold Rw.cut
  rw [List.length_map, List.map_take, List.map_drop]
theorem sl_sli : SlR X (rSli X.K) := by
  intro pins s σ H x v vl vu lo hi sl Q I rx hs pl pu ⟨B, d, q, r, hB, r1, sh, hk, hQ⟩
  unfold slice at hk
  split at hk
  · split at hk
    · rename_i hl
      cases hk
      rw [r1.strI] at rx
      refine sl_str pins s σ H _ v vl vu lo hi sl Q I rx hs pl pu ⟨_, rfl, by rw [str_len, ← line_eq]; exact hl, ?_⟩
      have := hQ _ _ (.same (B := B) (.str (Rw.cut _ lo hi)))
      unfold cutS
      rw [str_len]
      exact this
    · cases hk
  · cases hk
    obtain ⟨p, vs, rfl, t, l⟩ := r1.parts sh
    exact sl_list pins s σ H _ v vl vu lo hi sl Q I rx hs pl pu ⟨p, vs, rfl, .of t, fun p' hp => hQ _ _ (.lst hp (l.cut lo hi))⟩
  · cases hk
    have f1 := r1.shT sh
    obtain ⟨p, vs, rfl, t, l⟩ := r1.partsT sh
    refine sl_tupA pins s σ H _ v vl vu lo hi sl Q I rx hs pl pu ⟨p, vs, rfl, t, fun hw => ?_, fun _ p' hp => hQ _ _ (.tup hB hp (l.cut lo hi))⟩
    have e : ∀ ds : List D, ds.length = vs.length → Rw.cut ds lo hi = ds := fun ds e => by
      unfold Rw.cut
      rw [e]
      have h1 : sIx vs.length 0 lo = 0 := hw.1
      have h2 : sIx vs.length vs.length hi = vs.length := hw.2
      rw [h1, h2, List.drop_zero, Nat.sub_zero, List.take_of_length_le (by omega)]
    rw [e _ l.len.symm] at hQ
    exact hQ _ _ (.same f1)
  · cases hk
    cases r1 with
    | scr t =>
      refine sl_list pins s σ H _ v vl vu lo hi sl Q I rx hs pl pu ⟨_, _, rfl, t.sq, fun p' hp => hQ _ _ (.lst hp ?_)⟩
      rw [cut_cutV, cut_map]
      exact RpL.ints _
  · cases hk
end
end Rw

set_option Elab.async false
set_option linter.all false
set_option maxRecDepth 100000
/-! RwF: built-in functions and methods, by values. -/
namespace Rw
open PySem PySem.Spec PyProof.Rows L2
/-- the arguments of a built-in; sh: their parts are frozen -/
inductive ArgsR (K : PySem.W.Frag) (H : Hp) (B : Addr → Prop) (sh : Bool) : List V → List D → Prop
  | nil : ArgsR K H B sh [] []
  | cons {v : V} {d : D} {q : List Addr} {vs : List V} {ds : List D} : Rp K H B v d q → (sh = true → Sh d q) → ArgsR K H B sh vs ds → ArgsR K H B sh (v :: vs) (d :: ds)
def rBi (K : PySem.W.Frag) (f : Str) : List V → Hp → VK → Prop := fun xs H Q => ∃ (B : Addr → Prop) (ds : List D) (r : D) (sh : Bool), (∀ a, B a → ∃ o, H a = some o) ∧ ArgsR K H B sh xs ds ∧ (flat r = true ∨ sh = true) ∧ biV f ds = some r ∧ ∀ v H', Res K H B v r H' → Q v H'
section
variable {K : PySem.W.Frag} {H : Hp} {B : Addr → Prop} {sh : Bool}
theorem ArgsR.one {xs : List V} {d : D} (h : ArgsR K H B sh xs [d]) : ∃ v q, xs = [v] ∧ Rp K H B v d q ∧ (sh = true → Sh d q) := by
  cases h with
  | cons r s t => cases t; exact ⟨_, _, rfl, r, s⟩
theorem ArgsR.lst {xs : List V} {o : Bool} {ds : List D} (h : ArgsR K H B sh xs [.lst o ds]) : ∃ p vs f, xs = [.ref p] ∧ H p = some (.lst vs) ∧ RpL K H B vs ds f ∧ (sh = true → f = []) := by
  obtain ⟨v, q, rfl, r, s⟩ := h.one
  cases r with
  | lf t l => exact ⟨_, _, _, rfl, t.1, l, fun _ => rfl⟩
  | lo t l =>
    refine ⟨_, _, _, rfl, t, l, fun h => ?_⟩
    rcases s h with z | z
    · cases z
    · exact l.fr z
theorem ArgsR.tup {xs : List V} {ds : List D} (h : ArgsR K H B sh xs [.tup ds]) : ∃ p vs f, xs = [.ref p] ∧ SqT K H p vs ∧ RpL K H B vs ds f ∧ (sh = true → f = []) ∧ (sh = true → Rp K H B (.ref p) (.tup ds) []) := by
  obtain ⟨v, q, rfl, r, s⟩ := h.one
  have e : ∀ h : sh = true, Rp K H B v (.tup ds) [] := fun h => r.shT (s h)
  cases r with
  | tup t l =>
    refine ⟨_, _, _, rfl, t.sq, l, fun h => ?_, e⟩
    rcases s h with z | z
    · exact z
    · exact l.fr z
theorem RpL.intsOf {vs : List V} {ds : List D} {f : List Addr} (l : RpL K H B vs ds f) : ∀ {ns : List Int}, Rw.intsOf ds = some ns → vs = ns.map V.int := by
  induction ds generalizing vs f with
  | nil => intro ns h; cases l; cases h; rfl
  | cons d ds ih =>
    intro ns h
    cases l with
    | cons r l =>
      cases d <;> simp [Rw.intsOf] at h
      obtain ⟨ms, h1, h2⟩ := h
      subst h2
      rw [r.intI, ih l h1] <;> rfl
theorem RpL.blsOf {vs : List V} {ds : List D} {f : List Addr} (l : RpL K H B vs ds f) : ∀ {ns : List Bool}, Rw.blsOf ds = some ns → vs = ns.map V.bl := by
  induction ds generalizing vs f with
  | nil => intro ns h; cases l; cases h; rfl
  | cons d ds ih =>
    intro ns h
    cases l with
    | cons r l =>
      cases d <;> simp [Rw.blsOf] at h
      obtain ⟨ms, h1, h2⟩ := h
      subst h2
      rw [r.blI, ih l h1] <;> rfl
theorem RpL.strsOf {vs : List V} {ds : List D} {f : List Addr} (l : RpL K H B vs ds f) : ∀ {ns : List Sg}, Rw.strsOf ds = some ns → vs = (ns.map fun x => (⟨x.toArray⟩ : Str)).map V.str := by
  induction ds generalizing vs f with
  | nil => intro ns h; cases l; cases h; rfl
  | cons d ds ih =>
    intro ns h
    cases l with
    | cons r l =>
      cases d <;> simp [Rw.strsOf] at h
      obtain ⟨ms, h1, h2⟩ := h
      subst h2
      rw [r.strI, ih l h1] <;> rfl
end
section
variable {X : Cx}
/-- a built-in function or class, called -/
theorem call_bi (hc : X.calm = true) {f : Str} {u : Value} (hu : bootBuiltins f = some u) : CallR X u (rBi X.K f) := by
  intro pins s σ H xs us Q I rs ⟨B, ds, r, sh, hB, ra, fl, hk, hQ⟩
  have hb : ∀ {g : Str} {w : Value}, f = g → bootBuiltins g = some w → u = w := fun e h => by
    rw [e, h] at hu
    exact (Option.some.inj hu).symm
  unfold biV at hk
  split at hk
  · rename_i e
    rw [hb e PySem.boot_len]
    split at hk
    · rename_i d
      obtain ⟨v, q, rfl, r1, _⟩ := ra.one
      cases hl : lenV d with
      | none => rw [hl] at hk; cases hk
      | some n =>
        rw [hl] at hk
        cases hk
        refine call_len pins s σ H _ us Q I rs ?_
        unfold lenV at hl
        split at hl
        · split at hl
          · rename_i hz
            cases hl
            rw [r1.strI]
            exact ⟨_, _, rfl, ⟨by rw [str_len, ← line_eq]; exact hz, (str_len _).symm⟩, hQ _ _ (.same (.int _))⟩
          · cases hl
        · cases hl
          cases r1 with
          | tup t l => exact ⟨_, _, rfl, .inr ⟨_, t.sq, l.len.symm⟩, hQ _ _ (.same (.int _))⟩
        · cases hl
          cases r1 with
          | lf t l => exact ⟨_, _, rfl, .inl ⟨_, .of t.1, l.len.symm⟩, hQ _ _ (.same (.int _))⟩
          | lo t l => exact ⟨_, _, rfl, .inl ⟨_, .of t, l.len.symm⟩, hQ _ _ (.same (.int _))⟩
        · cases hl
    · cases hk
  split at hk
  · rename_i e
    rw [hb e (by decide +kernel : bootBuiltins "abs" = some (.builtin "abs"))]
    split at hk
    · obtain ⟨v, q, rfl, r1, _⟩ := ra.one
      cases hk
      rw [r1.intI] at rs
      exact call_abs pins s σ H _ us Q I rs ⟨_, rfl, hQ _ _ (.same (.int _))⟩
    · cases hk
  split at hk
  · rename_i e
    rw [hb e (by decide +kernel : bootBuiltins "int" = some (.type "int"))]
    split at hk
    · obtain ⟨v, q, rfl, r1, _⟩ := ra.one
      cases hk
      rw [r1.intI] at rs
      exact call_int1 pins s σ H _ us Q I rs (.inl ⟨_, rfl, hQ _ _ (.same (.int _))⟩)
    · obtain ⟨v, q, rfl, r1, _⟩ := ra.one
      cases hk
      rw [r1.blI] at rs
      exact call_int1 pins s σ H _ us Q I rs (.inr ⟨_, rfl, hQ _ _ (.same (.int _))⟩)
    · cases hk
  split at hk
  · rename_i e
    rw [hb e (by decide +kernel : bootBuiltins "sum" = some (.builtin "sum"))]
    split at hk
    · rename_i o xs
      obtain ⟨p, vs, g, rfl, t, l, _⟩ := ra.lst
      cases hn : intsOf xs with
      | none => rw [hn] at hk; cases hk
      | some ns =>
        rw [hn] at hk
        cases hk
        refine cr_sum hc pins s σ H _ us Q I rs ⟨p, ns, rfl, ?_, hQ _ _ (.same (.int _))⟩
        rw [← l.intsOf hn]
        exact .of t
    · cases hk
  split at hk
  · rename_i e
    rw [hb e (by decide +kernel : bootBuiltins "all" = some (.builtin "all"))]
    split at hk
    · rename_i o xs
      obtain ⟨p, vs, g, rfl, t, l, _⟩ := ra.lst
      cases hn : blsOf xs with
      | none => rw [hn] at hk; cases hk
      | some ns =>
        rw [hn] at hk
        cases hk
        refine cr_all hc pins s σ H _ us Q I rs ⟨p, ns, rfl, ?_, hQ _ _ (.same (.bl _))⟩
        rw [← l.blsOf hn]
        exact .of t
    · cases hk
  split at hk
  · rename_i e
    rw [hb e (by decide +kernel : bootBuiltins "any" = some (.builtin "any"))]
    split at hk
    · rename_i o xs
      obtain ⟨p, vs, g, rfl, t, l, _⟩ := ra.lst
      cases hn : blsOf xs with
      | none => rw [hn] at hk; cases hk
      | some ns =>
        rw [hn] at hk
        cases hk
        refine cr_any hc pins s σ H _ us Q I rs ⟨p, ns, rfl, ?_, hQ _ _ (.same (.bl _))⟩
        rw [← l.blsOf hn]
        exact .of t
    · cases hk
  split at hk
  · rename_i e
    rw [hb e (by decide +kernel : bootBuiltins "tuple" = some (.type "tuple"))]
    split at hk
    · cases hk
      have hs : sh = true := fl.elim (fun z => by cases z) id
      obtain ⟨p, vs, g, rfl, t, l, h0⟩ := ra.lst
      rw [h0 hs] at l
      exact call_tuple_of pins s σ H _ us Q I rs ⟨p, vs, rfl, .inl ⟨.of t, fun p' hp => hQ _ _ (.tup hB hp l)⟩⟩
    · cases hk
      have hs : sh = true := fl.elim (fun z => by cases z) id
      obtain ⟨p, vs, g, rfl, t, l, h0, h1⟩ := ra.tup
      exact call_tuple_of pins s σ H _ us Q I rs ⟨p, vs, rfl, .inr ⟨t, hQ _ _ (.same (h1 hs))⟩⟩
    · cases hk
  split at hk
  · rename_i e
    rw [hb e (by decide +kernel : bootBuiltins "list" = some (.type "list"))]
    split at hk
    · cases hk
      have hs : sh = true := fl.elim (fun z => by cases z) id
      obtain ⟨p, vs, g, rfl, t, l, h0⟩ := ra.lst
      rw [h0 hs] at l
      exact call_list_of pins s σ H _ us Q I rs ⟨p, vs, rfl, .inl (.of t), fun p' hp => hQ _ _ (.lst hp l)⟩
    · cases hk
      have hs : sh = true := fl.elim (fun z => by cases z) id
      obtain ⟨p, vs, g, rfl, t, l, h0, h1⟩ := ra.tup
      rw [h0 hs] at l
      exact call_list_of pins s σ H _ us Q I rs ⟨p, vs, rfl, .inr t, fun p' hp => hQ _ _ (.lst hp l)⟩
    · cases hk
  · cases hk
/-! ### isinstance -/
theorem isi_int : ∀ T ∈ ["int", "bool", "str", "tuple", "list", "dict"], isInst (.int 0) (Str.ofString T) = kitB "int" T := by decide +kernel
theorem isi_str : ∀ T ∈ ["int", "bool", "str", "tuple", "list", "dict"], isInst (.str []) (Str.ofString T) = kitB "str" T := by decide +kernel
theorem isi_tup : ∀ T ∈ ["int", "bool", "str", "tuple", "list", "dict"], isInst (.tup []) (Str.ofString T) = kitB "tuple" T := by decide +kernel
theorem isi_lst : ∀ T ∈ ["int", "bool", "str", "tuple", "list", "dict"], isInst (.lst true []) (Str.ofString T) = kitB "list" T := by decide +kernel
theorem isi_dct : ∀ T ∈ ["int", "bool", "str", "tuple", "list", "dict"], isInst (.dct false []) (Str.ofString T) = kitB "dict" T := by decide +kernel
theorem isi_non : ∀ T ∈ ["int", "bool", "str", "tuple", "list", "dict"], isInst .non (Str.ofString T) = kitB "NoneType" T := by decide +kernel
theorem isi_bl : ∀ T ∈ ["int", "bool", "str", "tuple", "list", "dict"], isInst (.bl true) (Str.ofString T) = kitB "bool" T := by decide +kernel
theorem isi_ok {t : Str} {T : String} (ht : t = Str.ofString T) (hT : T ∈ ["int", "bool", "str", "tuple", "list", "dict"]) : CallR X (.builtin "isinstance") (fun xs H Q => ∃ (B : Addr → Prop) (x : V) (d : D) (q : List Addr) (k : Bool), xs = [x, .ty T] ∧ Rp X.K H B x d q ∧ isInst d t = some k ∧ Q (.bl k) H) := by
  intro pins s σ H xs us Q I rs ⟨B, x, d, q, k, e, r, hk, hQ⟩
  subst ht
  have go : ∀ {a : String}, TyX X.K H x (.type a) → kitB a T = some k → wpAny (model X.prog X.w) X.A (call (.builtin "isinstance") us) (EP X pins σ Q) X.xe s := fun ty h =>
    call_isi pins s σ H xs us Q I rs ⟨x, .ty T, _, _, k, e, .ty T, ty, kit_ty h, hQ⟩
  have tup : ∀ {p vs}, TAt X.K H B p vs → TyX X.K H (.ref p) (.type "tuple") := fun t => by
    rcases t with ⟨(t | ⟨o, t⟩), _⟩ | ⟨o, its, n, h1, h2, _⟩
    · exact .base (.tup t)
    · exact .fTuple t
    · exact .kTuple h1 h2
  have scr : ∀ {p vs}, SAt X.K H B p vs → TyX X.K H (.ref p) (.type "list") := fun t => by
    rcases t with ⟨(t | ⟨o, t⟩), _⟩ | ⟨o, its, n, h1, h2, _⟩
    · exact .base (.lst t)
    · exact .base (.frz t)
    · exact .kList h1 h2
  have fin : ∀ {a : String}, TyX X.K H x (.type a) → (∀ T ∈ ["int", "bool", "str", "tuple", "list", "dict"], ∀ k, isInst d (Str.ofString T) = some k → kitB a T = some k) → wpAny (model X.prog X.w) X.A (call (.builtin "isinstance") us) (EP X pins σ Q) X.xe s := fun ty h => go ty (h T hT k hk)
  have dec : ∀ {a : String} {d : D}, (∀ T ∈ ["int", "bool", "str", "tuple", "list", "dict"], isInst d (Str.ofString T) = kitB a T) → ∀ T ∈ ["int", "bool", "str", "tuple", "list", "dict"], ∀ k, isInst d (Str.ofString T) = some k → kitB a T = some k := fun h T hT k e => by rw [← h T hT]; exact e
  cases r with
  | non => exact fin (.base .non) (dec isi_non)
  | bl b => exact fin (.base (.bl b)) (dec isi_bl)
  | int i => exact fin (.base (.int i)) (dec isi_int)
  | str y => exact fin (.base (.str _)) (dec isi_str)
  | tup t l => exact fin (tup t) (dec isi_tup)
  | scr t => exact fin (scr t) fun T hT k e => (by cases e)
  | dE t => exact fin (.base (.dK t.1)) (dec isi_dct)
  | lf t l => exact fin (.base (.lst t.1)) (dec isi_lst)
  | lo t l => exact fin (.base (.lst t)) (dec isi_lst)
/-! ### methods -/
/-- a method that changes nothing -/
def rMth (K : PySem.W.Frag) (m : Str) : V → List V → Hp → VK → Prop := fun x xs H Q => ∃ (B : Addr → Prop) (d : D) (q : List Addr) (ds : List D) (r : D) (sh : Bool), (∀ a, B a → ∃ o, H a = some o) ∧ Rp K H B x d q ∧ (sh = true → Sh d q) ∧ ArgsR K H B sh xs ds ∧ (flat r = true ∨ sh = true) ∧ mthV m d ds = some r ∧ ∀ v H', Res K H B v r H' → Q v H'
theorem joinS_eq (S : Sg) : ∀ ps : List Sg, joinS S ps = TL.joinL S ps
  | [] => rfl
  | [p] => rfl
  | p :: q :: r => by rw [joinS, TL.joinL, joinS_eq S (q :: r)]
theorem join_eq (a : Sg) (ys : List Sg) : Txt.join ⟨a.toArray⟩ (ys.map fun x => (⟨x.toArray⟩ : Str)) = ⟨(joinS a ys).toArray⟩ := by
  rw [TL.join_eq]
  apply TL.ext_tl
  rw [TL.tl_join, List.map_map, TL.tl_mk, joinS_eq]
  congr 1
  rw [show (TL.tl ∘ fun x => (⟨x.toArray⟩ : Str)) = id from rfl, List.map_id]
theorem mt_joinX : MtR X "str.join" (rMth X.K "join") := by
  intro pins s σ H x xs v us Q I rx rs ⟨B, d, q, ds, r, sh, hB, r1, _, ra, fl, hk, hQ⟩
  unfold mthV at hk
  rw [if_pos rfl] at hk
  have len : ∀ ys : List Sg, (ys.map fun x => (⟨x.toArray⟩ : Str)).map (·.length) = ys.map List.length := fun ys => by
    rw [List.map_map]
    congr 1
  split at hk
  · rename_i a o es _
    cases hy : strsOf es with
    | none => rw [hy] at hk; cases hk
    | some ys =>
      rw [hy] at hk
      simp only [Option.bind_some] at hk
      split at hk
      · rename_i hz
        cases hk
        obtain ⟨p, vs, g, rfl, t, l, _⟩ := ra.lst
        rw [r1.strI] at rx
        refine mt_join pins s σ H _ _ v us Q I rx rs ⟨_, p, ys.map fun x => (⟨x.toArray⟩ : Str), rfl, rfl, .inl ?_, ?_, ?_⟩
        · rw [← l.strsOf hy]; exact .of t
        · rw [len, List.length_map, str_len]; exact hz
        · rw [join_eq]; exact hQ _ _ (.same (.str _))
      · cases hk
  · rename_i a es _
    cases hy : strsOf es with
    | none => rw [hy] at hk; cases hk
    | some ys =>
      rw [hy] at hk
      simp only [Option.bind_some] at hk
      split at hk
      · rename_i hz
        cases hk
        obtain ⟨p, vs, g, rfl, t, l, _⟩ := ra.tup
        rw [r1.strI] at rx
        refine mt_join pins s σ H _ _ v us Q I rx rs ⟨_, p, ys.map fun x => (⟨x.toArray⟩ : Str), rfl, rfl, .inr ?_, ?_, ?_⟩
        · rw [← l.strsOf hy]; exact t
        · rw [len, List.length_map, str_len]; exact hz
        · rw [join_eq]; exact hQ _ _ (.same (.str _))
      · cases hk
  · cases hk
end
section
variable {K : PySem.W.Frag} {H H' : Hp} {B B' : Addr → Prop}
/-- a part taken out -/
theorem RpL.erase {vs ds q} : RpL K H B vs ds q → ∀ {n : Nat} {d : D}, ds[n]? = some d → ∃ v f pre post, vs[n]? = some v ∧ Rp K H B v d f ∧ q = pre ++ (f ++ post) ∧ RpL K H B (vs.eraseIdx n) (ds.eraseIdx n) (pre ++ post)
  | .nil, n, d, h => by simp at h
  | .cons (f := f) (fs := fs) h t, 0, d, e => by
    simp at e
    subst e
    exact ⟨_, f, [], fs, rfl, h, rfl, t⟩
  | .cons (f := f) (fs := fs) h t, n + 1, d, e => by
    obtain ⟨v, g, pre, post, h1, h2, h3, h4⟩ := RpL.erase t (n := n) (d := d) (by simpa using e)
    refine ⟨v, g, f ++ pre, post, by simpa using h1, h2, by rw [h3, List.append_assoc], ?_⟩
    have := RpL.cons h h4
    simpa [List.append_assoc] using this
/-- what a method does to its receiver, at its list's own place -/
def rMut (K : PySem.W.Frag) (m : Str) : V → List V → Hp → VK → Prop := fun x xs H Q => ∃ (B : Addr → Prop) (d : D) (q : List Addr) (ds : List D) (fq : List Addr) (r d' : D), Rp K H B x d q ∧ RpL K H B xs ds fq ∧ (q ++ fq).Nodup ∧ (∀ a ∈ q, B a) ∧ mutV m d ds = some (r, d') ∧
  ∀ v H' q' qr, (∀ a o, H a = some o → a ∉ q → H' a = some o) → Rp K H' B x d' q' → Rp K H' B v r qr → (q' ++ qr).Nodup → (∀ a ∈ q' ++ qr, a ∈ q ++ fq) → Q v H'
theorem Rp.lstO {x : V} {ds : List D} {q : List Addr} (r : Rp K H B x (.lst true ds) q) : ∃ p vs f, x = .ref p ∧ H p = some (.lst vs) ∧ RpL K H B vs ds f ∧ q = p :: f := by
  cases r with
  | lo t l => exact ⟨_, _, _, rfl, t, l, rfl⟩
theorem upd_off {p : Addr} {o : HO} {q : List Addr} (h : p ∈ q) : ∀ a u, H a = some u → a ∉ q → upd H p o a = some u := fun a u e n => by
  rw [upd_ne (fun z => n (by rw [z]; exact h))]; exact e
end
section
variable {X : Cx}
theorem mt_appendX : MtR X "list.append" (rMut X.K "append") := by
  intro pins s σ H x xs v us Q I rx rs ⟨B, d, q, ds, fq, r, d', r1, l1, nd, hB, hk, hQ⟩
  unfold mutV at hk
  rw [if_pos rfl] at hk
  split at hk
  · split at hk
    · rename_i es e hz
      cases hk
      obtain ⟨p, vs, f, rfl, t, l, rfl⟩ := r1.lstO
      cases l1 with
      | cons r2 l2 =>
        rename_i w g _ _
        cases l2
        rw [List.append_nil] at nd hQ
        have np : p ∉ f ∧ p ∉ g := by
          have := nd
          simp at this
          exact this.1
        have kp : ∀ a o, H a = some o → (¬ B a ∨ a ∈ f ∨ a ∈ g) → upd H p (.lst (vs ++ [w])) a = some o := fun a o e n => by
          refine (upd_ne fun z => ?_).trans e
          subst z
          rcases n with n | n | n
          · exact n (hB _ List.mem_cons_self)
          · exact np.1 n
          · exact np.2 n
        refine mt_append pins s σ H _ _ v us Q I rx rs ⟨p, vs, w, rfl, rfl, t, by rw [l.len, ← line_eq]; exact hz, ?_⟩
        have l' := l.mono (H' := upd H p (.lst (vs ++ [w]))) (B' := B) (fun a o e n => kp a o e (n.elim .inl fun z => .inr (.inl z))) fun a b => .inl b
        have r' := r2.mono (H' := upd H p (.lst (vs ++ [w]))) (B' := B) (fun a o e n => kp a o e (n.elim .inl fun z => .inr (.inr z))) fun a b => .inl b
        exact hQ _ _ (p :: (f ++ g)) [] (upd_off List.mem_cons_self) (.lo upd_same (l'.app (.one r'))) .non (by simpa using nd) (fun a h => by simpa using h)
    · cases hk
  · cases hk
theorem mt_popX : MtR X "list.pop" (rMut X.K "pop") := by
  intro pins s σ H x xs v us Q I rx rs ⟨B, d, q, ds, fq, r, d', r1, l1, nd, hB, hk, hQ⟩
  unfold mutV at hk
  rw [if_neg (by decide +kernel), if_pos rfl] at hk
  have main : ∀ {p : Addr} {vs : List V} {es : List D} {f : List Addr} {k : Nat} {e : D}, x = .ref p → H p = some (.lst vs) → RpL X.K H B vs es f → q = p :: f → es[k]? = some e → r = e → d' = .lst true (es.eraseIdx k) → fq = [] →
      ∃ w, vs[k]? = some w ∧ Q w (upd H p (.lst (vs.eraseIdx k))) := by
    intro p vs es f k e ex t l eq hx er ed ef
    subst ex eq er ed ef
    obtain ⟨w, g, pre, post, h1, h2, h3, h4⟩ := l.erase hx
    rw [List.append_nil] at nd hQ
    have np : p ∉ f := by
      have := nd
      simp at this
      exact this.1
    have kp : ∀ a o, H a = some o → (¬ B a ∨ a ∈ f) → upd H p (.lst (vs.eraseIdx k)) a = some o := fun a o e n => by
      refine (upd_ne fun z => ?_).trans e
      subst z
      rcases n with n | n
      · exact n (hB _ List.mem_cons_self)
      · exact np n
    refine ⟨w, h1, ?_⟩
    have l' := h4.mono (H' := upd H p (.lst (vs.eraseIdx k))) (B' := B) (fun a o e n => kp a o e (n.elim .inl fun z => .inr (by rw [h3]; rcases List.mem_append.mp z with z | z <;> simp [z]))) fun a b => .inl b
    have r' := h2.mono (H' := upd H p (.lst (vs.eraseIdx k))) (B' := B) (fun a o e n => kp a o e (n.elim .inl fun z => .inr (by rw [h3]; simp [z]))) fun a b => .inl b
    refine hQ _ _ (p :: (pre ++ post)) g (upd_off List.mem_cons_self) (.lo upd_same l') r' ?_ fun a hm => ?_
    · rw [h3] at nd np
      have perm : ((p :: (pre ++ post)) ++ g).Perm (p :: (pre ++ (g ++ post))) := by
        refine List.Perm.cons p ?_
        show (pre ++ post ++ g).Perm _
        rw [List.append_assoc]
        exact List.Perm.append_left pre List.perm_append_comm
      exact perm.nodup_iff.mpr nd
    · rw [h3]
      have hm' : a = p ∨ (a ∈ pre ∨ a ∈ post) ∨ a ∈ g := by simpa [or_assoc] using hm
      rcases hm' with z | (z | z) | z <;> simp [z]
  split at hk
  · rename_i es
    cases hx : es[es.length - 1]? with
    | none => rw [hx] at hk; cases hk
    | some e =>
      rw [hx] at hk
      cases l1
      obtain ⟨p, vs, f, rfl, t, l, rfl⟩ := r1.lstO
      have e1 : r = e ∧ d' = .lst true es.dropLast := by cases hk; exact ⟨rfl, rfl⟩
      obtain ⟨w, h1, h2⟩ := main rfl t l rfl hx e1.1 (by rw [e1.2, List.eraseIdx_length_sub_one]) rfl
      refine mt_pop pins s σ H _ _ v us Q I rx rs ⟨p, vs, w, rfl, rfl, t, by rw [l.len]; exact h1, ?_⟩
      rw [← l.len, List.eraseIdx_length_sub_one] at h2
      exact h2
  · split at hk
    · rename_i es i hi
      cases hj : ixN es.length i with
      | none => rw [hj] at hk; cases hk
      | some k =>
        rw [hj] at hk
        simp only [Option.bind_some] at hk
        cases hx : es[k]? with
        | none => rw [hx] at hk; cases hk
        | some e =>
          rw [hx] at hk
          obtain ⟨p, vs, f, rfl, t, l, rfl⟩ := r1.lstO
          cases l1 with
          | cons r2 l2 =>
            cases l2
            cases r2
            have e1 : r = e ∧ d' = .lst true (es.eraseIdx k) := by cases hk; exact ⟨rfl, rfl⟩
            obtain ⟨w, h1, h2⟩ := main rfl t l rfl hx e1.1 e1.2 rfl
            have := ixN_seq (n := es.length) (i := i) (j := k) hj
            exact mt_popAt pins s σ H _ _ v us Q I rx rs ⟨p, vs, i, k, w, rfl, rfl, t, hi.1, hi.2, by rw [l.len]; exact this.1, h1, h2⟩
    · cases hk
  · cases hk
end
end Rw

set_option Elab.async false
set_option linter.all false
set_option maxRecDepth 100000
/-! RwG: an expression's evaluation, held against the judgements. -/
namespace Rw
open PySem PySem.Spec PyProof.Rows L2
theorem PE.imp {X : Cx} {e : Expr} {t t' : TE} (h : PE X e t) (i : ∀ σ H Q, t' σ H Q → t σ H Q) : PE X e t' := ⟨fun pins s σ H Q I q => h.run pins s σ H Q I (i σ H Q q)⟩
theorem PT.imp {X : Cx} {e : Expr} {t t' : TT} (h : PT X e t) (i : ∀ σ H Q, t' σ H Q → t σ H Q) : PT X e t' := ⟨fun pins s σ H Q I q => h.run pins s σ H Q I (i σ H Q q)⟩
/-- what holds of a result -/
def Rr.all {α : Type} (r : Rr α) (P : α → Env → Prop) (E : Exc → Env → Prop) : Prop := match r with
  | .ok a ρ => P a ρ
  | .exc x ρ => E x ρ
  | .stuck => False
theorem Rr.all.seq {α β : Type} {r : Rr α} {f : α → Env → Rr β} {P : β → Env → Prop} {E : Exc → Env → Prop} (h : (r.bind f).all P E) : r.all (fun a ρ => (f a ρ).all P E) E := by
  cases r with
  | ok a ρ => exact h
  | exc x ρ => exact h
  | stuck => exact h
theorem Rr.all.imp {α : Type} {r : Rr α} {P P' : α → Env → Prop} {E E' : Exc → Env → Prop} (h : r.all P E) (hp : ∀ a ρ, r = .ok a ρ → P a ρ → P' a ρ) (he : ∀ x ρ, E x ρ → E' x ρ) : r.all P' E' := by
  cases r with
  | ok a ρ => exact hp a ρ rfl h
  | exc x ρ => exact he x ρ h
  | stuck => exact h
/-- an error as it lies -/
def XAt (mg : Str → Option Value) (x : Exc) (cls : Value) (d : Option Addr) (H : Hp) : Prop := x.fs = [] ∧ mg x.cls = some cls
/-- what is tracked stays -/
def Keep (H H' : Hp) : Prop := ∀ a o, H a = some o → H' a = some o
section
variable {K : PySem.W.Frag} {mg : Str → Option Value} {A₀ A A' A₁ : Addr → Prop} {σ : L2.St} {H H' H₁ : Hp} {ρ ρ' ρ₁ : Env} {fp fp' fp₁ : Nat → List Addr} {W : WX} {F : Fn} {e : Ex} {Q : VK}
/-- how an evaluation may leave the state -/
structure EOk (K : PySem.W.Frag) (A₀ A : Addr → Prop) (fp : Nat → List Addr) (σ : L2.St) (H : Hp) (p : Bool) (ρ' : Env) (H' : Hp) (A' : Addr → Prop) (fp' : Nat → List Addr) : Prop where
  si : SI K A₀ A' σ H' ρ' fp'
  tr : Tr A fp H A' fp' H'
  kp : p = true → Keep H H'
def XPost (K : PySem.W.Frag) (mg : Str → Option Value) (A₀ A : Addr → Prop) (fp : Nat → List Addr) (σ : L2.St) (H : Hp) (W : WX) (x : Exc) (ρ' : Env) : Prop :=
  ∀ cls d H' fp', SI K A₀ A σ H' ρ' fp' → Tr A fp H A fp' H' → XAt mg x cls d H' → W cls d σ H'
theorem Tr.dropA (t : Tr A fp H A₁ fp' H') (h : ∀ a, A a → A₁ a) : Tr A fp H A fp' H' := ⟨fun _ h => h, t.k, fun a b => t.b a (b.elim (fun z => .inl (h a z)) .inr)⟩
theorem XPost.later {x : Exc} (h : XPost K mg A₀ A fp σ H W x ρ') (S : SI K A₀ A σ H ρ fp) (S₁ : SI K A₀ A₁ σ H₁ ρ₁ fp₁) (t : Tr A fp H A₁ fp₁ H₁) : XPost K mg A₀ A₁ fp₁ σ H₁ W x ρ' := fun cls d H' fp' S' t' x' =>
  h cls d H' fp' (S'.drop S.sub t.a) ((t.trans S S₁ t').dropA t.a) x'
/-- the reading of an expression -/
def tE (K : PySem.W.Frag) (mg : Str → Option Value) (W : WX) (F : Fn) (e : Ex) : TE := fun σ H Q => ∃ A₀ A ρ fp, SI K A₀ A σ H ρ fp ∧ (evE F e ρ).all (fun o ρ' => ∀ v H' A' fp', EOk K A₀ A fp σ H (pureE e) ρ' H' A' fp' → OpdOk K H' A A' (Bs A' fp') σ v o → Q v H') (XPost K mg A₀ A fp σ H W)
/-- the reading of a test -/
def tT (K : PySem.W.Frag) (mg : Str → Option Value) (W : WX) (F : Fn) (e : Ex) : TT := fun σ H Q => ∃ A₀ A ρ fp, SI K A₀ A σ H ρ fp ∧ (tst (evE F e ρ)).all (fun b ρ' => ∀ H' A' fp', EOk K A₀ A fp σ H (pureE e) ρ' H' A' fp' → Q b H') (XPost K mg A₀ A fp σ H W)
/-- the reading of arguments -/
def tEs (K : PySem.W.Frag) (mg : Str → Option Value) (W : WX) (F : Fn) (es : List Ex) : TA := fun σ H Q => ∃ A₀ A ρ fp, SI K A₀ A σ H ρ fp ∧ (evEs F es ρ).all (fun os ρ' => okPts os es = true ∧ ∀ vs H' A' fp' q, EOk K A₀ A fp σ H (pureEs es) ρ' H' A' fp' → OpdsR K H' (Bs A' fp') σ vs os q → q.Nodup → (∀ a ∈ q, A' a ∧ ¬ A a) → Q vs H') (XPost K mg A₀ A fp σ H W)
theorem EOk.refl (S : SI K A₀ A σ H ρ fp) {p : Bool} : EOk K A₀ A fp σ H p ρ H A fp := ⟨S, .refl, fun _ _ _ e => e⟩
theorem EOk.trans {p q r : Bool} (h : EOk K A₀ A fp σ H p ρ₁ H₁ A₁ fp₁) (S : SI K A₀ A σ H ρ fp) (g : EOk K A₀ A₁ fp₁ σ H₁ q ρ' H' A' fp') (hr : r = true → p = true ∧ q = true) : EOk K A₀ A fp σ H r ρ' H' A' fp' :=
  ⟨g.si, h.tr.trans S h.si g.tr, fun z a o e => g.kp (hr z).2 a o (h.kp (hr z).1 a o e)⟩
/-- a result is laid: the end of an operation -/
theorem EOk.res {p : Bool} (g : EOk K A₀ A fp σ H p ρ₁ H₁ A₁ fp₁) (S : SI K A₀ A σ H ρ fp) {v : V} {r : D} {H' : Hp} (R : Res K H₁ (Bs A₁ fp₁) v r H') : ∃ A', EOk K A₀ A fp σ H p ρ₁ H' A' fp₁ ∧ OpdOk K H' A A' (Bs A' fp₁) σ v (opd r) := by
  obtain ⟨q, rr, nd, fr, kp⟩ := R
  have S' : SI K A₀ (fun a => A₁ a ∨ a ∈ q) σ H' ρ₁ fp₁ := g.si.grow (fun a h => .inl (g.si.sub a h)) (fun a h => h.elim .inl fun z => .inr (fr a z)) (fun a h => h.elim (fun z => (g.si.tr a z).elim fun o e => ⟨o, kp a o e⟩) fun z => rr.there a z) kp
  have t' : Tr A₁ fp₁ H₁ (fun a => A₁ a ∨ a ∈ q) fp₁ H' := ⟨fun a h => .inl h, fun a o e _ => kp a o e, fun a b => by
    rcases b with (b | b) | b
    · exact .inl (.inl b)
    · exact .inr (fr a b)
    · exact .inl (.inr b)⟩
  have fA : ∀ a ∈ q, ¬ A a := fun a h hA => by
    obtain ⟨o, e⟩ := g.si.tr a (g.tr.a a hA)
    rw [fr a h] at e; cases e
  have rr' : Rp K H' (Bs (fun a => A₁ a ∨ a ∈ q) fp₁) v r q := rr.mono (fun _ _ e _ => e) fun a b => .inl (by
    rcases b with (b | b) | b
    · exact .inl (.inl b)
    · exact .inr b
    · exact .inl (.inr b))
  refine ⟨_, ⟨S', g.tr.trans S g.si t', fun z a o e => kp a o (g.kp z a o e)⟩, q, ?_, nd, fun a h => ⟨.inr h, fA a h⟩⟩
  unfold opd
  split
  · rename_i hf
    have := rr.fr hf
    subst this
    exact ⟨rfl, rr'⟩
  · exact rr'
end
section
variable {K : PySem.W.Frag} {mg : Str → Option Value} {A₀ A A' A₁ : Addr → Prop} {σ : L2.St} {H H' H₁ : Hp} {ρ ρ' ρ₁ : Env} {fp fp' fp₁ : Nat → List Addr} {W : WX} {F : Fn} {e : Ex} {Q : VK} {p : Bool}
/-- one part, then the rest: g is what the whole gives behind the part's result -/
theorem tE.first (S : SI K A₀ A σ H ρ fp) {β : Type} {f : Opd → Env → Rr β} {P : β → Env → Prop} (h : ((evE F e ρ).bind f).all P (XPost K mg A₀ A fp σ H W))
    (k : ∀ o ρ₁, (f o ρ₁).all P (XPost K mg A₀ A fp σ H W) → ∀ v H₁ A₁ fp₁, EOk K A₀ A fp σ H (pureE e) ρ₁ H₁ A₁ fp₁ → OpdOk K H₁ A A₁ (Bs A₁ fp₁) σ v o → Q v H₁) : tE K mg W F e σ H Q :=
  ⟨A₀, A, ρ, fp, S, h.seq.imp (fun o ρ₁ _ h => k o ρ₁ h) fun _ _ h => h⟩
/-- the wish about errors, from a later state -/
theorem Xmatch {β : Type} {r : Rr β} {P : β → Env → Prop} (h : r.all P (XPost K mg A₀ A fp σ H W)) (S : SI K A₀ A σ H ρ fp) (S₁ : SI K A₀ A₁ σ H₁ ρ₁ fp₁) (t : Tr A fp H A₁ fp₁ H₁) : r.all P (XPost K mg A₀ A₁ fp₁ σ H₁ W) :=
  h.imp (fun _ _ _ h => h) fun _ _ h => XPost.later h S S₁ t
theorem OpdOk.early {B : Addr → Prop} {v : V} {o : Opd} (ok : OpdOk K H A₁ A' B σ v o) (h : ∀ a, A a → A₁ a) : OpdOk K H A A' B σ v o := by
  obtain ⟨q, h1, h2, h3⟩ := ok
  exact ⟨q, h1, h2, fun a z => ⟨(h3 a z).1, fun hA => (h3 a z).2 (h a hA)⟩⟩
theorem opd_flat {d : D} (h : flat d = true) : opd d = .fz d := by
  cases d <;> simp [flat] at h <;> rfl
theorem keep_of_okPt {o : Opd} {e : Ex} (h : okPt o e = true) {H H' : Hp} (kp : pureE e = true → Keep H H') : o.noPl ∨ ∀ a u, H a = some u → H' a = some u := by
  cases o with
  | fz d => exact .inl trivial
  | ow d => exact .inl trivial
  | pt i p =>
    cases p with
    | nil => exact .inl trivial
    | cons s p => exact .inr (kp h)
/-! ### the constructs -/
theorem rd_lit {d : D} {v : V} (hv : ∀ H B, Rp K H B v d []) : ∀ σ H Q, tE K mg W F (.lit d) σ H Q → tC v σ H Q := fun σ H Q ⟨A₀, A, ρ, fp, S, h⟩ =>
  h v H A fp (.refl S) (.fz (hv _ _))
theorem rd_dct0 : ∀ σ H Q, tE K mg W F .dct0 σ H Q → tDNewK σ H Q := fun σ H Q ⟨A₀, A, ρ, fp, S, h⟩ p hp => by
  rw [evE] at h
  have np : ¬ Bs A fp p := S.free hp
  have S2 := S.grow (A₁ := A) (H₁ := upd H p (.dK [])) S.sub (fun a h => .inl h) (fun a h => (S.tr a h).elim fun o e => ⟨o, upd_keep hp a o e⟩) (upd_keep hp)
  exact h (.ref p) _ A fp ⟨S2, ⟨fun _ h => h, fun a o e _ => upd_keep hp a o e, fun _ b => .inl b⟩, fun _ a o e => upd_keep hp a o e⟩ (.fz (.dE ⟨upd_same, np⟩))
theorem look_get {σ : L2.St} {i : Nat} {v : V} (h : look σ i = some v) : σ[i]? = some (some v) := by
  unfold look at h
  cases e : σ[i]? with
  | none => rw [e] at h; cases h
  | some x => rw [e] at h; exact congrArg some h
theorem rd_var {i : Nat} : ∀ σ H Q, tE K mg W F (.var i) σ H Q → tVar i σ H Q := fun σ H Q ⟨A₀, A, ρ, fp, S, h⟩ => by
  rw [evE] at h
  have so := S.sl i
  cases es : ρ[i]? with
  | none => rw [es] at h; exact h.elim
  | some s =>
    rw [es] at h
    rw [slot_get es] at so
    cases s with
    | un => exact h.elim
    | fz d =>
      obtain ⟨_, v, hv, r⟩ := so
      exact ⟨v, look_get hv, h v H A fp (.refl S) (.fz r)⟩
    | ow d =>
      obtain ⟨v, hv, r⟩ := so
      exact ⟨v, look_get hv, h v H A fp (.refl S) ⟨[], ⟨rfl, v, hv, rfl⟩, .nil, fun _ z => nomatch z⟩⟩
    | mw d =>
      obtain ⟨v, hv, r⟩ := so
      exact ⟨v, look_get hv, h v H A fp (.refl S) ⟨[], ⟨rfl, v, hv, rfl⟩, .nil, fun _ z => nomatch z⟩⟩
    | bw d =>
      obtain ⟨_, v, q, hv, r⟩ := so
      exact ⟨v, look_get hv, h v H A fp (.refl S) ⟨[], ⟨rfl, v, hv, rfl⟩, .nil, fun _ z => nomatch z⟩⟩
theorem rd_mv {i : Nat} : ∀ σ H Q, tE K mg W F (.mv i) σ H Q → tVar i σ H Q := fun σ H Q ⟨A₀, A, ρ, fp, S, h⟩ => by
  rw [evE] at h
  have so := S.sl i
  cases es : ρ[i]? with
  | none => rw [es] at h; exact h.elim
  | some s =>
    rw [es] at h
    rw [slot_get es] at so
    cases s with
    | un => exact h.elim
    | fz d =>
      obtain ⟨_, v, hv, r⟩ := so
      exact ⟨v, look_get hv, h v H A fp (.refl S) (.fz r)⟩
    | ow d =>
      obtain ⟨v, hv, r⟩ := so
      have hi := lt_of_get es
      have sub : ∀ a, Bs (fun a => A a ∨ a ∈ fp i) (fup fp i []) a → Bs A fp a := fun a b => by
        rcases b with (b | b) | ⟨j, b⟩
        · exact .inl b
        · exact .inr ⟨i, b⟩
        · by_cases e : j = i
          · rw [e, fup_same] at b; cases b
          · rw [fup_ne e] at b; exact .inr ⟨j, b⟩
      refine ⟨v, look_get hv, h v H (fun a => A a ∨ a ∈ fp i) (fup fp i []) ⟨?_, ⟨fun a h => .inl h, fun _ _ e _ => e, fun a b => .inl (sub a b)⟩, fun _ _ _ e => e⟩ ⟨fp i, r.mono (fun _ _ e _ => e) fun a b => .inl (sub a b), S.nd i, fun a z => ⟨.inr z, fun hA => S.na i a z hA⟩⟩⟩
      refine S.chg i (by rw [List.length_set]; exact S.len) (fun _ _ => rfl) (fun j hj => slot_set hj) (fun a h => .inl (S.sub a h)) (fun a h => h.elim .inl fun z => .inr (.inl z)) (fun a h => h.elim (S.tr a) fun z => (S.sl i).there a z) .nil (fun _ z => nomatch z) (fun _ z => nomatch z) (fun _ _ e _ => e) ?_
      rw [slot_set_same hi]
      exact rfl
    | mw d => exact h.elim
    | bw d => exact h.elim
/-- two operands, then an operation -/
theorem rd_two {a b e : Ex} {f : Opd → Opd → Env → Rr Opd} {r : R2} (he : ∀ ρ, evE F e ρ = (evE F a ρ).bind fun x ρ1 => (evE F b ρ1).bind fun y ρ2 => f x y ρ2) (hp : pureE e = (pureE a && pureE b))
    (hf : ∀ {A₀ A A₂ : Addr → Prop} {σ : L2.St} {H₂ : Hp} {ρ₂ : Env} {fp₂ : Nat → List Addr} {x y : V} {o u w : Opd} {ρ' : Env} {Q : VK}, SI K A₀ A₂ σ H₂ ρ₂ fp₂ → (okPt o b = true → OpdOk K H₂ A A₂ (Bs A₂ fp₂) σ x o) → OpdOk K H₂ A A₂ (Bs A₂ fp₂) σ y u →
      f o u ρ₂ = .ok w ρ' → (∀ v H', Res K H₂ (Bs A₂ fp₂) v w.val H' → w = opd w.val → Q v H') → (∀ v, OpdOk K H₂ A A₂ (Bs A₂ fp₂) σ v w → Q v H₂) → r x y H₂ Q)
    (hr : ∀ o u ρ₂, (∃ w, f o u ρ₂ = .ok w ρ₂) ∨ f o u ρ₂ = .stuck) : ∀ σ H Q, tE K mg W F e σ H Q → tOp r (tE K mg W F a) (tE K mg W F b) σ H Q := fun σ H Q ⟨A₀, A, ρ, fp, S, h⟩ => by
  rw [he] at h
  refine tE.first S h fun o ρ₁ h x H₁ A₁ fp₁ g₁ ok₁ => ?_
  refine tE.first g₁.si (Xmatch h S g₁.si g₁.tr) fun u ρ₂ h y H₂ A₂ fp₂ g₂ ok₂ => ?_
  have g := g₁.trans S g₂ (r := pureE e) fun z => by rw [hp, Bool.and_eq_true] at z; exact z
  rcases hr o u ρ₂ with ⟨w, ew⟩ | ew
  · rw [ew] at h
    refine hf g₂.si (fun hok => ok₁.later g₁.si g₂.tr (keep_of_okPt hok g₂.kp)) (ok₂.early g₁.tr.a) ew (fun v H' R hw => ?_) fun v okv => h v H₂ A₂ fp₂ g okv
    obtain ⟨A', g', ok'⟩ := g.res S R
    exact h v H' A' fp₂ g' (by rw [hw]; exact ok')
  · rw [ew] at h
    exact h.elim
theorem sh_of {A A' : Addr → Prop} {v : V} {o : Opd} {d : D} (S : SI K A₀ A' σ H ρ fp) (ok : OpdOk K H A A' (Bs A' fp) σ v o) (h : con ρ o = some d) (hs : shr o d = true) : ∃ q, Rp K H (Bs A' fp) v d q ∧ Sh d q := by
  unfold shr at hs
  rw [Bool.or_eq_true] at hs
  rcases hs with hs | hs
  · exact ⟨[], con_fr S ok h (.inl hs), .inl rfl⟩
  · obtain ⟨q, r, _⟩ := con_ok S ok h
    exact ⟨q, r, .inr hs⟩
theorem opd_val (r : D) : (opd r).val = r := by unfold opd; split <;> rfl
theorem ofOpt_ok {α : Type} {ρ ρ' : Env} {o : Option α} {w : α} (h : ofOpt ρ o = .ok w ρ') : o = some w ∧ ρ' = ρ := by
  cases o with
  | none => cases h
  | some a => cases h; exact ⟨rfl, rfl⟩
theorem ofOpt_or {α : Type} {ρ : Env} {o : Option α} : (∃ w, ofOpt ρ o = .ok w ρ) ∨ ofOpt ρ o = .stuck := by
  cases o with
  | none => exact .inr rfl
  | some a => exact .inl ⟨a, rfl⟩
theorem rd_bop {op : Operator} {a b : Ex} : ∀ σ H Q, tE K mg W F (.bop op a b) σ H Q → tOp (rBin K op) (tE K mg W F a) (tE K mg W F b) σ H Q := by
  refine rd_two (e := .bop op a b) (f := fun x y ρ2 => match con ρ2 x, con ρ2 y with
    | some d, some e => if okPt x b && (shr x d && shr y e) then ofOpt ρ2 ((bop op d e).map opd) else .stuck
    | _, _ => .stuck) (fun ρ => by rw [evE] <;> rfl) (by simp only [pureE]) ?_ ?_
  · intro A₀ A A₂ σ H₂ ρ₂ fp₂ x y o u w ρ' Q S okx oky h h1 _
    split at h
    · rename_i d e c1 c2
      split at h
      · rename_i hs
        rw [Bool.and_eq_true, Bool.and_eq_true] at hs
        obtain ⟨hb, _⟩ := ofOpt_ok h
        cases hb' : bop op d e with
        | none => rw [hb'] at hb; cases hb
        | some r =>
          rw [hb'] at hb
          have hw : opd r = w := Option.some.inj hb
          subst hw
          obtain ⟨q1, r1, s1⟩ := sh_of S (okx hs.1) c1 hs.2.1
          obtain ⟨q2, r2, s2⟩ := sh_of S oky c2 hs.2.2
          refine ⟨Bs A₂ fp₂, d, e, q1, q2, r, fun a b => S.bs b, r1, r2, s1, s2, hb', fun v H' R => h1 v H' ?_ ?_⟩
          · rw [opd_val]; exact R
          · rw [opd_val]
      · cases h
    · cases h
  · intro o u ρ₂
    split
    · split
      · exact ofOpt_or
      · exact .inr rfl
    · exact .inr rfl
theorem rd_cmp {op : Cop} {a b : Ex} : ∀ σ H Q, tE K mg W F (.cmp op a b) σ H Q → tOp (rCmp K op) (tE K mg W F a) (tE K mg W F b) σ H Q := by
  refine rd_two (e := .cmp op a b) (f := fun x y ρ2 => match con ρ2 x, con ρ2 y with
    | some d, some e => if okPt x b then ofOpt ρ2 ((cmpV op d e).map fun c => .fz (.bl c)) else .stuck
    | _, _ => .stuck) (fun ρ => by rw [evE] <;> rfl) (by simp only [pureE]) ?_ ?_
  · intro A₀ A A₂ σ H₂ ρ₂ fp₂ x y o u w ρ' Q S okx oky h _ h2
    split at h
    · rename_i d e c1 c2
      split at h
      · rename_i hs
        obtain ⟨hb, _⟩ := ofOpt_ok h
        cases hb' : cmpV op d e with
        | none => rw [hb'] at hb; cases hb
        | some k =>
          rw [hb'] at hb
          have hw : Opd.fz (.bl k) = w := Option.some.inj hb
          subst hw
          obtain ⟨q1, r1, _⟩ := con_ok S (okx hs) c1
          obtain ⟨q2, r2, _⟩ := con_ok S oky c2
          exact ⟨Bs A₂ fp₂, d, e, q1, q2, k, r1, r2, hb', h2 _ (.fz (.bl k))⟩
      · cases h
    · cases h
  · intro o u ρ₂
    split
    · split
      · exact ofOpt_or
      · exact .inr rfl
    · exact .inr rfl
/-! ### truth -/
theorem tru_ok' {v : V} {d : D} {q : List Addr} {B : Addr → Prop} (r : Rp K H B v d q) {k : Bool} (h : tru d = some k) : TruV K v H k := by
  unfold tru at h
  split at h
  · cases h; cases r; exact rfl
  · cases h; cases r; exact rfl
  · cases h; cases r; exact rfl
  · split at h
    · rename_i x hx
      cases h
      cases r
      refine ⟨by rw [str_len, ← line_eq]; exact hx, ?_⟩
      rw [str_len]
      cases x with
      | nil => rfl
      | cons c t =>
        have : (((c :: t).length : Nat) : Int) ≠ 0 := by simp only [List.length_cons]; omega
        simpa using this
    · cases h
  · cases h
    cases r with
    | tup t l =>
      refine .inr (.inl ⟨_, t.sq, ?_⟩)
      cases l <;> rfl
  · cases h
    cases r with
    | lf t l =>
      refine .inl ⟨_, .of t.1, ?_⟩
      generalize hq : ([] : List Addr) = q at l
      cases l <;> rfl
    | lo t l =>
      refine .inl ⟨_, .of t, ?_⟩
      cases l <;> rfl
  · cases h
    cases r with
    | dE t => exact .inr (.inr ⟨[], t.1, rfl⟩)
  · cases h
  · cases h
theorem tru_of {A A' : Addr → Prop} {v : V} {o : Opd} (S : SI K A₀ A' σ H ρ fp) (ok : OpdOk K H A A' (Bs A' fp) σ v o) {k : Bool} (h : (con ρ o).bind tru = some k) : TruV K v H k := by
  cases c1 : con ρ o with
  | none => rw [c1] at h; cases h
  | some d =>
    rw [c1] at h
    obtain ⟨q, r, _⟩ := con_ok S ok c1
    exact tru_ok' r h
theorem rd_band {a b : Ex} : ∀ σ H Q, tE K mg W F (.band a b) σ H Q → tAndT K (tE K mg W F a) (tE K mg W F b) σ H Q := fun σ H Q ⟨A₀, A, ρ, fp, S, h⟩ => by
  rw [evE] at h
  refine tE.first S h fun o ρ₁ h x H₁ A₁ fp₁ g₁ ok₁ => ?_
  split at h
  · rename_i ht
    exact ⟨true, tru_of g₁.si ok₁ ht, A₀, A₁, ρ₁, fp₁, g₁.si, (Xmatch h S g₁.si g₁.tr).imp (fun u ρ₂ _ h v H' A' fp' g₂ ok₂ => h v H' A' fp' (g₁.trans S g₂ fun z => by simpa [pureE] using z) (ok₂.early g₁.tr.a)) fun _ _ h => h⟩
  · rename_i ht
    exact ⟨false, tru_of g₁.si ok₁ ht, h x H₁ A₁ fp₁ ⟨g₁.si, g₁.tr, fun z => g₁.kp (by simp [pureE] at z; exact z.1)⟩ ok₁⟩
  · exact h.elim
theorem rd_bor {a b : Ex} : ∀ σ H Q, tE K mg W F (.bor a b) σ H Q → tOrT K (tE K mg W F a) (tE K mg W F b) σ H Q := fun σ H Q ⟨A₀, A, ρ, fp, S, h⟩ => by
  rw [evE] at h
  refine tE.first S h fun o ρ₁ h x H₁ A₁ fp₁ g₁ ok₁ => ?_
  split at h
  · rename_i ht
    exact ⟨true, tru_of g₁.si ok₁ ht, h x H₁ A₁ fp₁ ⟨g₁.si, g₁.tr, fun z => g₁.kp (by simp [pureE] at z; exact z.1)⟩ ok₁⟩
  · rename_i ht
    exact ⟨false, tru_of g₁.si ok₁ ht, A₀, A₁, ρ₁, fp₁, g₁.si, (Xmatch h S g₁.si g₁.tr).imp (fun u ρ₂ _ h v H' A' fp' g₂ ok₂ => h v H' A' fp' (g₁.trans S g₂ fun z => by simpa [pureE] using z) (ok₂.early g₁.tr.a)) fun _ _ h => h⟩
  · exact h.elim
theorem rd_bnot {a : Ex} : ∀ σ H Q, tE K mg W F (.bnot a) σ H Q → tNotT K (tE K mg W F a) σ H Q := fun σ H Q ⟨A₀, A, ρ, fp, S, h⟩ => by
  rw [evE] at h
  refine tE.first S h fun o ρ₁ h x H₁ A₁ fp₁ g₁ ok₁ => ?_
  split at h
  · rename_i k ht
    exact ⟨k, tru_of g₁.si ok₁ ht, h _ H₁ A₁ fp₁ ⟨g₁.si, g₁.tr, fun z => g₁.kp (by simpa [pureE] using z)⟩ (.fz (.bl _))⟩
  · exact h.elim
/-- a test by its value's truth -/
theorem rd_tst {e : Ex} : ∀ σ H Q, tT K mg W F e σ H Q → (fun σ H (Q : Bool → Hp → Prop) => tE K mg W F e σ H fun x H' => ∃ k, TruV K x H' k ∧ Q k H') σ H Q := fun σ H Q ⟨A₀, A, ρ, fp, S, h⟩ => by
  refine tE.first S h fun o ρ₁ h x H₁ A₁ fp₁ g₁ ok₁ => ?_
  cases ht : (con ρ₁ o).bind tru with
  | none => rw [ht] at h; exact h.elim
  | some k =>
    rw [ht] at h
    exact ⟨k, tru_of g₁.si ok₁ ht, h H₁ A₁ fp₁ g₁⟩
theorem tst_bind {α : Type} {r : Rr α} {f : α → Env → Rr Opd} : tst (r.bind f) = r.bind fun a ρ => tst (f a ρ) := by cases r <;> rfl
theorem tst_all {r : Rr Opd} {P : Bool → Env → Prop} {E : Exc → Env → Prop} (h : r.all (fun o ρ => (ofOpt ρ ((con ρ o).bind tru)).all P E) E) : (tst r).all P E := by
  cases r with
  | ok o ρ => exact h
  | exc x ρ => exact h
  | stuck => exact h
/-- the test of a and b -/
theorem rt_band {a b : Ex} : ∀ σ H Q, tT K mg W F (.band a b) σ H Q → tAnd (tT K mg W F a) (tT K mg W F b) σ H Q := fun σ H Q ⟨A₀, A, ρ, fp, S, h⟩ => by
  refine ⟨A₀, A, ρ, fp, S, ?_⟩
  rw [evE, tst_bind] at h
  refine tst_all (h.seq.imp (fun o ρ₁ _ h => ?_) fun _ _ h => h)
  split at h
  · rename_i ht
    rw [ht]
    exact fun H₁ A₁ fp₁ g₁ => ⟨A₀, A₁, ρ₁, fp₁, g₁.si, (Xmatch h S g₁.si g₁.tr).imp (fun u ρ₂ _ h H' A' fp' g₂ => h H' A' fp' (g₁.trans S g₂ fun z => by simpa [pureE] using z)) fun _ _ h => h⟩
  · rename_i ht
    rw [ht]
    have h' : (ofOpt ρ₁ ((con ρ₁ o).bind tru)).all _ _ := h
    rw [ht] at h'
    exact fun H₁ A₁ fp₁ g₁ => h' H₁ A₁ fp₁ ⟨g₁.si, g₁.tr, fun z => g₁.kp (by simp [pureE] at z; exact z.1)⟩
  · exact h.elim
theorem rt_bor {a b : Ex} : ∀ σ H Q, tT K mg W F (.bor a b) σ H Q → tOr (tT K mg W F a) (tT K mg W F b) σ H Q := fun σ H Q ⟨A₀, A, ρ, fp, S, h⟩ => by
  refine ⟨A₀, A, ρ, fp, S, ?_⟩
  rw [evE, tst_bind] at h
  refine tst_all (h.seq.imp (fun o ρ₁ _ h => ?_) fun _ _ h => h)
  split at h
  · rename_i ht
    rw [ht]
    have h' : (ofOpt ρ₁ ((con ρ₁ o).bind tru)).all _ _ := h
    rw [ht] at h'
    exact fun H₁ A₁ fp₁ g₁ => h' H₁ A₁ fp₁ ⟨g₁.si, g₁.tr, fun z => g₁.kp (by simp [pureE] at z; exact z.1)⟩
  · rename_i ht
    rw [ht]
    exact fun H₁ A₁ fp₁ g₁ => ⟨A₀, A₁, ρ₁, fp₁, g₁.si, (Xmatch h S g₁.si g₁.tr).imp (fun u ρ₂ _ h H' A' fp' g₂ => h H' A' fp' (g₁.trans S g₂ fun z => by simpa [pureE] using z)) fun _ _ h => h⟩
  · exact h.elim
theorem rt_bnot {a : Ex} : ∀ σ H Q, tT K mg W F (.bnot a) σ H Q → tNot (tT K mg W F a) σ H Q := fun σ H Q ⟨A₀, A, ρ, fp, S, h⟩ => by
  refine ⟨A₀, A, ρ, fp, S, ?_⟩
  rw [evE, tst_bind] at h
  refine tst_all (h.seq.imp (fun o ρ₁ _ h => ?_) fun _ _ h => h)
  split at h
  · rename_i k ht
    rw [ht]
    exact fun H₁ A₁ fp₁ g₁ => h H₁ A₁ fp₁ ⟨g₁.si, g₁.tr, fun z => g₁.kp (by simpa [pureE] using z)⟩
  · exact h.elim
theorem rd_ife {c a b : Ex} : ∀ σ H Q, tE K mg W F (.ife c a b) σ H Q → tIf (tT K mg W F c) (tE K mg W F a) (tE K mg W F b) σ H Q := fun σ H Q ⟨A₀, A, ρ, fp, S, h⟩ => by
  rw [evE] at h
  refine ⟨A₀, A, ρ, fp, S, h.seq.imp (fun t ρ₁ _ h H₁ A₁ fp₁ g₁ => ?_) fun _ _ h => h⟩
  have h := Xmatch h S g₁.si g₁.tr
  cases t with
  | true => exact ⟨A₀, A₁, ρ₁, fp₁, g₁.si, h.imp (fun u ρ₂ _ h v H' A' fp' g₂ ok₂ => h v H' A' fp' (g₁.trans S g₂ fun z => by simp [pureE] at z; exact ⟨z.1, z.2.1⟩) (ok₂.early g₁.tr.a)) fun _ _ h => h⟩
  | false => exact ⟨A₀, A₁, ρ₁, fp₁, g₁.si, h.imp (fun u ρ₂ _ h v H' A' fp' g₂ ok₂ => h v H' A' fp' (g₁.trans S g₂ fun z => by simp [pureE] at z; exact ⟨z.1, z.2.2⟩) (ok₂.early g₁.tr.a)) fun _ _ h => h⟩
theorem rd_cmp2 {op op' : Cop} {a b c : Ex} : ∀ σ H Q, tE K mg W F (.cmp2 op op' a b c) σ H Q → tChain (rCmp K op) (rCmp K op') (tE K mg W F a) (tE K mg W F b) (tE K mg W F c) σ H Q := fun σ H Q ⟨A₀, A, ρ, fp, S, h⟩ => by
  rw [evE] at h
  refine tE.first S h fun o ρ₁ h x H₁ A₁ fp₁ g₁ ok₁ => ?_
  refine tE.first g₁.si (Xmatch h S g₁.si g₁.tr) fun u ρ₂ h y H₂ A₂ fp₂ g₂ ok₂ => ?_
  have g := g₁.trans S g₂ (r := pureE a && pureE b) fun z => by rw [Bool.and_eq_true] at z; exact z
  split at h
  · rename_i d e c1 c2
    split at h
    · rename_i hs
      rw [Bool.and_eq_true] at hs
      have ok₁' := ok₁.later g₁.si g₂.tr (keep_of_okPt hs.1 g₂.kp)
      obtain ⟨q1, r1, _⟩ := con_ok g₂.si ok₁' c1
      obtain ⟨q2, r2, _⟩ := con_ok g₂.si ok₂ c2
      split at h
      · rename_i hk
        refine ⟨Bs A₂ fp₂, d, e, q1, q2, true, r1, r2, hk, true, rfl, ?_⟩
        refine tE.first g₂.si (Xmatch h g₁.si g₂.si g₂.tr) fun z ρ₃ h w H₃ A₃ fp₃ g₃ ok₃ => ?_
        have ok₂' := ok₂.later g₂.si g₃.tr (keep_of_okPt hs.2 g₃.kp)
        split at h
        · rename_i e' k' c3 c4
          cases hb : cmpV op' e' k' with
          | none => rw [hb] at h; exact h.elim
          | some k2 =>
            rw [hb] at h
            obtain ⟨q3, r3, _⟩ := con_ok g₃.si ok₂' c3
            obtain ⟨q4, r4, _⟩ := con_ok g₃.si ok₃ c4
            refine ⟨Bs A₃ fp₃, e', k', q3, q4, k2, r3, r4, hb, h _ H₃ A₃ fp₃ (g.trans S g₃ fun z => ?_) (.fz (.bl _))⟩
            simp [pureE] at z
            simp [z]
        · exact h.elim
      · rename_i hk
        refine ⟨Bs A₂ fp₂, d, e, q1, q2, false, r1, r2, hk, false, rfl, ?_⟩
        exact h _ H₂ A₂ fp₂ ⟨g.si, g.tr, fun z => g.kp (by simp [pureE] at z; simp [z])⟩ (.fz (.bl _))
      · exact h.elim
    · exact h.elim
  · exact h.elim
theorem noPl_of {o : Opd} (h : o.noPlB = true) : o.noPl := by
  cases o with
  | fz d => trivial
  | ow d => trivial
  | pt i p =>
    cases p with
    | nil => trivial
    | cons s p => cases h
/-! ### several -/
theorem rd_nil : ∀ σ H Q, tEs K mg W F [] σ H Q → tNil σ H Q := fun σ H Q ⟨A₀, A, ρ, fp, S, h⟩ => by
  rw [evEs] at h
  exact h.2 [] H A fp [] (.refl S) .nil .nil fun _ z => nomatch z
theorem OpdOk.r {B : Addr → Prop} {v : V} {o : Opd} (ok : OpdOk K H A A' B σ v o) : ∃ q, OpdR K H B σ v o q ∧ q.Nodup ∧ ∀ a ∈ q, A' a ∧ ¬ A a := ok
theorem rd_cons {e : Ex} {es : List Ex} : ∀ σ H Q, tEs K mg W F (e :: es) σ H Q → tCons (tE K mg W F e) (tEs K mg W F es) σ H Q := fun σ H Q ⟨A₀, A, ρ, fp, S, h⟩ => by
  rw [evEs] at h
  refine tE.first S h fun o ρ₁ h x H₁ A₁ fp₁ g₁ ok₁ => ?_
  refine ⟨A₀, A₁, ρ₁, fp₁, g₁.si, (Xmatch h S g₁.si g₁.tr).seq.imp (fun os ρ₂ _ h => ?_) fun _ _ h => h⟩
  obtain ⟨hk, h⟩ := h
  unfold okPts at hk
  rw [List.all_cons, Bool.or_eq_true, Bool.and_eq_true] at hk
  refine ⟨?_, fun vs H₂ A₂ fp₂ q g₂ rs nd hq => ?_⟩
  · unfold okPts
    rw [Bool.or_eq_true]
    refine hk.imp (·.2) fun z => ?_
    rw [pureEs, Bool.and_eq_true] at z
    exact z.2
  · obtain ⟨q1, r1', nd1, hq1⟩ := ok₁
    have r1 := r1'.later (fun a z => (hq1 a z).1) g₁.si g₂.tr (hk.elim (fun z => .inl (noPl_of z.1)) fun z => .inr (g₂.kp (by rw [pureEs, Bool.and_eq_true] at z; exact z.2)))
    refine h (x :: vs) H₂ A₂ fp₂ (q1 ++ q) (g₁.trans S g₂ fun z => by rw [pureEs, Bool.and_eq_true] at z; exact z) (.cons r1 rs) ?_ fun a z => ?_
    · rw [List.nodup_append]
      exact ⟨nd1, nd, fun a h1 b h2 e => (hq b h2).2 (hq1 b (by rw [← e]; exact h1)).1⟩
    · rcases List.mem_append.mp z with z | z
      · exact ⟨g₂.tr.a a (hq1 a z).1, (hq1 a z).2⟩
      · exact ⟨(hq a z).1, fun hA => (hq a z).2 (g₁.tr.a a hA)⟩
/-- the operands handed on for good -/
theorem als (g : EOk K A₀ A fp σ H p ρ₁ H₁ A₁ fp₁) {vs : List V} {os : List Opd} {q : List Addr} (rs : OpdsR K H₁ (Bs A₁ fp₁) σ vs os q) {ds : List D} {b : Bool} {ρ₂ : Env} (h : aliases ρ₁ os = some (ds, b, ρ₂)) :
    ∃ fp₂, EOk K A₀ A fp σ H p ρ₂ H₁ A₁ fp₂ ∧ RpL K H₁ (Bs A₁ fp₂) vs ds q ∧ (b = true → q = []) ∧ (∀ a, Bs A₁ fp₂ a → Bs A₁ fp₁ a) := by
  obtain ⟨fp₂, S₂, sub, l, hb⟩ := aliases_ok g.si rs h
  exact ⟨fp₂, ⟨S₂, ⟨g.tr.a, g.tr.k, fun a z => g.tr.b a (sub a z)⟩, g.kp⟩, l, hb, sub⟩
theorem if_some {α : Type} {c : Bool} {o : Option α} {x : α} (h : (if c = true then o else none) = some x) : c = true ∧ o = some x := by
  split at h
  · rename_i hc; exact ⟨hc, h⟩
  · cases h
theorem rd_tup {es : List Ex} : ∀ σ H Q, tE K mg W F (.tup es) σ H Q → tTup (tEs K mg W F es) σ H Q := fun σ H Q ⟨A₀, A, ρ, fp, S, h⟩ => by
  rw [evE] at h
  refine ⟨A₀, A, ρ, fp, S, h.seq.imp (fun os ρ₁ _ h => ?_) fun _ _ h => h⟩
  split at h
  · rename_i ds b ρ₂ ha
    obtain ⟨hk, ha⟩ := if_some ha
    refine ⟨hk, fun vs H₁ A₁ fp₁ q g rs nd hq => ?_⟩
    obtain ⟨fp₂, g₂, l, hb, _⟩ := als g rs ha
    split at h
    · rename_i hz
      refine ⟨by rw [l.len, ← line_eq]; exact hz, fun p hp => ?_⟩
      have S₂ := g₂.si.grow (A₁ := A₁) (H₁ := upd H₁ p (.tup vs)) g₂.si.sub (fun a h => .inl h) (fun a h => (g₂.si.tr a h).elim fun o e => ⟨o, upd_keep hp a o e⟩) (upd_keep hp)
      have g' : EOk K A₀ A fp σ H (pureE (.tup es)) ρ₂ (upd H₁ p (.tup vs)) A₁ fp₂ := ⟨S₂, ⟨g₂.tr.a, fun a o e n => upd_keep hp a o (g₂.tr.k a o e n), g₂.tr.b⟩, fun z a o e => upd_keep hp a o (g₂.kp (by simpa [pureE] using z) a o e)⟩
      have rt : Rp K (upd H₁ p (.tup vs)) (Bs A₁ fp₂) (.ref p) (.tup ds) q := .tup (.inl ⟨.inl upd_same, g₂.si.free hp⟩) (l.mono (fun a o e _ => upd_keep hp a o e) fun a b => .inl b)
      refine h _ _ A₁ fp₂ g' ?_
      cases b with
      | true =>
        rw [hb rfl] at rt
        exact .fz rt
      | false => exact ⟨q, rt, nd, hq⟩
    · exact h.elim
  · exact h.elim
theorem rd_lst {es : List Ex} : ∀ σ H Q, tE K mg W F (.lst es) σ H Q → tLst (tEs K mg W F es) σ H Q := fun σ H Q ⟨A₀, A, ρ, fp, S, h⟩ => by
  rw [evE] at h
  refine ⟨A₀, A, ρ, fp, S, h.seq.imp (fun os ρ₁ _ h => ?_) fun _ _ h => h⟩
  split at h
  · rename_i ds b ρ₂ ha
    obtain ⟨hk, ha⟩ := if_some ha
    refine ⟨hk, fun vs H₁ A₁ fp₁ q g rs nd hq => ?_⟩
    obtain ⟨fp₂, g₂, l, hb, _⟩ := als g rs ha
    split at h
    · rename_i hz
      refine ⟨by rw [l.len, ← line_eq]; exact hz, fun p hp => ?_⟩
      have np : ∀ a, Bs A₁ fp₂ a → a ≠ p := fun a b e => by
        obtain ⟨o, eo⟩ := g₂.si.bs b
        rw [e, hp] at eo; cases eo
      have S₂ := g₂.si.grow (A₁ := fun a => A₁ a ∨ a = p) (H₁ := upd H₁ p (.lst vs)) (fun a h => .inl (g₂.si.sub a h)) (fun a h => h.imp id fun z => by rw [z]; exact hp) (fun a h => h.elim (fun h => (g₂.si.tr a h).elim fun o e => ⟨o, upd_keep hp a o e⟩) fun z => ⟨.lst vs, by rw [z]; exact upd_same⟩) (upd_keep hp)
      have hbB : ∀ a, Bs (fun a => A₁ a ∨ a = p) fp₂ a → Bs A₁ fp₂ a ∨ H₁ a = none := fun a b => by
        rcases b with (b | b) | b
        · exact .inl (.inl b)
        · exact .inr (by rw [b]; exact hp)
        · exact .inl (.inr b)
      have g' : EOk K A₀ A fp σ H (pureE (.lst es)) ρ₂ (upd H₁ p (.lst vs)) (fun a => A₁ a ∨ a = p) fp₂ :=
        ⟨S₂, g₂.tr.trans S g₂.si ⟨fun a h => .inl h, fun a o e _ => upd_keep hp a o e, hbB⟩, fun z a o e => upd_keep hp a o (g₂.kp (by simpa [pureE] using z) a o e)⟩
      have pA : ¬ A p := fun h => np p (.inl (g₂.tr.a p h)) rfl
      refine h _ _ _ fp₂ g' ⟨p :: q, .lo upd_same (l.mono (fun a o e _ => upd_keep hp a o e) hbB), ?_, fun a z => ?_⟩
      · rw [List.nodup_cons]
        exact ⟨fun z => np p (.inl (hq p z).1) rfl, nd⟩
      · rcases List.mem_cons.mp z with z | z
        · rw [z]; exact ⟨.inr rfl, pA⟩
        · exact ⟨.inl (hq a z).1, (hq a z).2⟩
    · exact h.elim
  · exact h.elim
mutual
theorem Rp.frI {B : Addr → Prop} {v d} : ∀ {q}, Rp K H B v d q → q = [] → isFr d = true
  | _, .non, _ => rfl
  | _, .bl b, _ => rfl
  | _, .int i, _ => rfl
  | _, .str x, _ => rfl
  | _, .scr _, _ => rfl
  | _, .dE _, _ => rfl
  | _, .tup t l, h => RpL.frI l h
  | _, .lf t l, _ => by
    have := RpL.frI l rfl
    simpa [isFr] using this
  | _, .lo t l, h => nomatch h
theorem RpL.frI {B : Addr → Prop} {vs ds} : ∀ {q}, RpL K H B vs ds q → q = [] → isFrL ds = true
  | _, .nil, _ => rfl
  | _, .cons r l, h => by
    have h' := List.append_eq_nil_iff.mp h
    rw [isFrL, Rp.frI r h'.1, RpL.frI l h'.2] <;> rfl
end
theorem rd_sub {a i : Ex} : ∀ σ H Q, tE K mg W F (.sub a i) σ H Q → tOp (rIdx K) (tE K mg W F a) (tE K mg W F i) σ H Q := by
  refine rd_two (e := .sub a i) (f := fun x y ρ2 => match con ρ2 x, con ρ2 y with
    | some d, some k => if okPt x i then (match ixVal d k with
      | some e => (match x with
        | .fz _ => .ok (.fz e) ρ2
        | .ow _ => if isFr e then .ok (.fz e) ρ2 else .stuck
        | .pt j p => if isFr e then .ok (.fz e) ρ2 else (match ixStp d k with
          | some st => .ok (.pt j (p ++ [st])) ρ2
          | none => .stuck))
      | none => .stuck) else .stuck
    | _, _ => .stuck) (fun ρ => by rw [evE] <;> rfl) (by simp only [pureE]) ?_ ?_
  · intro A₀ A A₂ σ H₂ ρ₂ fp₂ x y o u w ρ' Q S okx oky h _ h2
    split at h
    · rename_i d k c1 c2
      split at h
      · rename_i hs
        have okx := okx hs
        obtain ⟨q2, r2, _⟩ := con_ok S oky c2
        split at h
        · rename_i e he
          cases o with
          | fz d' =>
            cases h
            have r1 := con_fr S okx c1 (.inl rfl)
            refine ⟨Bs A₂ fp₂, d, k, [], q2, e, r1, r2, he, fun v hv => h2 v (.fz ?_)⟩
            rcases hv with ⟨c, rfl, rfl⟩ | ⟨q, rv, hq, _⟩
            · exact .str [c]
            · have : q = [] := List.eq_nil_iff_forall_not_mem.mpr fun a z => nomatch hq a z
              rw [this] at rv; exact rv
          | ow d' =>
            dsimp only at h
            split at h
            · rename_i hf
              cases h
              obtain ⟨q1, r1, _⟩ := con_ok S okx c1
              refine ⟨Bs A₂ fp₂, d, k, q1, q2, e, r1, r2, he, fun v hv => h2 v (.fz ?_)⟩
              rcases hv with ⟨c, rfl, rfl⟩ | ⟨q, rv, hq, _⟩
              · exact .str [c]
              · rw [rv.fr hf] at rv; exact rv
            · cases h
          | pt j p =>
            dsimp only at h
            obtain ⟨q1, r1, _⟩ := con_ok S okx c1
            split at h
            · rename_i hf
              cases h
              refine ⟨Bs A₂ fp₂, d, k, q1, q2, e, r1, r2, he, fun v hv => h2 v (.fz ?_)⟩
              rcases hv with ⟨c, rfl, rfl⟩ | ⟨q, rv, hq, _⟩
              · exact .str [c]
              · rw [rv.fr hf] at rv; exact rv
            · rename_i hf
              split at h
              · rename_i st hst
                cases h
                refine ⟨Bs A₂ fp₂, d, k, q1, q2, e, r1, r2, he, fun v hv => h2 v ?_⟩
                rcases hv with ⟨c, rfl, rfl⟩ | ⟨q, rv, hq, hv⟩
                · exact (hf rfl).elim
                · obtain ⟨_, ⟨_, r, hr, va⟩, _⟩ := okx
                  exact ⟨[], ⟨rfl, r, hr, va.app (hv st hst fun z => hf (rv.frI z))⟩, .nil, fun _ z => nomatch z⟩
              · cases h
        · cases h
      · cases h
    · cases h
  · intro o u ρ₂
    split
    · split
      · split
        · cases o with
          | fz d => exact .inl ⟨_, rfl⟩
          | ow d =>
            dsimp only
            split
            · exact .inl ⟨_, rfl⟩
            · exact .inr rfl
          | pt j p =>
            dsimp only
            split
            · exact .inl ⟨_, rfl⟩
            · split
              · exact .inl ⟨_, rfl⟩
              · exact .inr rfl
        · exact .inr rfl
      · exact .inr rfl
    · exact .inr rfl
/-! ### slices -/
def tO (K : PySem.W.Frag) (mg : Str → Option Value) (W : WX) (F : Fn) (e : Option Ex) : TO := fun σ H Q => ∃ A₀ A ρ fp, SI K A₀ A σ H ρ fp ∧ (evO F e ρ).all (fun o ρ' => ∀ H' A' fp', EOk K A₀ A fp σ H (pureO e) ρ' H' A' fp' → Q o H') (XPost K mg A₀ A fp σ H W)
theorem rd_none : ∀ σ H Q, tO K mg W F none σ H Q → tNoPart σ H Q := fun σ H Q ⟨A₀, A, ρ, fp, S, h⟩ => by
  rw [evO] at h
  exact h H A fp (.refl S)
theorem rd_some {e : Ex} : ∀ σ H Q, tO K mg W F (some e) σ H Q → tPart (tE K mg W F e) σ H Q := fun σ H Q ⟨A₀, A, ρ, fp, S, h⟩ => by
  rw [evO] at h
  refine tE.first S h fun o ρ₁ h x H₁ A₁ fp₁ g₁ ok₁ => ?_
  split at h
  · obtain ⟨q, r, _⟩ := ok₁
    exact ⟨_, r.2.intI, h H₁ A₁ fp₁ g₁⟩
  · exact h.elim
theorem keep_of_okPtO {o : Opd} {e : Option Ex} (h : okPtO o e = true) {H H' : Hp} (kp : pureO e = true → Keep H H') : o.noPl ∨ ∀ a u, H a = some u → H' a = some u := by
  cases o with
  | fz d => exact .inl trivial
  | ow d => exact .inl trivial
  | pt i p =>
    cases p with
    | nil => exact .inl trivial
    | cons s p => exact .inr (kp h)
theorem rd_slc {a : Ex} {lo hi : Option Ex} : ∀ σ H Q, tE K mg W F (.slc a lo hi) σ H Q → tSl (rSli K) (tE K mg W F a) (tO K mg W F lo) (tO K mg W F hi) σ H Q := fun σ H Q ⟨A₀, A, ρ, fp, S, h⟩ => by
  rw [evE] at h
  refine tE.first S h fun o ρ₁ h x H₁ A₁ fp₁ g₁ ok₁ => ?_
  refine ⟨A₀, A₁, ρ₁, fp₁, g₁.si, (Xmatch h S g₁.si g₁.tr).seq.imp (fun l ρ₂ _ h H₂ A₂ fp₂ g₂ => ?_) fun _ _ h => h⟩
  refine ⟨A₀, A₂, ρ₂, fp₂, g₂.si, (Xmatch h g₁.si g₂.si g₂.tr).seq.imp (fun u ρ₃ _ h H₃ A₃ fp₃ g₃ => ?_) fun _ _ h => h⟩
  have g12 := g₁.trans S g₂ (r := pureE a && pureO lo) fun z => by rw [Bool.and_eq_true] at z; exact z
  have g := g12.trans S g₃ (r := pureE (.slc a lo hi)) fun z => by simp [pureE] at z; simp [z]
  split at h
  · rename_i d c1
    split at h
    · rename_i hs
      rw [Bool.and_eq_true, Bool.and_eq_true] at hs
      have ok₁' := (ok₁.later g₁.si g₂.tr (keep_of_okPtO hs.1 g₂.kp)).later g₂.si g₃.tr (keep_of_okPtO hs.2.1 g₃.kp)
      obtain ⟨q, r, sh⟩ := sh_of g₃.si ok₁' c1 hs.2.2
      cases hb : slice d l u with
      | none => rw [hb] at h; exact h.elim
      | some r' =>
        rw [hb] at h
        refine ⟨Bs A₃ fp₃, d, q, r', fun a b => g₃.si.bs b, r, sh, hb, fun v H' R => ?_⟩
        obtain ⟨A', g', ok'⟩ := g.res S R
        exact h v H' A' fp₃ g' ok'
    · exact h.elim
  · exact h.elim
/-! ### built-ins -/
theorem cons_con {os : List Opd} {ds : List D} (h : cons_ ρ os = some ds) : (os = [] ∧ ds = []) ∨ ∃ o os' d ds', os = o :: os' ∧ ds = d :: ds' ∧ con ρ o = some d ∧ cons_ ρ os' = some ds' := by
  cases os with
  | nil => cases h; exact .inl ⟨rfl, rfl⟩
  | cons o os =>
    rw [cons_] at h
    split at h
    · rename_i d ds' h1 h2
      cases h
      exact .inr ⟨o, os, d, ds', rfl, rfl, h1, h2⟩
    · cases h
theorem args_of (S : SI K A₀ A' σ H ρ fp) {sh : Bool} : ∀ {vs : List V} {os : List Opd} {q : List Addr} {ds : List D}, OpdsR K H (Bs A' fp) σ vs os q → (∀ a ∈ q, A' a) → cons_ ρ os = some ds → (sh = true → shrs os ds = true) → ArgsR K H (Bs A' fp) sh vs ds
  | _, _, _, _, .nil, _, h, _ => by cases h; exact .nil
  | _, _, _, _, .cons (v := v) (o := o) (os := os) (q := q1) (Q := q2) r t, hq, h, hs => by
    rw [cons_] at h
    split at h
    · rename_i d ds' h1 h2
      cases h
      have hs' : sh = true → shr o d = true ∧ shrs os ds' = true := fun z => by
        have := hs z
        rw [shrs, Bool.and_eq_true] at this
        exact this
      have rr : ∃ q, Rp K H (Bs A' fp) v d q ∧ (sh = true → Sh d q) := by
        cases o with
        | fz e => cases h1; exact ⟨[], r.2, fun _ => .inl rfl⟩
        | ow e =>
          cases h1
          exact ⟨q1, r, fun z => .inr (by have := (hs' z).1; simpa [shr, Opd.isFz] using this)⟩
        | pt i p =>
          obtain ⟨e0, w, hw, va⟩ := r
          obtain ⟨q, rr, _⟩ := con_ok (A := A') (v := v) (o := .pt i p) S ⟨[], ⟨rfl, w, hw, va⟩, .nil, fun _ z => nomatch z⟩ h1
          exact ⟨q, rr, fun z => .inr (by have := (hs' z).1; simpa [shr, Opd.isFz] using this)⟩
      obtain ⟨q, rr, sq⟩ := rr
      exact .cons rr sq (args_of S t (fun a z => hq a (List.mem_append_right _ z)) h2 fun z => (hs' z).2)
    · cases h
theorem rd_bi {f : Str} {es : List Ex} : ∀ σ H Q, tE K mg W F (.bi f es) σ H Q → tCB (rBi K f) (tEs K mg W F es) σ H Q := fun σ H Q ⟨A₀, A, ρ, fp, S, h⟩ => by
  rw [evE] at h
  refine ⟨A₀, A, ρ, fp, S, h.seq.imp (fun os ρ₁ _ h => ?_) fun _ _ h => h⟩
  split at h
  · rename_i ds hc
    split at h
    · rename_i hk
      refine ⟨hk, fun vs H₁ A₁ fp₁ q g rs nd hq => ?_⟩
      split at h
      · rename_i r hr
        split at h
        · rename_i hs
          have fin : ∀ v H', Res K H₁ (Bs A₁ fp₁) v r H' → Q v H' := fun v H' R => by
            obtain ⟨A', g', ok'⟩ := g.res S R
            exact h v H' A' fp₁ ⟨g'.si, g'.tr, fun z => g'.kp (by simpa [pureE] using z)⟩ ok'
          rw [Bool.or_eq_true] at hs
          rcases hs with hs | hs
          · exact ⟨Bs A₁ fp₁, ds, r, false, fun a b => g.si.bs b, args_of g.si rs (fun a z => (hq a z).1) hc (fun z => nomatch z), .inl hs, hr, fin⟩
          · exact ⟨Bs A₁ fp₁, ds, r, true, fun a b => g.si.bs b, args_of g.si rs (fun a z => (hq a z).1) hc (fun _ => hs), .inr rfl, hr, fin⟩
        · exact h.elim
      · exact h.elim
    · exact h.elim
  · exact h.elim
def rIsI (K : PySem.W.Frag) (t : Str) : List V → Hp → VK → Prop := fun xs H Q => ∃ (B : Addr → Prop) (x c : V) (d : D) (q : List Addr) (k : Bool), xs = [x, c] ∧ Rp K H B x d q ∧ isInst d t = some k ∧ Q (.bl k) H
theorem rd_isi {a : Ex} {t : Str} {c : V} : ∀ σ H Q, tE K mg W F (.isi a t) σ H Q → tCB (fun xs H Q => ∃ (B : Addr → Prop) (x : V) (d : D) (q : List Addr) (k : Bool), xs = [x, c] ∧ Rp K H B x d q ∧ isInst d t = some k ∧ Q (.bl k) H) (tCons (tE K mg W F a) (tCons (tC c) tNil)) σ H Q := fun σ H Q ⟨A₀, A, ρ, fp, S, h⟩ => by
  rw [evE] at h
  refine tE.first S h fun o ρ₁ h x H₁ A₁ fp₁ g₁ ok₁ => ?_
  split at h
  · rename_i d c1
    cases hb : isInst d t with
    | none => rw [hb] at h; exact h.elim
    | some k =>
      rw [hb] at h
      obtain ⟨q, r, _⟩ := con_ok g₁.si ok₁ c1
      exact ⟨Bs A₁ fp₁, x, d, q, k, rfl, r, hb, h _ H₁ A₁ fp₁ ⟨g₁.si, g₁.tr, fun z => g₁.kp (by simpa [pureE] using z)⟩ (.fz (.bl _))⟩
  · exact h.elim
theorem rd_neg {a : Ex} : ∀ σ H Q, tE K mg W F (.neg a) σ H Q → tUn (rU fun i => .int (-i)) (tE K mg W F a) σ H Q := fun σ H Q ⟨A₀, A, ρ, fp, S, h⟩ => by
  rw [evE] at h
  refine tE.first S h fun o ρ₁ h x H₁ A₁ fp₁ g₁ ok₁ => ?_
  split at h
  · obtain ⟨q, r, _⟩ := ok₁
    exact ⟨_, r.2.intI, h _ H₁ A₁ fp₁ ⟨g₁.si, g₁.tr, fun z => g₁.kp (by simpa [pureE] using z)⟩ (.fz (.int _))⟩
  · exact h.elim
end
end Rw

set_option Elab.async false
set_option linter.all false
set_option maxRecDepth 100000
/-! RwH: methods, calls of the program's own defs. -/
namespace Rw
open PySem PySem.Spec PyProof.Rows L2
section
variable {K : PySem.W.Frag} {mg : Str → Option Value} {A₀ A A' A₁ : Addr → Prop} {σ : L2.St} {H H' H₁ : Hp} {ρ ρ' ρ₁ : Env} {fp fp' fp₁ : Nat → List Addr} {W : WX} {F : Fn} {e : Ex} {Q : VK} {p : Bool}
theorem getD_map {o : Option D} {f : D → Bool} (h : (o.map f).getD false = true) : ∃ d, o = some d ∧ f d = true := by
  cases o with
  | none => cases h
  | some d => exact ⟨d, rfl, h⟩
theorem Rr.if_all {α : Type} {c : Bool} {r : Rr α} {P : α → Env → Prop} {E : Exc → Env → Prop} (h : (if c = true then r else .stuck).all P E) : c = true ∧ r.all P E := by
  split at h
  · rename_i hc; exact ⟨hc, h⟩
  · exact h.elim
/-- a method that changes nothing, of a text -/
theorem rd_mth {m : Str} {o : Ex} {es : List Ex} (hm : isMut m = false) : ∀ σ H Q, tE K mg W F (.mth m o es) σ H Q → tBM K "str" (rMth K m) (tE K mg W F o) (tEs K mg W F es) σ H Q := fun σ H Q ⟨A₀, A, ρ, fp, S, h⟩ => by
  rw [evE] at h
  refine tE.first S h fun x ρ₁ h v H₁ A₁ fp₁ g₁ ok₁ => ?_
  obtain ⟨hty, h⟩ := Rr.if_all h
  obtain ⟨d0, hd0, hty⟩ := getD_map hty
  refine ⟨?_, ?_⟩
  · obtain ⟨q, r, _⟩ := con_ok g₁.si ok₁ hd0
    unfold tyOk at hty
    rw [hm] at hty
    cases d0 <;> first | (rw [r.strI]; exact rfl) | simp at hty
  · refine ⟨A₀, A₁, ρ₁, fp₁, g₁.si, (Xmatch h S g₁.si g₁.tr).seq.imp (fun os ρ₂ _ h => ?_) fun _ _ h => h⟩
    obtain ⟨hs, h⟩ := Rr.if_all h
    rw [Bool.and_eq_true] at hs
    refine ⟨hs.2, fun vs H₂ A₂ fp₂ q g₂ rs nd hq => ?_⟩
    rw [hm] at h
    have hx := ok₁.later g₁.si g₂.tr (keep_of_okPt hs.1 (fun z => g₂.kp (by simpa [pureE] using z)))
    have h : (match con ρ₂ x, cons_ ρ₂ os with
      | some d, some ds => (match mthV m d ds with
        | some r => if flat r || (shr x d && shrs os ds) then Rr.ok (opd r) ρ₂ else .stuck
        | none => .stuck)
      | _, _ => .stuck).all _ _ := h
    split at h
    · rename_i d ds c1 c2
      split at h
      · rename_i r hr
        obtain ⟨hf, h⟩ := Rr.if_all h
        have fin : ∀ v H', Res K H₂ (Bs A₂ fp₂) v r H' → Q v H' := fun v H' R => by
          obtain ⟨A', g', ok'⟩ := (g₁.trans S g₂ (r := pureE (.mth m o es)) fun z => by simp [pureE] at z; simp [z]).res S R
          exact h v H' A' fp₂ g' ok'
        rw [Bool.or_eq_true] at hf
        rcases hf with hf | hf
        · obtain ⟨q1, r1, _⟩ := con_ok g₂.si hx c1
          exact ⟨Bs A₂ fp₂, d, q1, ds, r, false, fun a b => g₂.si.bs b, r1, (fun z => nomatch z), args_of g₂.si rs (fun a z => (hq a z).1) c2 (fun z => nomatch z), .inl hf, hr, fin⟩
        · rw [Bool.and_eq_true] at hf
          obtain ⟨q1, r1, s1⟩ := sh_of g₂.si hx c1 hf.1
          exact ⟨Bs A₂ fp₂, d, q1, ds, r, true, fun a b => g₂.si.bs b, r1, fun _ => s1, args_of g₂.si rs (fun a z => (hq a z).1) c2 (fun _ => hf.2), .inr rfl, hr, fin⟩
      · exact h.elim
    · exact h.elim
/-- a method that changes its receiver -/
theorem rd_mut {m : Str} {o : Ex} {es : List Ex} (hm : isMut m = true) : ∀ σ H Q, tE K mg W F (.mth m o es) σ H Q → tBM K "list" (rMut K m) (tE K mg W F o) (tEs K mg W F es) σ H Q := fun σ H Q ⟨A₀, A, ρ, fp, S, h⟩ => by
  rw [evE] at h
  refine tE.first S h fun x ρ₁ h v H₁ A₁ fp₁ g₁ ok₁ => ?_
  obtain ⟨hty, h⟩ := Rr.if_all h
  obtain ⟨d0, hd0, hty⟩ := getD_map hty
  refine ⟨?_, ?_⟩
  · obtain ⟨q, r, _⟩ := con_ok g₁.si ok₁ hd0
    unfold tyOk at hty
    rw [hm] at hty
    rw [if_pos rfl] at hty
    split at hty
    · obtain ⟨p, vs, f, rfl, t, l, _⟩ := r.lstO
      exact .inl ⟨rfl, _, .of t⟩
    · cases hty
  · refine ⟨A₀, A₁, ρ₁, fp₁, g₁.si, (Xmatch h S g₁.si g₁.tr).seq.imp (fun os ρ₂ _ h => ?_) fun _ _ h => h⟩
    obtain ⟨hs, h⟩ := Rr.if_all h
    rw [Bool.and_eq_true] at hs
    refine ⟨hs.2, fun vs H₂ A₂ fp₂ q g₂ rs nd hq => ?_⟩
    rw [hm] at h
    have hx := ok₁.later g₁.si g₂.tr (keep_of_okPt hs.1 (fun z => g₂.kp (by simpa [pureE] using z)))
    have g := g₁.trans S g₂ (r := false) (fun z => nomatch z)
    rw [if_pos rfl] at h
    cases x with
    | fz d => exact h.elim
    | ow d => exact h.elim
    | pt i pl =>
      dsimp only at h
      split at h
      · rename_i ds b ρ₃ ha
        obtain ⟨fp₃, g₃, l, _, sub⟩ := als g rs ha
        split at h
        · rename_i d hd
          split at h
          · rename_i r d' hmv
            split at h
            · rename_i ρ₄ hset
              obtain ⟨_, ⟨_, w, hw, va⟩, _⟩ := hx
              obtain ⟨f, pre, post, k1, k2, k3⟩ := g₃.si.putAt hd hw va hset
              have ndi := g₃.si.nd i
              have fB : ∀ a ∈ f, Bs A₂ fp₃ a := fun a z => .inr ⟨i, by rw [k1]; simp [z]⟩
              have fnA : ∀ a ∈ f, ¬ A₂ a := fun a z => g₃.si.na i a (by rw [k1]; simp [z])
              have ndf : f.Nodup := by
                rw [k1] at ndi
                exact (List.nodup_append.mp (List.nodup_append.mp ndi).2.1).1
              refine ⟨Bs A₂ fp₃, d, f, ds, q, r, d', k2, l, ?_, fB, hmv, fun v' H' q' qr kp rd' rr ndq hqq => ?_⟩
              · rw [List.nodup_append]
                exact ⟨ndf, nd, fun a h1 b h2 e => fnA a h1 (by rw [e]; exact (hq b h2).1)⟩
              have mem : ∀ a, a ∈ q' ∨ a ∈ qr → a ∈ f ∨ a ∈ q := fun a z => by
                have := hqq a (List.mem_append.mpr z)
                exact List.mem_append.mp this
              have memB : ∀ a, a ∈ q' ∨ a ∈ qr → Bs A₂ fp₃ a := fun a z => (mem a z).elim (fB a) fun y => .inl (hq a y).1
              have ndq' := List.nodup_append.mp ndq
              have A0 : ∀ a, A a → (A₂ a ∧ a ∉ q) ∨ a ∈ qr := fun a h => .inl ⟨g₃.tr.a a h, fun z => (hq a z).2 (g₁.tr.a a h)⟩
              have sub' : ∀ a, Bs (fun a => (A₂ a ∧ a ∉ q) ∨ a ∈ qr) (fup fp₃ i (pre ++ (q' ++ post))) a → Bs A₂ fp₃ a := fun a b => by
                rcases b with (b | b) | ⟨j, b⟩
                · exact .inl b.1
                · exact memB a (.inr b)
                · by_cases e : j = i
                  · rw [e, fup_same] at b
                    have b' : a ∈ pre ∨ a ∈ q' ∨ a ∈ post := by simpa using b
                    rcases b' with z | z | z
                    · exact .inr ⟨i, by rw [k1]; simp [z]⟩
                    · exact memB a (.inl z)
                    · exact .inr ⟨i, by rw [k1]; simp [z]⟩
                  · rw [fup_ne e] at b
                    exact .inr ⟨j, b⟩
              have S4 := k3 (A₁ := fun a => (A₂ a ∧ a ∉ q) ∨ a ∈ qr) (H₁ := H') (f' := q') (fun a h => A0 a (S.sub a h)) (fun a h => by
                  rcases h with h | h
                  · exact .inl h.1
                  · exact (mem a (.inr h)).elim (fun z => .inr (.inl z)) fun z => .inl (hq a z).1)
                (fun a h => by
                  rcases h with h | h
                  · obtain ⟨o, eo⟩ := g₃.si.tr a h.1
                    exact ⟨o, kp a o eo fun z => fnA a z h.1⟩
                  · exact rr.there a h)
                ndq'.1 (fun a h => (mem a (.inl h)).elim .inl fun z => .inr (.inl (hq a z).1))
                (fun a h hA => by
                  rcases hA with hA | hA
                  · rcases mem a (.inl h) with z | z
                    · exact fnA a z hA.1
                    · exact hA.2 z
                  · exact ndq'.2.2 a h a hA rfl)
                kp (rd'.mono (fun _ _ e _ => e) fun a b => .inl (sub' a b))
              have t4 : Tr A fp H (fun a => (A₂ a ∧ a ∉ q) ∨ a ∈ qr) (fup fp₃ i (pre ++ (q' ++ post))) H' := ⟨A0, fun a o e n => by
                have e2 := g₃.tr.k a o e n
                refine kp a o e2 fun z => ?_
                rcases g₃.tr.b a (fB a z) with (y | ⟨j, y⟩) | y
                · exact fnA a z (g₃.tr.a a y)
                · exact n j y
                · exact absurd (e.symm.trans y) (fun z => by cases z), fun a b => g₃.tr.b a (sub' a b)⟩
              refine h v' H' _ _ ⟨S4, t4, fun z => ?_⟩ ⟨qr, ?_, ndq'.2.1, fun a z => ⟨.inr z, fun hA => ?_⟩⟩
              · have : pureE (.mth m o es) = false := by
                  unfold isMut at hm
                  simp [pureE, hm]
                rw [this] at z; cases z
              · unfold opd
                have rr' := rr.mono (H' := H') (B' := Bs (fun a => (A₂ a ∧ a ∉ q) ∨ a ∈ qr) (fup fp₃ i (pre ++ (q' ++ post)))) (fun _ _ e _ => e) fun a b => .inl (sub' a b)
                split
                · rename_i hf
                  have := rr.fr hf
                  subst this
                  exact ⟨rfl, rr'⟩
                · exact rr'
              · rcases mem a (.inr z) with y | y
                · exact fnA a y (g₃.tr.a a hA)
                · exact (hq a y).2 (g₁.tr.a a hA)
            · exact h.elim
          · exact h.elim
        · exact h.elim
      · exact h.elim
/-! ### calls -/
theorem alPass_ok : ∀ {ms : List Mode} {os os' : List Opd} {vs : List V} {q : List Addr} {ρ ρ' : Env} {fp : Nat → List Addr}, SI K A₀ A' σ H ρ fp → OpdsR K H (Bs A' fp) σ vs os q → alPass ρ ms os = some (os', ρ') →
    ∃ fp', SI K A₀ A' σ H ρ' fp' ∧ (∀ a, Bs A' fp' a → Bs A' fp a) ∧ OpdsR K H (Bs A' fp') σ vs os' q ∧ os'.length = ms.length ∧ ∀ (j : Nat) (i : Nat) (p : List Stp), ms[j]? = some .al → os'[j]? ≠ some (.pt i p)
  | [], [], os', _, _, ρ, ρ', fp, S, .nil, h => by
    have e : some ([], ρ) = some (os', ρ') := h
    cases e
    exact ⟨fp, S, fun _ b => b, .nil, rfl, fun j i p h => by simp at h⟩
  | [], _ :: _, os', _, _, ρ, ρ', fp, S, _, h => by cases h
  | m :: ms, [], os', _, _, ρ, ρ', fp, S, _, h => by cases m <;> cases h
  | m :: ms, o :: os, os', _, _, ρ, ρ', fp, S, .cons (v := v) (q := q) (vs := vs) (Q := Q) r t, h => by
    have rest : ∀ {o' : Opd} {ρ1 : Env} {fp1 : Nat → List Addr}, SI K A₀ A' σ H ρ1 fp1 → (∀ a, Bs A' fp1 a → Bs A' fp a) → OpdR K H (Bs A' fp1) σ v o' q → (m = .al → ∀ i p, o' ≠ .pt i p) → (alPass ρ1 ms os).map (fun (os', ρ'') => (o' :: os', ρ'')) = some (os', ρ') →
        ∃ fp', SI K A₀ A' σ H ρ' fp' ∧ (∀ a, Bs A' fp' a → Bs A' fp a) ∧ OpdsR K H (Bs A' fp') σ (v :: vs) os' (q ++ Q) ∧ os'.length = (m :: ms).length ∧ ∀ (j : Nat) (i : Nat) (p : List Stp), (m :: ms)[j]? = some .al → os'[j]? ≠ some (.pt i p) := by
      intro o' ρ1 fp1 S1 s1 r1 n1 h
      cases e2 : alPass ρ1 ms os with
      | none => rw [e2] at h; cases h
      | some y =>
        obtain ⟨os2, ρ2⟩ := y
        rw [e2] at h
        simp only [Option.map_some, Option.some.injEq, Prod.mk.injEq] at h
        obtain ⟨rfl, rfl⟩ := h
        obtain ⟨fp2, S2, s2, r2, l2, n2⟩ := alPass_ok S1 (t.shrink s1) e2
        refine ⟨fp2, S2, fun a b => s1 a (s2 a b), .cons (r1.shrink s2) r2, by simp [l2], fun j i p hj => ?_⟩
        cases j with
        | zero =>
          simp at hj ⊢
          exact n1 hj i p
        | succ j =>
          simp at hj ⊢
          exact n2 j i p hj
    cases m with
    | al =>
      rw [alPass] at h
      cases e1 : alias_ ρ o with
      | none => rw [e1] at h; cases h
      | some x =>
        obtain ⟨o', ρ1⟩ := x
        rw [e1] at h
        obtain ⟨fp1, S1, s1, r1, n1⟩ := alias_ok S r e1
        exact rest S1 s1 r1 (fun _ => n1) h
    | bw => exact rest S (fun _ b => b) r (fun z => by cases z) h
    | mu => exact rest S (fun _ b => b) r (fun z => by cases z) h
theorem OpdsR.get {B : Addr → Prop} : ∀ {vs : List V} {os : List Opd} {q : List Addr}, OpdsR K H B σ vs os q → ∀ {j : Nat} {o : Opd}, os[j]? = some o → ∃ v q', vs[j]? = some v ∧ OpdR K H B σ v o q' ∧ ∀ a ∈ q', a ∈ q
  | _, _, _, .nil, j, o, h => by simp at h
  | _, _, _, .cons (q := q) r t, 0, o, h => by
    simp at h
    subst h
    exact ⟨_, q, rfl, r, fun a z => List.mem_append_left _ z⟩
  | _, _, _, .cons r t, j + 1, o, h => by
    obtain ⟨v, q', h1, h2, h3⟩ := t.get (j := j) (o := o) (by simpa using h)
    exact ⟨v, q', by simpa using h1, h2, fun a z => List.mem_append_right _ (h3 a z)⟩
theorem OpdsR.len {B : Addr → Prop} : ∀ {vs : List V} {os : List Opd} {q : List Addr}, OpdsR K H B σ vs os q → vs.length = os.length
  | _, _, _, .nil => rfl
  | _, _, _, .cons r t => by rw [List.length_cons, List.length_cons, t.len]
theorem argV_get : ∀ {ms : List Mode} {os : List Opd} {ds : List D}, argV ρ ms os = some ds → ds.length = ms.length ∧ ms.length = os.length ∧ ∀ (j : Nat) m, ms[j]? = some m → ∃ o d, os[j]? = some o ∧ ds[j]? = some d ∧ argD ρ m o = some d
  | [], [], ds, h => by
    cases h
    exact ⟨rfl, rfl, fun j m h => by simp at h⟩
  | [], _ :: _, ds, h => by cases h
  | m :: ms, [], ds, h => by cases h
  | m :: ms, o :: os, ds, h => by
    rw [argV] at h
    split at h
    · rename_i d ds' h1 h2
      cases h
      obtain ⟨l1, l2, g⟩ := argV_get h2
      refine ⟨by simp [l1], by simp [l2], fun j m' hj => ?_⟩
      cases j with
      | zero =>
        simp at hj
        subst hj
        exact ⟨o, d, rfl, rfl, h1⟩
      | succ j =>
        obtain ⟨o', d', g1, g2, g3⟩ := g j m' (by simpa using hj)
        exact ⟨o', d', by simpa using g1, by simpa using g2, g3⟩
    · cases h
def argSlot : Mode → D → Slot
  | .al, d => .fz d
  | .bw, d => .bw d
  | .mu, d => .mw d
def argE (ms : List Mode) (ds : List D) : Env := (ms.zip ds).map fun p => argSlot p.1 p.2
/-- behind a call: what may be changed alone -/
def retE : List Mode → List D → Env
  | [], _ => []
  | .mu :: ms, d :: ds => .mw d :: retE ms ds
  | _ :: ms, ds => .un :: retE ms ds
def FRes.all (r : FRes) (P : D → List D → Prop) (E : Exc → List D → Prop) : Prop := match r with
  | .rt d mus => P d mus
  | .exc x mus => E x mus
  | .stuck => False
/-- a def's promise, by its function on data -/
def spD (K : PySem.W.Frag) (mg : Str → Option Value) (ms : List Mode) (m : List D → FRes) : Sp := fun vs H Q E => ∃ A ds fp, vs.length = ms.length ∧ ds.length = ms.length ∧ SI K A A (vs.map some) H (argE ms ds) fp ∧
  (m ds).all (fun d mus => ∀ v H' A' fp', SI K A A' (vs.map some) H' (retE ms mus) fp' → Tr A fp H A' fp' H' → OpdOk K H' A A' (Bs A' fp') (vs.map some) v (opd d) → Q v H')
    (fun x mus => ∀ cls dx H' fp', SI K A A (vs.map some) H' (retE ms mus) fp' → Tr A fp H A fp' H' → XAt mg x cls dx H' → E cls dx H')
/-- the places of what may be changed -/
theorem muPl_nil : ∀ {ms : List Mode} {os : List Opd}, muPl ms os = [] → ms.length = os.length → (∀ (j : Nat) o, ms[j]? = some .mu → os[j]? = some o → ∃ i p, o = .pt i p) → ∀ j : Nat, ms[j]? ≠ some .mu
  | [], [], _, _, _, j => by simp
  | m :: ms, [], _, h, _, _ => by simp at h
  | [], _ :: _, _, h, _, _ => by simp at h
  | m :: ms, o :: os, h, hl, hp, j => by
    have tl : muPl ms os = [] → ∀ j : Nat, ms[j]? ≠ some .mu := fun h => muPl_nil h (by simpa using hl) fun j o h1 h2 => hp (j + 1) o (by simpa using h1) (by simpa using h2)
    cases m with
    | mu =>
      obtain ⟨i, p, rfl⟩ := hp 0 o rfl rfl
      cases h
    | al =>
      cases j with
      | zero => simp
      | succ j => simpa using tl h j
    | bw =>
      cases j with
      | zero => simp
      | succ j => simpa using tl h j
theorem muPl_one : ∀ {ms : List Mode} {os : List Opd} {i : Nat} {p : List Stp}, muPl ms os = [(i, p)] → ms.length = os.length → (∀ (j : Nat) o, ms[j]? = some .mu → os[j]? = some o → ∃ i p, o = .pt i p) → ∃ j : Nat, ms[j]? = some Mode.mu ∧ os[j]? = some (Opd.pt i p) ∧ ∀ k : Nat, ms[k]? = some Mode.mu → k = j
  | [], [], _, _, h, _, _ => by cases h
  | m :: ms, [], _, _, _, h, _ => by simp at h
  | [], _ :: _, _, _, _, h, _ => by simp at h
  | m :: ms, o :: os, i, p, h, hl, hp => by
    have hp' : ∀ (j : Nat) o, ms[j]? = some .mu → os[j]? = some o → ∃ i p, o = .pt i p := fun j o h1 h2 => hp (j + 1) o (by simpa using h1) (by simpa using h2)
    have tl : m ≠ .mu → muPl ms os = [(i, p)] → ∃ j : Nat, (m :: ms)[j]? = some Mode.mu ∧ (o :: os)[j]? = some (Opd.pt i p) ∧ ∀ k : Nat, (m :: ms)[k]? = some Mode.mu → k = j := fun hm h => by
      obtain ⟨j, h1, h2, h3⟩ := muPl_one h (by simpa using hl) hp'
      refine ⟨j + 1, by simpa using h1, by simpa using h2, fun k hk => ?_⟩
      cases k with
      | zero => simp at hk; exact (hm hk).elim
      | succ k => rw [h3 k (by simpa using hk)]
    cases m with
    | mu =>
      obtain ⟨i', p', rfl⟩ := hp 0 o rfl rfl
      rw [muPl] at h
      simp only [List.cons.injEq, Prod.mk.injEq] at h
      obtain ⟨⟨rfl, rfl⟩, h⟩ := h
      refine ⟨0, rfl, rfl, fun k hk => ?_⟩
      cases k with
      | zero => rfl
      | succ k => exact (muPl_nil h (by simpa using hl) hp' k (by simpa using hk)).elim
    | al => exact tl (by decide) h
    | bw => exact tl (by decide) h
theorem bwRoots_mem : ∀ {ms : List Mode} {os : List Opd} {j i : Nat} {p : List Stp}, ms[j]? = some .bw → os[j]? = some (.pt i p) → i ∈ bwRoots ms os
  | [], _, j, _, _, h, _ => by simp at h
  | _ :: _, [], j, _, _, _, h => by simp at h
  | m :: ms, o :: os, 0, i, p, h, h2 => by
    simp at h h2
    subst h h2
    exact List.mem_cons_self
  | m :: ms, o :: os, j + 1, i, p, h, h2 => by
    have ih := bwRoots_mem (ms := ms) (os := os) (j := j) (i := i) (p := p) (by simpa using h) (by simpa using h2)
    cases m <;> cases o <;> first | exact ih | exact List.mem_cons_of_mem _ ih
theorem slot_argE {ms : List Mode} {ds : List D} {j : Nat} {m : Mode} {d : D} (h1 : ms[j]? = some m) (h2 : ds[j]? = some d) : slot (argE ms ds) j = argSlot m d := by
  unfold slot argE
  have : (ms.zip ds)[j]? = some (m, d) := List.getElem?_zip_eq_some.mpr ⟨h1, h2⟩
  rw [List.getElem?_map, this]
  rfl
theorem slot_retE : ∀ {ms : List Mode} {mus : List D} {j : Nat}, ms[j]? ≠ some .mu → slot (retE ms mus) j = .un
  | [], _, j, _ => by simp [slot, retE]
  | m :: ms, mus, 0, h => by
    cases m with
    | mu => simp at h
    | al => cases mus <;> rfl
    | bw => cases mus <;> rfl
  | m :: ms, mus, j + 1, h => by
    have ih : ∀ mus, slot (retE ms mus) j = .un := fun mus => slot_retE (by simpa using h)
    cases m with
    | al => cases mus <;> exact ih _
    | bw => cases mus <;> exact ih _
    | mu => cases mus <;> exact ih _
theorem retE_one : ∀ {ms : List Mode} {j : Nat} {d : D}, ms[j]? = some .mu → (∀ k, ms[k]? = some .mu → k = j) → slot (retE ms [d]) j = .mw d
  | [], j, _, h, _ => by simp at h
  | m :: ms, 0, d, h, _ => by
    simp at h
    subst h
    rfl
  | m :: ms, j + 1, d, h, hu => by
    have hm : m ≠ .mu := fun e => by
      have := hu 0 (by simp [e])
      omega
    have ih := retE_one (ms := ms) (j := j) (d := d) (by simpa using h) fun k hk => by
      have := hu (k + 1) (by simpa using hk)
      omega
    cases m with
    | mu => exact (hm rfl).elim
    | al => exact ih
    | bw => exact ih
theorem retE_len : ∀ {ms : List Mode} {mus : List D}, (retE ms mus).length = ms.length
  | [], _ => rfl
  | m :: ms, mus => by cases m <;> cases mus <;> simp [retE, retE_len]
theorem SI.con2 (S : SI K A₀ A σ H ρ fp) {i : Nat} {pl : List Stp} {d : D} {v w : V} (h : getP ρ i pl = some d) (hw : look σ i = some w) (va : VAt H w pl v) : ∃ q, Rp K H (Bs A fp) v d q ∧ ∀ a ∈ q, a ∈ fp i ∨ A₀ a := by
  obtain ⟨d₀, h1, h2⟩ := getP_slot h
  have so := S.sl i
  have key : ∀ {v₀ q₀}, look σ i = some v₀ → Rp K H (Bs A fp) v₀ d₀ q₀ → (∀ a ∈ q₀, a ∈ fp i ∨ A₀ a) → ∃ q, Rp K H (Bs A fp) v d q ∧ ∀ a ∈ q, a ∈ fp i ∨ A₀ a := fun g1 g2 g3 => by
    rw [hw] at g1
    cases g1
    obtain ⟨u, f, pre, post, k1, k2, k3, _⟩ := g2.at h2
    rw [va.inj k1]
    exact ⟨f, k2, fun a z => g3 a (by rw [k3]; simp [z])⟩
  cases e : slot ρ i with
  | un => rw [e] at h1; cases h1
  | fz d' => rw [e] at h1 so; cases h1; obtain ⟨_, v, h2, r⟩ := so; exact key h2 r fun a z => nomatch z
  | ow d' => rw [e] at h1 so; cases h1; obtain ⟨v, h2, r⟩ := so; exact key h2 r fun a z => .inl z
  | mw d' => rw [e] at h1 so; cases h1; obtain ⟨v, h2, r⟩ := so; exact key h2 r fun a z => .inl z
  | bw d' => rw [e] at h1 so; cases h1; obtain ⟨_, v, q, h2, r, h3⟩ := so; exact key h2 r fun a z => .inr (h3 a z)
def fOne (j : Nat) (f : List Addr) : Nat → List Addr := fun k => if k = j then f else []
theorem callee (S : SI K A₀ A₁ σ H ρ fp) {ms : List Mode} {os : List Opd} {vs : List V} {q : List Addr} {ds : List D} (rs : OpdsR K H (Bs A₁ fp) σ vs os q) (hq : ∀ a ∈ q, A₁ a ∧ ¬ A₀ a) (hv : argV ρ ms os = some ds)
    (hal : ∀ (j : Nat) (i : Nat) (p : List Stp), ms[j]? = some .al → os[j]? ≠ some (.pt i p)) {jm : Nat} {f : List Addr} (hfn : f.Nodup) (hf : ∀ a ∈ f, ∃ i, a ∈ fp i) (hj : f = [] ∨ ms[jm]? = some .mu)
    (hmu : ∀ j : Nat, ms[j]? = some .mu → j = jm ∧ ∀ v d, vs[j]? = some v → ds[j]? = some d → Rp K H (Bs A₁ fp) v d f) (hbw : ∀ (j i : Nat) (p : List Stp), ms[j]? = some .bw → os[j]? = some (.pt i p) → ∀ a ∈ fp i, a ∉ f) :
    vs.length = ms.length ∧ ds.length = ms.length ∧ SI K (fun a => Bs A₁ fp a ∧ a ∉ q ∧ a ∉ f) (fun a => Bs A₁ fp a ∧ a ∉ q ∧ a ∉ f) (vs.map some) H (argE ms ds) (fOne jm f) := by
  obtain ⟨l1, l2, hget⟩ := argV_get hv
  have lv : vs.length = ms.length := by rw [rs.len, l2]
  have nfA : ∀ a ∈ f, ¬ A₁ a := fun a z hA => (hf a z).elim fun i h => S.na i a h hA
  have hB : ∀ a, Bs (fun a => Bs A₁ fp a ∧ a ∉ q ∧ a ∉ f) (fOne jm f) a → Bs A₁ fp a ∧ a ∉ q := fun a b => by
    rcases b with b | ⟨k, b⟩
    · exact ⟨b.1, b.2.1⟩
    · unfold fOne at b
      split at b
      · exact ⟨.inr (hf a b), fun z => nfA a b (hq a z).1⟩
      · cases b
  have mono : ∀ {v d q'}, Rp K H (Bs A₁ fp) v d q' → Rp K H (Bs (fun a => Bs A₁ fp a ∧ a ∉ q ∧ a ∉ f) (fOne jm f)) v d q' := fun r => r.mono (fun _ _ e _ => e) fun a b => .inl (hB a b).1
  refine ⟨lv, l1, ⟨by simp [argE, lv, l1], fun _ h => h, fun k => ?_, fun a b c h1 h2 => ?_, fun k a h hA => ?_, fun a h => S.bs h.1, fun k => ?_⟩⟩
  · unfold fOne; split
    · exact hfn
    · exact .nil
  · unfold fOne at h1 h2
    split at h1
    · split at h2
      · rename_i e1 e2; rw [e1, e2]
      · cases h2
    · cases h1
  · unfold fOne at h; split at h
    · exact hA.2.2 h
    · cases h
  · cases hm : ms[k]? with
    | none =>
      have e1 : fOne jm f k = [] := by
        unfold fOne
        split
        · rename_i e
          rcases hj with z | z
          · exact z
          · rw [e, z] at hm; cases hm
        · rfl
      have : slot (argE ms ds) k = .un := slot_out (by simp [argE, l1]; exact List.getElem?_eq_none_iff.mp hm)
      rw [this, e1]
      exact rfl
    | some m =>
      obtain ⟨o, d, ho, hd, had⟩ := hget k m hm
      obtain ⟨v, q', hv', ro, hq'⟩ := rs.get ho
      have lk : look (vs.map some) k = some v := by unfold look; rw [List.getElem?_map, hv'] <;> rfl
      rw [slot_argE hm hd, lk]
      have e1 : m ≠ .mu → fOne jm f k = [] := fun hne => by
        unfold fOne
        split
        · rename_i e
          rcases hj with z | z
          · exact z
          · rw [e, z] at hm; cases hm; exact (hne rfl).elim
        · rfl
      have frz : m ≠ .mu → (∀ i p, o ≠ .pt i p) → Rp K H (Bs (fun a => Bs A₁ fp a ∧ a ∉ q ∧ a ∉ f) (fOne jm f)) v d [] := fun hne hn => by
        cases o with
        | fz d0 =>
          have : d0 = d := by cases m <;> first | exact Option.some.inj had | exact (hne rfl).elim
          subst this
          exact mono ro.2
        | ow d0 =>
          have : freeze d0 = d := by cases m <;> first | exact Option.some.inj had | exact (hne rfl).elim
          subst this
          exact Rp.freeze (fun a b => ⟨(hB a b).1, fun z => (hB a b).2 (hq' a z)⟩) ro
        | pt i p => exact (hn i p rfl).elim
      cases m with
      | al =>
        rw [e1 (by decide)]
        exact ⟨rfl, v, rfl, frz (by decide) fun i p e => hal k i p hm (by rw [ho, e])⟩
      | bw =>
        rw [e1 (by decide)]
        cases o with
        | fz d0 => exact ⟨rfl, v, [], rfl, frz (by decide) (fun _ _ z => nomatch z), fun _ z => nomatch z⟩
        | ow d0 => exact ⟨rfl, v, [], rfl, frz (by decide) (fun _ _ z => nomatch z), fun _ z => nomatch z⟩
        | pt i p =>
          obtain ⟨_, w, hw, va⟩ := ro
          obtain ⟨q2, r2, h2⟩ := S.con2 (show getP ρ i p = some d from had) hw va
          refine ⟨rfl, v, q2, rfl, mono r2, fun a z => ?_⟩
          rcases h2 a z with y | y
          · exact ⟨.inr ⟨i, y⟩, fun x => S.na i a y (hq a x).1, hbw k i p hm ho a y⟩
          · exact ⟨.inl (S.sub a y), fun x => (hq a x).2 y, fun x => nfA a x (S.sub a y)⟩
      | mu =>
        obtain ⟨rfl, hr⟩ := hmu k hm
        have : fOne k f k = f := if_pos rfl
        rw [this]
        exact ⟨v, rfl, mono (hr v d hv' hd)⟩
theorem rd_call {f : Str} {es : List Ex} {ms : List Mode} (hm : F.modes f = some ms) : ∀ σ H Q, tE K mg W F (.call f es) σ H Q → tCallS (spD K mg ms (F.run f)) (WE W) (tEs K mg W F es) σ H Q := fun σ H Q ⟨A₀, A, ρ, fp, S, h⟩ => by
  rw [evE] at h
  refine ⟨A₀, A, ρ, fp, S, h.seq.imp (fun os ρ₁ _ h => ?_) fun _ _ h => h⟩
  rw [hm] at h
  dsimp only at h
  split at h
  · exact h.elim
  · rename_i os' ρ₂ ha
    obtain ⟨hk, ha⟩ := if_some ha
    refine ⟨hk, fun vs H₁ A₁ fp₁ q g rs nd hq => ?_⟩
    obtain ⟨fp₂, S₂, sub, rs', lo, hal⟩ := alPass_ok g.si rs ha
    have g₂ : EOk K A₀ A fp σ H false ρ₂ H₁ A₁ fp₂ := ⟨S₂, ⟨g.tr.a, g.tr.k, fun a z => g.tr.b a (sub a z)⟩, fun z => nomatch z⟩
    have hq0 : ∀ a ∈ q, A₁ a ∧ ¬ A₀ a := fun a z => ⟨(hq a z).1, fun h => (hq a z).2 (S.sub a h)⟩
    unfold callR at h
    split at h
    · exact h.elim
    · rename_i ds hv
      obtain ⟨l1, l2, hget⟩ := argV_get hv
      have hpt : ∀ (j : Nat) o, ms[j]? = some .mu → os'[j]? = some o → ∃ i p, o = .pt i p := fun j o h1 h2 => by
        obtain ⟨o', d, g1, g2, g3⟩ := hget j .mu h1
        rw [h2] at g1
        cases g1
        cases o with
        | fz d0 => cases g3
        | ow d0 => cases g3
        | pt i p => exact ⟨i, p, rfl⟩
      split at h
      · -- nothing is changed
        rename_i hmu
        have nomu := muPl_nil hmu l2 hpt
        obtain ⟨k1, k2, k3⟩ := callee (jm := ms.length) (f := []) S₂ rs' hq0 hv hal .nil (fun _ z => nomatch z) (.inl rfl) (fun j hj => (nomu j hj).elim) (fun _ _ _ _ _ _ _ z => nomatch z)
        refine ⟨_, ds, _, k1, k2, k3, ?_⟩
        have fe : ∀ k, fOne ms.length [] k = [] := fun k => by unfold fOne; split <;> rfl
        have BcB : ∀ a, Bs (fun a => Bs A₁ fp₂ a ∧ a ∉ q ∧ a ∉ ([] : List Addr)) (fOne ms.length []) a → Bs A₁ fp₂ a := fun a b => b.elim (·.1) fun ⟨k, z⟩ => by rw [fe k] at z; cases z
        have keepH : ∀ {A' fp' H'}, Tr (fun a => Bs A₁ fp₂ a ∧ a ∉ q ∧ a ∉ ([] : List Addr)) (fOne ms.length []) H₁ A' fp' H' → Keep H₁ H' := fun t a o e => t.k a o e fun k z => by rw [fe k] at z; cases z
        cases hr : F.run f ds with
        | stuck => rw [hr] at h; exact h.elim
        | rt d mus =>
          rw [hr] at h
          cases mus with
          | cons e mus => exact h.elim
          | nil =>
            intro v H' A' fp' S' t' ok'
            obtain ⟨qr, rr, ndr, hqr⟩ := ok'
            have kp := keepH t'
            have fr : ∀ a ∈ qr, H₁ a = none := fun a z => by
              cases e : H₁ a with
              | none => rfl
              | some o =>
                rcases t'.b a (.inl (hqr a z).1) with y | y
                · exact ((hqr a z).2 (y.elim id fun ⟨k, x⟩ => by rw [fe k] at x; cases x)).elim
                · rw [e] at y; cases y
            have fin : ∀ a, Bs (fun a => (A₁ a ∧ a ∉ q) ∨ a ∈ qr) fp₂ a → Bs A' fp' a := fun a b => by
              rcases b with (b | b) | ⟨i, b⟩
              · exact .inl (t'.a a ⟨.inl b.1, b.2, List.not_mem_nil⟩)
              · exact .inl (hqr a b).1
              · exact .inl (t'.a a ⟨.inr ⟨i, b⟩, fun z => S₂.na i a b (hq a z).1, List.not_mem_nil⟩)
            have S3 : SI K A₀ (fun a => (A₁ a ∧ a ∉ q) ∨ a ∈ qr) σ H' ρ₂ fp₂ := S₂.grow (fun a h => .inl ⟨S₂.sub a h, fun z => (hq0 a z).2 h⟩) (fun a h => h.elim (fun z => .inl z.1) fun z => .inr (fr a z)) (fun a h => h.elim (fun z => (S₂.tr a z.1).elim fun o e => ⟨o, kp a o e⟩) fun z => S'.tr a (hqr a z).1) kp
            refine h v H' _ fp₂ ⟨S3, ⟨fun a hA => .inl ⟨g₂.tr.a a hA, fun z => (hq a z).2 hA⟩, fun a o e n => kp a o (g₂.tr.k a o e n), fun a b => ?_⟩, fun z => by simp [pureE] at z⟩ ⟨qr, ?_, ndr, fun a z => ⟨.inr z, fun hA => ?_⟩⟩
            · rcases b with (b | b) | b
              · exact g₂.tr.b a (.inl b.1)
              · by_cases hO : ∃ i, a ∈ fp i
                · exact .inl (.inr hO)
                · right
                  cases e : H a with
                  | none => rfl
                  | some o =>
                    have := g₂.tr.k a o e fun i hi => hO ⟨i, hi⟩
                    rw [fr a b] at this; cases this
              · exact g₂.tr.b a (.inr b)
            · unfold opd at rr ⊢
              split
              · rename_i hf
                rw [if_pos hf] at rr
                exact ⟨rr.1, rr.2.mono (fun _ _ e _ => e) fun a b => .inl (fin a b)⟩
              · rename_i hf
                rw [if_neg hf] at rr
                exact Rp.mono (fun _ _ e _ => e) (fun a b => .inl (fin a b)) rr
            · obtain ⟨o, e⟩ := S₂.tr a (g₂.tr.a a hA)
              rw [fr a z] at e; cases e
        | exc x mus =>
          rw [hr] at h
          cases mus with
          | cons e mus => exact h.elim
          | nil =>
            intro cls dx H' fp' S' t' xa
            have kp := keepH t'
            have S3 : SI K A₀ A σ H' ρ₂ fp₂ := S₂.grow S.sub (fun a h => .inl (g₂.tr.a a h)) (fun a h => (S₂.tr a (g₂.tr.a a h)).elim fun o e => ⟨o, kp a o e⟩) kp
            exact h cls dx H' fp₂ S3 ⟨fun _ h => h, fun a o e n => kp a o (g₂.tr.k a o e n), fun a b => g₂.tr.b a (b.elim (fun z => .inl (g₂.tr.a a z)) .inr)⟩ xa
      · -- one thing is changed
        rename_i i pl hmu
        obtain ⟨j, hj1, hj2, huniq⟩ := muPl_one hmu l2 hpt
        obtain ⟨o0, dj, g1, g2, g3⟩ := hget j .mu hj1
        rw [hj2] at g1
        cases g1
        obtain ⟨vj, qj, hvj, roj, _⟩ := rs'.get hj2
        obtain ⟨_, w, hw, va⟩ := roj
        have hgp : getP ρ₂ i pl = some dj := g3
        split at h
        · exact h.elim
        · rename_i hroots
          -- what comes back
          have back : ∀ {e : D} {ρ₃ : Env}, setP ρ₂ i pl e = some ρ₃ → ∃ f, vs.length = ms.length ∧ ds.length = ms.length ∧ SI K (fun a => Bs A₁ fp₂ a ∧ a ∉ q ∧ a ∉ f) (fun a => Bs A₁ fp₂ a ∧ a ∉ q ∧ a ∉ f) (vs.map some) H₁ (argE ms ds) (fOne j f) ∧
              ∀ (A' : Addr → Prop) (fp' : Nat → List Addr) (H' : Hp) (qr : List Addr) (Ax : Addr → Prop), SI K (fun a => Bs A₁ fp₂ a ∧ a ∉ q ∧ a ∉ f) A' (vs.map some) H' (retE ms [e]) fp' → Tr (fun a => Bs A₁ fp₂ a ∧ a ∉ q ∧ a ∉ f) (fOne j f) H₁ A' fp' H' →
                (∀ a ∈ qr, A' a ∧ ¬ (Bs A₁ fp₂ a ∧ a ∉ q ∧ a ∉ f)) → (∀ a, A₀ a → Ax a) → (∀ a, Ax a → A₁ a ∧ a ∉ q) →
                ∃ fp₃, SI K A₀ (fun a => Ax a ∨ a ∈ qr) σ H' ρ₃ fp₃ ∧ (∀ a, Bs (fun a => Ax a ∨ a ∈ qr) fp₃ a → Bs A' fp' a) ∧ (∀ a, Bs (fun a => Ax a ∨ a ∈ qr) fp₃ a → Bs A₁ fp₂ a ∨ H₁ a = none) ∧ (∀ a o, H₁ a = some o → (∀ k, a ∉ fp₂ k) → H' a = some o) ∧ (∀ a ∈ qr, (∃ k, a ∈ fp₂ k) ∨ H₁ a = none) := by
            intro e ρ₃ hset
            obtain ⟨f, pre, post, c1, c2, c3⟩ := S₂.putAt hgp hw va hset
            have inF : ∀ a ∈ f, a ∈ fp₂ i := fun a z => by rw [c1]; simp [z]
            have nA : ∀ a ∈ f, ¬ A₁ a := fun a z => S₂.na i a (inF a z)
            have ndi := S₂.nd i
            rw [c1] at ndi
            have ndi' := List.nodup_append.mp ndi
            have ndi2 := List.nodup_append.mp ndi'.2.1
            obtain ⟨k1, k2, k3⟩ := callee (jm := j) (f := f) S₂ rs' hq0 hv hal ndi2.1 (fun a z => ⟨i, inF a z⟩) (.inr hj1) (fun k hk => ⟨huniq k hk, fun v d h1 h2 => by
                have ek := huniq k hk
                subst ek
                rw [hvj] at h1
                rw [g2] at h2
                cases h1; cases h2
                exact c2⟩)
              (fun k i' p' h1 h2 a z z2 => by
                have := bwRoots_mem h1 h2
                have hne : i' ≠ i := fun e => hroots (by rw [e] at this; simpa using this)
                exact hne (S₂.dj i' i a z (inF a z2)))
            refine ⟨f, k1, k2, k3, fun A' fp' H' qr Ax S' t' hqr hA0 hAx => ?_⟩
            have fj : fOne j f j = f := if_pos rfl
            have fk : ∀ k, k ≠ j → fOne j f k = [] := fun k h => if_neg h
            have kp : ∀ a o, H₁ a = some o → a ∉ f → H' a = some o := fun a o e n => t'.k a o e fun k z => by
              by_cases ek : k = j
              · rw [ek, fj] at z; exact n z
              · rw [fk k ek] at z; cases z
            have Bc : ∀ a, Bs (fun a => Bs A₁ fp₂ a ∧ a ∉ q ∧ a ∉ f) (fOne j f) a → Bs A₁ fp₂ a ∧ a ∉ q := fun a b => by
              rcases b with b | ⟨k, b⟩
              · exact ⟨b.1, b.2.1⟩
              · by_cases ek : k = j
                · rw [ek, fj] at b
                  exact ⟨.inr ⟨i, inF a b⟩, fun z => nA a b (hq a z).1⟩
                · rw [fk k ek] at b; cases b
            have new : ∀ a, Bs A' fp' a → a ∉ f → (Bs A₁ fp₂ a ∧ a ∉ q ∧ a ∉ f) ∨ H₁ a = none := fun a b n => by
              rcases t'.b a b with y | y
              · exact .inl ⟨(Bc a y).1, (Bc a y).2, n⟩
              · exact .inr y
            -- what has become of the thing
            have sj := S'.sl j
            have hl : look (vs.map some) j = some vj := by unfold look; rw [List.getElem?_map, hvj] <;> rfl
            rw [retE_one hj1 huniq, hl] at sj
            obtain ⟨v1, hv1, rj⟩ := sj
            cases hv1
            have fj' : ∀ a ∈ fp' j, a ∈ f ∨ H₁ a = none := fun a z => by
              by_cases hf : a ∈ f
              · exact .inl hf
              · rcases new a (.inr ⟨j, z⟩) hf with y | y
                · exact (S'.na j a z (S'.sub a y)).elim
                · exact .inr y
            have qrn : ∀ a ∈ qr, a ∈ f ∨ H₁ a = none := fun a z => by
              by_cases hf : a ∈ f
              · exact .inl hf
              · rcases new a (.inl (hqr a z).1) hf with y | y
                · exact ((hqr a z).2 y).elim
                · exact .inr y
            have AxA : ∀ a, Ax a → A' a := fun a h => S'.sub a ⟨.inl (hAx a h).1, (hAx a h).2, fun z => nA a z (hAx a h).1⟩
            have toB : ∀ a, Bs (fun a => Ax a ∨ a ∈ qr) (fup fp₂ i (pre ++ (fp' j ++ post))) a → Bs A' fp' a := fun a b => by
              have old : ∀ k, a ∈ fp₂ k → a ∉ f → Bs A' fp' a := fun k z n => .inl (S'.sub a ⟨.inr ⟨k, z⟩, fun x => S₂.na k a z (hq a x).1, n⟩)
              rcases b with (b | b) | ⟨k, b⟩
              · exact .inl (AxA a b)
              · exact .inl (hqr a b).1
              · by_cases ek : k = i
                · rw [ek, fup_same] at b
                  have b' : a ∈ pre ∨ a ∈ fp' j ∨ a ∈ post := by simpa using b
                  rcases b' with z | z | z
                  · exact old i (by rw [c1]; simp [z]) fun x => ndi'.2.2 a z a (List.mem_append_left _ x) rfl
                  · exact .inr ⟨j, z⟩
                  · exact old i (by rw [c1]; simp [z]) fun x => ndi2.2.2 a x a z rfl
                · rw [fup_ne ek] at b
                  exact old k b fun x => ek (S₂.dj k i a b (inF a x))
            refine ⟨fup fp₂ i (pre ++ (fp' j ++ post)), ?_, toB, fun a b => ?_, fun a o e n => kp a o e fun z => n i (inF a z), fun a z => (qrn a z).imp (fun y => ⟨i, inF a y⟩) id⟩
            · exact c3 (A₁ := fun a => Ax a ∨ a ∈ qr) (H₁ := H') (f' := fp' j) (fun a h => .inl (hA0 a h)) (fun a h => h.elim (fun z => .inl (hAx a z).1) fun z => .inr (qrn a z)) (fun a h => h.elim (fun z => S'.tr a (AxA a z)) fun z => S'.tr a (hqr a z).1) (S'.nd j)
                (fun a z => (fj' a z).elim .inl fun y => .inr (.inr y)) (fun a z hA => S'.na j a z (hA.elim (AxA a) fun y => (hqr a y).1)) kp (rj.mono (fun _ _ e _ => e) fun a b => .inl (toB a b))
            · have old : ∀ k, a ∈ fp₂ k → Bs A₁ fp₂ a ∨ H₁ a = none := fun k z => .inl (.inr ⟨k, z⟩)
              rcases b with (b | b) | ⟨k, b⟩
              · exact .inl (.inl (hAx a b).1)
              · exact (qrn a b).imp (fun y => .inr ⟨i, inF a y⟩) id
              · by_cases ek : k = i
                · rw [ek, fup_same] at b
                  have b' : a ∈ pre ∨ a ∈ fp' j ∨ a ∈ post := by simpa using b
                  rcases b' with z | z | z
                  · exact old i (by rw [c1]; simp [z])
                  · exact (fj' a z).imp (fun y => .inr ⟨i, inF a y⟩) id
                  · exact old i (by rw [c1]; simp [z])
                · rw [fup_ne ek] at b
                  exact old k b
          have trk : ∀ a o, H a = some o → (∀ k, a ∉ fp k) → ∀ k, a ∉ fp₂ k := fun a o e n k z => by
            rcases g₂.tr.b a (.inr ⟨k, z⟩) with (y | ⟨k', y⟩) | y
            · exact S₂.na k a z (g₂.tr.a a y)
            · exact n k' y
            · rw [e] at y; cases y
          have trb : ∀ {a}, Bs A₁ fp₂ a ∨ H₁ a = none → Bs A fp a ∨ H a = none := fun {a} b => by
            rcases b with b | b
            · exact g₂.tr.b a b
            · by_cases hO : ∃ i, a ∈ fp i
              · exact .inl (.inr hO)
              · right
                cases e : H a with
                | none => rfl
                | some o =>
                  have := g₂.tr.k a o e fun i hi => hO ⟨i, hi⟩
                  rw [b] at this; cases this
          cases hr : F.run f ds with
          | stuck => rw [hr] at h; exact h.elim
          | rt d mus =>
            rw [hr] at h
            match mus, h with
            | [], h => exact h.elim
            | _ :: _ :: _, h => exact h.elim
            | [e], h =>
              dsimp only at h
              split at h
              · rename_i ρ₃ hset
                obtain ⟨f', k1, k2, k3, bk⟩ := back hset
                refine ⟨_, ds, _, k1, k2, k3, ?_⟩
                rw [hr]
                intro v H' A' fp' S' t' ok'
                obtain ⟨qr, rr, ndr, hqr⟩ := ok'
                obtain ⟨fp₃, S3, b1, b2, b3, b4⟩ := bk A' fp' H' qr (fun a => A₁ a ∧ a ∉ q) S' t' hqr (fun a h => ⟨S₂.sub a h, fun z => (hq0 a z).2 h⟩) (fun _ h => h)
                refine h v H' _ fp₃ ⟨S3, ⟨fun a hA => .inl ⟨g₂.tr.a a hA, fun z => (hq a z).2 hA⟩, fun a o e n => b3 a o (g₂.tr.k a o e n) (trk a o e n), fun a b => trb (b2 a b)⟩, fun z => by simp [pureE] at z⟩ ⟨qr, ?_, ndr, fun a z => ⟨.inr z, fun hA => ?_⟩⟩
                · unfold opd at rr ⊢
                  split
                  · rename_i hf
                    rw [if_pos hf] at rr
                    exact ⟨rr.1, rr.2.mono (fun _ _ e _ => e) fun a b => .inl (b1 a b)⟩
                  · rename_i hf
                    rw [if_neg hf] at rr
                    exact Rp.mono (fun _ _ e _ => e) (fun a b => .inl (b1 a b)) rr
                · rcases b4 a z with ⟨k, y⟩ | y
                  · exact S₂.na k a y (g₂.tr.a a hA)
                  · obtain ⟨o, e⟩ := S₂.tr a (g₂.tr.a a hA)
                    rw [e] at y; cases y
              · exact h.elim
          | exc x mus =>
            rw [hr] at h
            match mus, h with
            | [], h => exact h.elim
            | _ :: _ :: _, h => exact h.elim
            | [e], h =>
              dsimp only at h
              split at h
              · rename_i ρ₃ hset
                obtain ⟨f', k1, k2, k3, bk⟩ := back hset
                refine ⟨_, ds, _, k1, k2, k3, ?_⟩
                rw [hr]
                intro cls dx H' fp' S' t' xa
                obtain ⟨fp₃, S3, b1, b2, b3, b4⟩ := bk _ fp' H' [] (fun a => A a) S' t' (fun _ z => nomatch z) S.sub (fun a hA => ⟨g₂.tr.a a hA, fun z => (hq a z).2 hA⟩)
                exact h cls dx H' fp₃ (S3.drop S.sub fun a h => .inl h) ⟨fun _ h => h, fun a o e n => b3 a o (g₂.tr.k a o e n) (trk a o e n), fun a b => trb (b2 a (b.elim (fun z => .inl (.inl z)) .inr))⟩ xa
              · exact h.elim
      · exact h.elim
end
end Rw

set_option Elab.async false
set_option linter.all false
set_option maxRecDepth 100000
/-! RwI: targets, what is walked, list comprehensions. -/
namespace Rw
open PySem PySem.Spec PyProof.Rows L2
/-! ### pinned names -/
/-- pinned names stay -/
def Pin (ρ ρ' : Env) : Prop := ρ'.length = ρ.length ∧ ∀ j, (∀ d, slot ρ j = .bw d ↔ slot ρ' j = .bw d) ∧ (∀ d, slot ρ j = .mw d → ∃ d', slot ρ' j = .mw d')
theorem Pin.refl {ρ : Env} : Pin ρ ρ := ⟨rfl, fun j => ⟨fun _ => .rfl, fun d h => ⟨d, h⟩⟩⟩
theorem Pin.trans {ρ ρ' ρ'' : Env} (h : Pin ρ ρ') (g : Pin ρ' ρ'') : Pin ρ ρ'' := ⟨g.1.trans h.1, fun j => ⟨fun d => ((h.2 j).1 d).trans ((g.2 j).1 d), fun d e => by
  obtain ⟨d', e'⟩ := (h.2 j).2 d e
  exact (g.2 j).2 d' e'⟩⟩
theorem Pin.set {ρ : Env} {i : Nat} {s : Slot} (h : (slot ρ i).pin = false) (hs : s.pin = false := by rfl) : Pin ρ (ρ.set i s) := by
  refine ⟨by simp, fun j => ?_⟩
  by_cases e : j = i
  · subst e
    constructor
    · intro d
      constructor
      · intro hd; rw [hd] at h; cases h
      · intro hd
        by_cases hj : j < ρ.length
        · rw [slot_set_same hj] at hd
          rw [hd] at hs; cases hs
        · rw [slot_out (by simpa using hj)] at hd; cases hd
    · intro d hd; rw [hd] at h; cases h
  · rw [slot_set e]
    exact ⟨fun _ => .rfl, fun d h => ⟨d, h⟩⟩
theorem Pin.setM {ρ : Env} {i : Nat} {d d' : D} (h : slot ρ i = .mw d) (hi : i < ρ.length) : Pin ρ (ρ.set i (.mw d')) := by
  refine ⟨by simp, fun j => ?_⟩
  by_cases e : j = i
  · subst e
    rw [slot_set_same hi, h]
    exact ⟨fun d => ⟨(fun z => by cases z), fun z => by cases z⟩, fun _ _ => ⟨d', rfl⟩⟩
  · rw [slot_set e]
    exact ⟨fun _ => .rfl, fun d h => ⟨d, h⟩⟩
theorem slotOf_pin {b : Bool} {d : D} : (slotOf b d).pin = false := by unfold slotOf; split <;> rfl
theorem Pin.setP {ρ ρ' : Env} {i : Nat} {p : List Stp} {e : D} (h : setP ρ i p e = some ρ') : Pin ρ ρ' := by
  unfold Rw.setP at h
  split at h
  · rename_i d hd
    cases hs : setAt d p e with
    | none => rw [hs] at h; cases h
    | some d' =>
      rw [hs] at h
      cases h
      exact .set (by rw [slot_get hd] <;> rfl)
  · rename_i d hd
    cases hs : setAt d p e with
    | none => rw [hs] at h; cases h
    | some d' =>
      rw [hs] at h
      cases h
      exact .setM (slot_get hd) (lt_of_get hd)
  · cases h
theorem Pin.alias {ρ ρ' : Env} {o o' : Opd} (h : alias_ ρ o = some (o', ρ')) : Pin ρ ρ' := by
  cases o with
  | fz d => cases h; exact .refl
  | ow d => cases h; exact .refl
  | pt i p =>
    cases p with
    | nil =>
      rw [alias_] at h
      split at h
      · rename_i d hd
        cases h
        exact .set (by rw [slot_get hd] <;> rfl)
      · cases h
    | cons s p =>
      rw [alias_] at h
      split at h
      · rename_i d hd
        cases hs : Rw.setP ρ i (s :: p) (freeze d) with
        | none => rw [hs] at h; cases h
        | some ρ2 =>
          rw [hs] at h
          cases h
          exact .setP hs
      · cases h
/-! ### targets -/
mutual
theorem asgT_pin : ∀ (t : Tg) {b : Bool} {d : D} {ρ ρ' : Env}, asgT t b d ρ = some ρ' → Pin ρ ρ'
  | .nm i, b, d, ρ, ρ', h => by
    rw [asgT] at h
    split at h
    · rename_i s hs
      split at h
      · cases h
      · rename_i hp
        cases h
        exact .set (by rw [slot_get hs]; simpa using hp) slotOf_pin
    · cases h
  | .tp ts, b, d, ρ, ρ', h => by
    cases d with
    | tup xs => rw [asgT] at h; exact asgTs_pin ts h
    | _ => cases h
theorem asgTs_pin : ∀ (ts : List Tg) {b : Bool} {ds : List D} {ρ ρ' : Env}, asgTs ts b ds ρ = some ρ' → Pin ρ ρ'
  | [], b, ds, ρ, ρ', h => by
    cases ds with
    | nil => cases h; exact .refl
    | cons _ _ => cases h
  | t :: ts, b, ds, ρ, ρ', h => by
    cases ds with
    | nil => cases h
    | cons d ds =>
      rw [asgTs] at h
      split at h
      · rename_i ρ1 h1
        exact (asgT_pin t h1).trans (asgTs_pin ts h)
      · cases h
end
mutual
def gT (K : PySem.W.Frag) : Tg → TG
  | .nm i => gName i
  | .tp ts => gTup K ts.length (gTs K ts)
def gTs (K : PySem.W.Frag) : List Tg → TGs
  | [] => gNil
  | t :: ts => gCons (gT K t) (gTs K ts)
end
section
variable {K : PySem.W.Frag} {mg : Str → Option Value} {A₀ A A' A₁ : Addr → Prop} {σ : L2.St} {H H' H₁ : Hp} {ρ ρ' ρ₁ : Env} {fp fp' fp₁ : Nat → List Addr}
theorem look_set {σ : L2.St} {i j : Nat} {v : Option V} (h : j ≠ i) : look (σ.set i v) j = look σ j := by
  unfold look
  rw [List.getElem?_set_ne (Ne.symm h)]
theorem look_set_same {σ : L2.St} {i : Nat} {v : Option V} (h : i < σ.length) : look (σ.set i v) i = v := by
  unfold look
  rw [List.getElem?_set_self h]
  rfl
/-- behind a target's store -/
structure TgOk (K : PySem.W.Frag) (A₀ A : Addr → Prop) (fp : Nat → List Addr) (σ : L2.St) (H : Hp) (ρ : Env) (q : List Addr) (σ' : L2.St) (ρ' : Env) (fp' : Nat → List Addr) : Prop where
  si : SI K A₀ (fun a => A a ∧ a ∉ q) σ' H ρ' fp'
  b : ∀ a, Bs (fun a => A a ∧ a ∉ q) fp' a → Bs A fp a
  pin : ∀ j, (slot ρ j).pin = true → look σ' j = look σ j
mutual
theorem gT_ok : ∀ (t : Tg) {b : Bool} {d : D} {v : V} {q : List Addr} {σ : L2.St} {ρ ρ' : Env} {fp : Nat → List Addr} {A : Addr → Prop} {Q : L2.St → Hp → Prop}, SI K A₀ A σ H ρ fp → Rp K H (Bs A fp) v d q → q.Nodup → (∀ a ∈ q, A a ∧ ¬ A₀ a) → (b = true → q = []) → asgT t b d ρ = some ρ' →
    (∀ σ' fp', TgOk K A₀ A fp σ H ρ q σ' ρ' fp' → Q σ' H) → gT K t v σ H Q
  | .nm i, b, d, v, q, σ, ρ, ρ', fp, A, Q, S, r, nd, hq, hb, h, k => by
    rw [asgT] at h
    split at h
    · rename_i s hs
      split at h
      · cases h
      · rename_i hp
        cases h
        have hi := lt_of_get hs
        have hiσ : i < σ.length := by rw [S.len]; exact hi
        refine k _ (fup fp i q) ⟨?_, ?_, fun j hj => look_set fun e => ?_⟩
        · refine S.chg i (by rw [List.length_set, List.length_set]; exact S.len) (fun j hj => look_set hj) (fun j hj => slot_set hj) (fun a h => ⟨S.sub a h, fun z => (hq a z).2 h⟩) (fun a h => .inl h.1) (fun a h => S.tr a h.1) nd (fun a h => .inr (.inl (hq a h).1)) (fun a h z => z.2 h) (fun _ _ e _ => e) ?_
          have r' : Rp K H (Bs (fun a => A a ∧ a ∉ q) (fup fp i q)) v d q := r.mono (fun _ _ e _ => e) fun a b => .inl (by
            rcases b with b | ⟨j, b⟩
            · exact .inl b.1
            · by_cases e : j = i
              · rw [e, fup_same] at b; exact .inl (hq a b).1
              · rw [fup_ne e] at b; exact .inr ⟨j, b⟩)
          rw [look_set_same hiσ, slot_set_same hi]
          unfold slotOf
          split
          · rename_i hf
            have e : q = [] := by
              rw [Bool.or_eq_true] at hf
              exact hf.elim hb fun z => r.fr z
            subst e
            exact ⟨rfl, v, rfl, r'⟩
          · exact ⟨v, rfl, r'⟩
        · intro a b
          rcases b with b | ⟨j, b⟩
          · exact .inl b.1
          · by_cases e : j = i
            · rw [e, fup_same] at b; exact .inl (hq a b).1
            · rw [fup_ne e] at b; exact .inr ⟨j, b⟩
        · rw [e, slot_get hs] at hj
          exact hp hj
    · cases h
  | .tp ts, b, d, v, q, σ, ρ, ρ', fp, A, Q, S, r, nd, hq, hb, h, k => by
    cases r with
    | tup t l =>
      rw [asgT] at h
      have hl : ∀ {ts : List Tg} {ds : List D} {ρ ρ' : Env}, asgTs ts b ds ρ = some ρ' → ds.length = ts.length := by
        intro ts
        induction ts with
        | nil => intro ds ρ ρ' h; cases ds with
          | nil => rfl
          | cons _ _ => cases h
        | cons t ts ih => intro ds ρ ρ' h; cases ds with
          | nil => cases h
          | cons d ds =>
            rw [asgTs] at h
            split at h
            · rw [List.length_cons, List.length_cons, ih h]
            · cases h
      exact ⟨_, _, rfl, t.sq, by rw [l.len, hl h], gTs_ok ts S l nd hq hb h k⟩
    | _ => cases h
theorem gTs_ok : ∀ (ts : List Tg) {b : Bool} {ds : List D} {vs : List V} {q : List Addr} {σ : L2.St} {ρ ρ' : Env} {fp : Nat → List Addr} {A : Addr → Prop} {Q : L2.St → Hp → Prop}, SI K A₀ A σ H ρ fp → RpL K H (Bs A fp) vs ds q → q.Nodup → (∀ a ∈ q, A a ∧ ¬ A₀ a) → (b = true → q = []) → asgTs ts b ds ρ = some ρ' →
    (∀ σ' fp', TgOk K A₀ A fp σ H ρ q σ' ρ' fp' → Q σ' H) → gTs K ts vs σ H Q
  | [], b, ds, vs, q, σ, ρ, ρ', fp, A, Q, S, l, nd, hq, hb, h, k => by
    cases l with
    | nil =>
      cases h
      exact ⟨rfl, k σ fp ⟨S.drop (fun a h => ⟨S.sub a h, List.not_mem_nil⟩) fun a h => h.1, fun a b => b.imp (·.1) id, fun _ _ => rfl⟩⟩
    | cons r l => cases h
  | t :: ts, b, ds, vs, q, σ, ρ, ρ', fp, A, Q, S, l, nd, hq, hb, h, k => by
    cases l with
    | nil => cases h
    | cons r l =>
      rename_i v d f vs ds fs
      rw [asgTs] at h
      split at h
      · rename_i ρ1 h1
        have nd' := List.nodup_append.mp nd
        have hb1 : b = true → f = [] := fun z => (List.append_eq_nil_iff.mp (hb z)).1
        have hb2 : b = true → fs = [] := fun z => (List.append_eq_nil_iff.mp (hb z)).2
        refine ⟨v, vs, rfl, gT_ok t S r nd'.1 (fun a z => hq a (List.mem_append_left _ z)) hb1 h1 fun σ1 fp1 T1 => ?_⟩
        have hq1 : ∀ a ∈ fs, (A a ∧ a ∉ f) ∧ ¬ A₀ a := fun a z => ⟨⟨(hq a (List.mem_append_right _ z)).1, fun y => nd'.2.2 a y a z rfl⟩, (hq a (List.mem_append_right _ z)).2⟩
        refine gTs_ok ts T1.si (l.mono (fun _ _ e _ => e) fun a b => .inl (T1.b a b)) nd'.2.1 hq1 hb2 h fun σ2 fp2 T2 => k σ2 fp2 ⟨?_, ?_, ?_⟩
        · exact T2.si.drop (fun a h => ⟨S.sub a h, fun z => (hq a z).2 h⟩) fun a h => ⟨⟨h.1, fun z => h.2 (List.mem_append_left _ z)⟩, fun z => h.2 (List.mem_append_right _ z)⟩
        · exact fun a b => T1.b a (T2.b a (b.imp (fun h => ⟨⟨h.1, fun z => h.2 (List.mem_append_left _ z)⟩, fun z => h.2 (List.mem_append_right _ z)⟩) id))
        · intro j hj
          rw [T2.pin j ?_, T1.pin j hj]
          have p1 := asgT_pin t h1
          cases es : slot ρ j with
          | bw d0 => rw [((p1.2 j).1 d0).mp es] <;> rfl
          | mw d0 => obtain ⟨d1, e1⟩ := (p1.2 j).2 d0 es; rw [e1] <;> rfl
          | un => rw [es] at hj; cases hj
          | fz d0 => rw [es] at hj; cases hj
          | ow d0 => rw [es] at hj; cases hj
      · cases h
end
end
end Rw

set_option Elab.async false
set_option linter.all false
set_option maxRecDepth 100000
/-! RwJ: an evaluation keeps the pinned names. -/
namespace Rw
open PySem PySem.Spec PyProof.Rows L2
/-- pinned names but those in X stay -/
def PinX (X : Nat → Prop) (ρ ρ' : Env) : Prop := ρ'.length = ρ.length ∧ ∀ j, ¬ X j → (∀ d, slot ρ j = .bw d ↔ slot ρ' j = .bw d) ∧ (∀ d, slot ρ j = .mw d → ∃ d', slot ρ' j = .mw d')
section
variable {X : Nat → Prop} {ρ ρ' ρ'' : Env}
theorem Pin.x (h : Pin ρ ρ') : PinX X ρ ρ' := ⟨h.1, fun j _ => h.2 j⟩
theorem PinX.refl : PinX X ρ ρ := Pin.refl.x
theorem PinX.trans (h : PinX X ρ ρ') (g : PinX X ρ' ρ'') : PinX X ρ ρ'' := ⟨g.1.trans h.1, fun j n => ⟨fun d => ((h.2 j n).1 d).trans ((g.2 j n).1 d), fun d e => by
  obtain ⟨d', e'⟩ := (h.2 j n).2 d e
  exact (g.2 j n).2 d' e'⟩⟩
theorem PinX.set {i : Nat} {s : Slot} (h : X i) : PinX X ρ (ρ.set i s) := ⟨by simp, fun j n => by
  rw [slot_set (fun e => n (by rw [e]; exact h))]
  exact ⟨fun _ => .rfl, fun d h => ⟨d, h⟩⟩⟩
theorem PinX.wipe : ∀ {vs : List Nat}, (∀ v ∈ vs, X v) → PinX X ρ (wipeE ρ vs)
  | [], _ => .refl
  | v :: vs, h => PinX.trans (PinX.wipe fun u hu => h u (List.mem_cons_of_mem _ hu)) (.set (h v List.mem_cons_self))
theorem PinX.lock {k : Option Nat} (h : ∀ i, k = some i → ((∃ d, slot ρ i = .ow d) ∨ ∃ d, slot ρ i = .mw d) → X i) : PinX X ρ (Rw.lock ρ k) := by
  cases k with
  | none => exact .refl
  | some i =>
    unfold Rw.lock
    dsimp only
    split
    · rename_i d hd
      exact .set (h i rfl (.inl ⟨d, slot_get hd⟩))
    · rename_i d hd
      exact .set (h i rfl (.inr ⟨d, slot_get hd⟩))
    · exact .refl
/-- what an evaluation's end says of pinned names -/
def Rr.pin {α : Type} (X : Nat → Prop) (ρ : Env) : Rr α → Prop
  | .ok _ ρ' => PinX X ρ ρ'
  | .exc _ ρ' => PinX X ρ ρ'
  | .stuck => True
theorem Rr.pin_bind {α β : Type} {r : Rr α} {f : α → Env → Rr β} (h : r.pin X ρ) (k : ∀ a ρ', r = .ok a ρ' → (f a ρ').pin X ρ') : (r.bind f).pin X ρ := by
  cases r with
  | ok a ρ' =>
    have g := k a ρ' rfl
    show (f a ρ').pin X ρ
    cases e : f a ρ' with
    | ok b ρ'' => rw [e] at g; exact PinX.trans h g
    | exc x ρ'' => rw [e] at g; exact PinX.trans h g
    | stuck => trivial
  | exc x ρ' => exact h
  | stuck => trivial
theorem Rr.pin_of {α : Type} {r : Rr α} (h : r.pin (fun _ => False) ρ) : r.pin X ρ := by
  cases r with
  | ok a ρ' => exact ⟨h.1, fun j _ => h.2 j id⟩
  | exc x ρ' => exact ⟨h.1, fun j _ => h.2 j id⟩
  | stuck => trivial
theorem Rr.pin_pre {α : Type} {r : Rr α} (h : PinX X ρ ρ') (g : r.pin X ρ') : r.pin X ρ := by
  cases r with
  | ok a ρ2 => exact PinX.trans h g
  | exc a ρ2 => exact PinX.trans h g
  | stuck => trivial
theorem ofOpt_pin {α : Type} {o : Option α} : (ofOpt ρ o).pin X ρ := by
  cases o with
  | none => trivial
  | some a => exact PinX.refl
theorem tst_pin {r : Rr Opd} (h : r.pin X ρ) : (tst r).pin X ρ := Rr.pin_bind h fun a ρ' _ => ofOpt_pin
theorem alPass_pin : ∀ {ms : List Mode} {os os' : List Opd} {ρ ρ' : Env}, alPass ρ ms os = some (os', ρ') → Pin ρ ρ'
  | [], [], os', ρ, ρ', h => by cases h; exact .refl
  | [], _ :: _, os', ρ, ρ', h => by cases h
  | m :: ms, [], os', ρ, ρ', h => by cases m <;> cases h
  | m :: ms, o :: os, os', ρ, ρ', h => by
    have rest : ∀ {ρ1 : Env} {f : Opd}, (alPass ρ1 ms os).map (fun (os', ρ'') => (f :: os', ρ'')) = some (os', ρ') → Pin ρ1 ρ' := fun {ρ1 f} h => by
      cases e : alPass ρ1 ms os with
      | none => rw [e] at h; cases h
      | some y =>
        obtain ⟨os2, ρ2⟩ := y
        rw [e] at h
        cases h
        exact alPass_pin e
    cases m with
    | al =>
      rw [alPass] at h
      split at h
      · rename_i o' ρ1 h1
        exact (Pin.alias h1).trans (rest h)
      · cases h
    | bw => exact rest h
    | mu => exact rest h
theorem aliases_pin : ∀ {os : List Opd} {ds : List D} {b : Bool} {ρ ρ' : Env}, aliases ρ os = some (ds, b, ρ') → Pin ρ ρ'
  | [], ds, b, ρ, ρ', h => by cases h; exact .refl
  | o :: os, ds, b, ρ, ρ', h => by
    rw [aliases] at h
    split at h
    · cases h
    · rename_i o' ρ1 h1
      split at h
      · cases h
      · rename_i ds1 b1 ρ2 h2
        simp only [Option.some.injEq, Prod.mk.injEq] at h
        obtain ⟨_, _, rfl⟩ := h
        exact (Pin.alias h1).trans (aliases_pin h2)
theorem callR_pin {ms : List Mode} {os : List Opd} {m : List D → FRes} : (callR ρ ms os m).pin X ρ := by
  unfold callR
  split
  · trivial
  · split
    · split
      · exact PinX.refl
      · exact PinX.refl
      · trivial
    · split
      · trivial
      · split
        · split
          · rename_i h; exact (Pin.setP h).x
          · trivial
        · split
          · rename_i h; exact (Pin.setP h).x
          · trivial
        · trivial
    · trivial
theorem lcL_pin {f : D → Env → Rr (Option D)} {own : List Nat} (ho : ∀ v ∈ own, X v) (hf : ∀ x ρ, (f x ρ).pin X ρ) : ∀ (xs acc : List D) (ρ : Env), (lcL f own xs acc ρ).pin X ρ
  | [], acc, ρ => PinX.refl
  | x :: xs, acc, ρ => by
    rw [lcL]
    refine Rr.pin_bind ?_ fun o ρ' _ => ?_
    · have h := hf x (wipeE ρ own)
      cases e : f x (wipeE ρ own) with
      | ok a ρ' => rw [e] at h; exact PinX.trans (.wipe ho) h
      | exc a ρ' => rw [e] at h; exact PinX.trans (.wipe ho) h
      | stuck => trivial
    · cases o with
      | none => exact lcL_pin ho hf xs acc ρ'
      | some y =>
        dsimp only
        split
        · exact lcL_pin ho hf xs _ ρ'
        · trivial
theorem backE_pin : ∀ {own : List Nat} {ρ₀ ρ ρ' : Env}, backE ρ₀ ρ own = some ρ' → ρ'.length = ρ.length ∧ (∀ j, j ∉ own → slot ρ' j = slot ρ j) ∧ ∀ j ∈ own, (slot ρ₀ j = .un ∨ ∃ d, slot ρ₀ j = .fz d) ∧ (j < ρ.length → slot ρ' j = slot ρ₀ j)
  | [], ρ₀, ρ, ρ', h => by cases h; exact ⟨rfl, fun _ _ => rfl, fun _ z => nomatch z⟩
  | v :: vs, ρ₀, ρ, ρ', h => by
    rw [backE] at h
    have go : ∀ {s : Slot}, slot ρ₀ v = s → (s = .un ∨ ∃ d, s = .fz d) → (backE ρ₀ ρ vs).map (fun ρ' => ρ'.set v s) = some ρ' → ρ'.length = ρ.length ∧ (∀ j, j ∉ v :: vs → slot ρ' j = slot ρ j) ∧ ∀ j ∈ v :: vs, (slot ρ₀ j = .un ∨ ∃ d, slot ρ₀ j = .fz d) ∧ (j < ρ.length → slot ρ' j = slot ρ₀ j) := fun {s} hs hp h => by
      cases e : backE ρ₀ ρ vs with
      | none => rw [e] at h; cases h
      | some ρ2 =>
        rw [e] at h
        cases h
        obtain ⟨h1, h2, h3⟩ := backE_pin e
        refine ⟨by simp [h1], fun j hj => ?_, fun j hj => ?_⟩
        · rw [slot_set (fun z => hj (by rw [z]; exact List.mem_cons_self))]
          exact h2 j fun z => hj (List.mem_cons_of_mem _ z)
        · by_cases ej : j = v
          · subst ej
            rw [hs]
            exact ⟨hp, fun hl => slot_set_same (by rw [h1]; exact hl)⟩
          · rw [slot_set ej]
            exact h3 j ((List.mem_cons.mp hj).resolve_left ej)
    split at h
    · rename_i hs; exact go (slot_get hs) (.inl rfl) h
    · rename_i d hs; exact go (slot_get hs) (.inr ⟨d, rfl⟩) h
    · cases h
theorem unlock_slot {ρ₀ ρ ρ' : Env} {k : Option Nat} (h : unlock ρ₀ k ρ = some ρ') : ρ'.length = ρ.length ∧ (∀ j, k ≠ some j → slot ρ' j = slot ρ j) ∧ ∀ i, k = some i → (∀ d, slot ρ₀ i = .ow d → ρ' = ρ.set i (.ow d)) ∧ (∀ d, slot ρ₀ i = .mw d → ρ' = ρ.set i (.mw d)) ∧ ((∀ d, slot ρ₀ i ≠ .ow d) → (∀ d, slot ρ₀ i ≠ .mw d) → ρ' = ρ) := by
  unfold unlock at h
  cases k with
  | none => cases h; exact ⟨rfl, fun _ _ => rfl, fun i z => nomatch z⟩
  | some i =>
    dsimp only at h
    split at h
    · rename_i d hd
      cases h
      refine ⟨by simp, fun j hj => slot_set (fun e => hj (by rw [e])), fun i' e => ?_⟩
      cases e
      rw [slot_get hd]
      exact ⟨(fun d' e => by cases e; rfl), (fun d' e => by cases e), fun h => (h d rfl).elim⟩
    · rename_i d hd
      cases h
      refine ⟨by simp, fun j hj => slot_set (fun e => hj (by rw [e])), fun i' e => ?_⟩
      cases e
      rw [slot_get hd]
      exact ⟨(fun d' e => by cases e), (fun d' e => by cases e; rfl), fun _ h => (h d rfl).elim⟩
    · rename_i h1 h2
      cases h
      refine ⟨rfl, fun j hj => rfl, fun i' e => ?_⟩
      cases e
      have hn : ∀ s, slot ρ₀ i = s → s ≠ .un → ρ₀[i]? = some s := fun s e ne => by rw [← e]; exact get_slot (by rw [e]; exact ne)
      exact ⟨fun d' e => (h1 d' (hn _ e (by intro z; cases z))).elim, fun d' e => (h2 d' (hn _ e (by intro z; cases z))).elim, fun _ _ => rfl⟩
/-- behind a walk: pinned names are as they were -/
theorem back_pin {own : List Nat} {k : Option Nat} {ρ₁ ρ₂ ρ₃ : Env} (h : PinX (fun j => j ∈ own ∨ (k = some j ∧ ((∃ d, slot ρ₁ j = .ow d) ∨ ∃ d, slot ρ₁ j = .mw d))) ρ₁ ρ₂) (e : (backE ρ₁ ρ₂ own).bind (unlock ρ₁ k) = some ρ₃) : Pin ρ₁ ρ₃ := by
  cases e1 : backE ρ₁ ρ₂ own with
  | none => rw [e1] at e; cases e
  | some ρ' =>
    rw [e1] at e
    obtain ⟨b1, b2, b3⟩ := backE_pin e1
    obtain ⟨u1, u2, u3⟩ := unlock_slot (show unlock ρ₁ k ρ' = some ρ₃ from e)
    refine ⟨by rw [u1, b1, h.1], fun j => ?_⟩
    have len : ρ'.length = ρ₁.length := by rw [b1, h.1]
    by_cases ho : j ∈ own
    · -- a name of the walk's own
      obtain ⟨c1, c2⟩ := b3 j ho
      have e3 : slot ρ₃ j = slot ρ₁ j := by
        have e2 : slot ρ' j = slot ρ₁ j := by
          by_cases hl : j < ρ₂.length
          · exact c2 hl
          · rw [slot_out (by rw [b1]; simpa using hl), slot_out (by rw [← h.1]; simpa using hl)]
        by_cases hk : k = some j
        · obtain ⟨v1, v2, v3⟩ := u3 j hk
          rw [v3 (fun d z => by rcases c1 with c | ⟨d', c⟩ <;> rw [c] at z <;> cases z) (fun d z => by rcases c1 with c | ⟨d', c⟩ <;> rw [c] at z <;> cases z)]
          exact e2
        · rw [u2 j hk]; exact e2
      rw [e3]
      exact ⟨fun _ => .rfl, fun d h => ⟨d, h⟩⟩
    · by_cases hk : k = some j
      · obtain ⟨v1, v2, v3⟩ := u3 j hk
        have lt : ∀ s, slot ρ₁ j = s → s ≠ .un → j < ρ'.length := fun s hs hn => by
          rw [len]
          exact lt_of_get (get_slot (by rw [hs]; exact hn))
        have rest : ∀ {s}, slot ρ₁ j = s → (∀ d, s ≠ .ow d) → (∀ d, s ≠ .mw d) → (∀ d, s = .bw d ↔ slot ρ₃ j = .bw d) ∧ ∀ d, s = .mw d → ∃ d', slot ρ₃ j = .mw d' := fun {s} es n1 n2 => by
          rw [v3 (fun d z => n1 d (by rw [← es, z])) (fun d z => n2 d (by rw [← es, z])), b2 j ho]
          have := h.2 j fun z => z.elim ho fun y => y.2.elim (fun ⟨d, z⟩ => n1 d (by rw [← es, z])) fun ⟨d, z⟩ => n2 d (by rw [← es, z])
          rw [es] at this
          exact this
        cases es : slot ρ₁ j with
        | ow d =>
          rw [v1 d es, slot_set_same (lt _ es (by intro z; cases z))]
          exact ⟨fun d => ⟨(fun z => by cases z), fun z => by cases z⟩, fun d z => by cases z⟩
        | mw d =>
          rw [v2 d es, slot_set_same (lt _ es (by intro z; cases z))]
          exact ⟨fun d => ⟨(fun z => by cases z), fun z => by cases z⟩, fun d' _ => ⟨d, rfl⟩⟩
        | bw d => exact rest es (fun d z => by cases z) fun d z => by cases z
        | un => exact rest es (fun d z => by cases z) fun d z => by cases z
        | fz d => exact rest es (fun d z => by cases z) fun d z => by cases z
      · rw [u2 j hk, b2 j ho]
        exact h.2 j fun z => z.elim ho fun y => hk y.1
mutual
theorem evE_pin (F : Fn) : ∀ (e : Ex) {X : Nat → Prop} (ρ : Env), (evE F e ρ).pin X ρ
  | .var i, X, ρ => by
    rw [evE]
    split <;> first | exact PinX.refl | trivial
  | .mv i, X, ρ => by
    rw [evE]
    split
    · exact PinX.refl
    · rename_i d hd
      exact (Pin.set (by rw [slot_get hd] <;> rfl)).x
    · trivial
  | .lit d, X, ρ => by rw [evE]; exact PinX.refl
  | .dct0, X, ρ => by rw [evE]; exact PinX.refl
  | .bop op a b, X, ρ => by
    rw [evE]
    refine Rr.pin_bind (evE_pin F a ρ) fun _ ρ1 _ => Rr.pin_bind (evE_pin F b ρ1) fun _ ρ2 _ => ?_
    split
    · split
      · exact ofOpt_pin
      · trivial
    · trivial
  | .neg a, X, ρ => by
    rw [evE]
    refine Rr.pin_bind (evE_pin F a ρ) fun _ ρ1 _ => ?_
    split <;> first | exact PinX.refl | trivial
  | .cmp op a b, X, ρ => by
    rw [evE]
    refine Rr.pin_bind (evE_pin F a ρ) fun _ ρ1 _ => Rr.pin_bind (evE_pin F b ρ1) fun _ ρ2 _ => ?_
    split
    · split
      · exact ofOpt_pin
      · trivial
    · trivial
  | .cmp2 op op' a b c, X, ρ => by
    rw [evE]
    refine Rr.pin_bind (evE_pin F a ρ) fun _ ρ1 _ => Rr.pin_bind (evE_pin F b ρ1) fun _ ρ2 _ => ?_
    split
    · split
      · split
        · refine Rr.pin_bind (evE_pin F c ρ2) fun _ ρ3 _ => ?_
          split
          · exact ofOpt_pin
          · trivial
        · exact PinX.refl
        · trivial
      · trivial
    · trivial
  | .band a b, X, ρ => by
    rw [evE]
    refine Rr.pin_bind (evE_pin F a ρ) fun _ ρ1 _ => ?_
    split
    · exact evE_pin F b ρ1
    · exact PinX.refl
    · trivial
  | .bor a b, X, ρ => by
    rw [evE]
    refine Rr.pin_bind (evE_pin F a ρ) fun _ ρ1 _ => ?_
    split
    · exact PinX.refl
    · exact evE_pin F b ρ1
    · trivial
  | .bnot a, X, ρ => by
    rw [evE]
    refine Rr.pin_bind (evE_pin F a ρ) fun _ ρ1 _ => ?_
    split <;> first | exact PinX.refl | trivial
  | .ife c a b, X, ρ => by
    rw [evE]
    refine Rr.pin_bind (tst_pin (evE_pin F c ρ)) fun _ ρ1 _ => ?_
    split
    · exact evE_pin F a ρ1
    · exact evE_pin F b ρ1
  | .tup es, X, ρ => by
    rw [evE]
    refine Rr.pin_bind (evEs_pin F es ρ) fun _ ρ1 _ => ?_
    split
    · rename_i ha
      split
      · exact (aliases_pin (if_some ha).2).x
      · trivial
    · trivial
  | .lst es, X, ρ => by
    rw [evE]
    refine Rr.pin_bind (evEs_pin F es ρ) fun _ ρ1 _ => ?_
    split
    · rename_i ha
      split
      · exact (aliases_pin (if_some ha).2).x
      · trivial
    · trivial
  | .sub a i, X, ρ => by
    rw [evE]
    refine Rr.pin_bind (evE_pin F a ρ) fun x ρ1 _ => Rr.pin_bind (evE_pin F i ρ1) fun _ ρ2 _ => ?_
    split
    · split
      · split
        · cases x with
          | fz d => exact PinX.refl
          | ow d => dsimp only; split <;> first | exact PinX.refl | trivial
          | pt j p =>
            dsimp only
            split
            · exact PinX.refl
            · split <;> first | exact PinX.refl | trivial
        · trivial
      · trivial
    · trivial
  | .slc a lo hi, X, ρ => by
    rw [evE]
    refine Rr.pin_bind (evE_pin F a ρ) fun x ρ1 _ => Rr.pin_bind (evO_pin F lo ρ1) fun _ ρ2 _ => Rr.pin_bind (evO_pin F hi ρ2) fun _ ρ3 _ => ?_
    split
    · split
      · exact ofOpt_pin
      · trivial
    · trivial
  | .call f es, X, ρ => by
    rw [evE]
    refine Rr.pin_bind (evEs_pin F es ρ) fun _ ρ1 _ => ?_
    split
    · trivial
    · split
      · trivial
      · rename_i ha
        exact Rr.pin_pre (alPass_pin (if_some ha).2).x callR_pin
  | .bi f es, X, ρ => by
    rw [evE]
    refine Rr.pin_bind (evEs_pin F es ρ) fun _ ρ1 _ => ?_
    split
    · split
      · split
        · split <;> first | exact PinX.refl | trivial
        · trivial
      · trivial
    · trivial
  | .isi a t, X, ρ => by
    rw [evE]
    refine Rr.pin_bind (evE_pin F a ρ) fun _ ρ1 _ => ?_
    split
    · exact ofOpt_pin
    · trivial
  | .mth m o es, X, ρ => by
    rw [evE]
    refine Rr.pin_bind (evE_pin F o ρ) fun x ρ1 _ => ?_
    split
    · refine Rr.pin_bind (evEs_pin F es ρ1) fun _ ρ2 _ => ?_
      split
      · split
        · cases x with
          | fz d => trivial
          | ow d => trivial
          | pt i p =>
            dsimp only
            split
            · rename_i ha
              split
              · split
                · split
                  · rename_i hs
                    exact ((aliases_pin ha).trans (Pin.setP hs)).x
                  · trivial
                · trivial
              · trivial
            · trivial
        · split
          · split
            · split <;> first | exact PinX.refl | trivial
            · trivial
          · trivial
      · trivial
    · trivial
  | .lc own t it c e, X, ρ => by
    rw [evE]
    refine Rr.pin_bind (evI_pin F it ρ) fun x ρ1 _ => ?_
    obtain ⟨xs, bz, k⟩ := x
    dsimp only
    have hL := lcL_pin (X := fun j => j ∈ own ∨ (k = some j ∧ ((∃ d, slot ρ1 j = .ow d) ∨ ∃ d, slot ρ1 j = .mw d))) (own := own) (f := lcT t bz (fun ρ => evC F c ρ) fun ρ => evE F e ρ) (fun v hv => .inl hv) (fun x ρ => by
        unfold lcT
        split
        · trivial
        · rename_i ρ' ha
          refine Rr.pin_pre (asgT_pin t ha).x (Rr.pin_bind (evC_pin F c ρ') fun b ρ2 _ => ?_)
          split
          · refine Rr.pin_bind (evE_pin F e ρ2) fun o ρ3 _ => ?_
            split
            · rename_i hal; exact (Pin.alias hal).x
            · trivial
          · exact PinX.refl) xs [] (lock ρ1 k)
    have hL' := Rr.pin_pre (PinX.lock (k := k) (ρ := ρ1) fun i h1 h2 => .inr ⟨h1, h2⟩) hL
    generalize hr : lcL (lcT t bz (fun ρ => evC F c ρ) fun ρ => evE F e ρ) own xs [] (lock ρ1 k) = r at hL'
    cases r with
    | stuck => trivial
    | exc x ρ2 => trivial
    | ok ys ρ2 =>
      dsimp only [Rr.bind, Rr.calm]
      split
      · rename_i hb; exact (back_pin hL' hb).x
      · trivial
theorem evEs_pin (F : Fn) : ∀ (es : List Ex) {X : Nat → Prop} (ρ : Env), (evEs F es ρ).pin X ρ
  | [], X, ρ => by rw [evEs]; exact PinX.refl
  | e :: es, X, ρ => by
    rw [evEs]
    exact Rr.pin_bind (evE_pin F e ρ) fun _ ρ1 _ => Rr.pin_bind (evEs_pin F es ρ1) fun _ ρ2 _ => PinX.refl
theorem evC_pin (F : Fn) : ∀ (c : Option Ex) {X : Nat → Prop} (ρ : Env), (evC F c ρ).pin X ρ
  | none, X, ρ => by rw [evC]; exact PinX.refl
  | some e, X, ρ => by rw [evC]; exact tst_pin (evE_pin F e ρ)
theorem evO_pin (F : Fn) : ∀ (c : Option Ex) {X : Nat → Prop} (ρ : Env), (evO F c ρ).pin X ρ
  | none, X, ρ => by rw [evO]; exact PinX.refl
  | some e, X, ρ => by
    rw [evO]
    refine Rr.pin_bind (evE_pin F e ρ) fun _ ρ1 _ => ?_
    split <;> first | exact PinX.refl | trivial
theorem evI_pin (F : Fn) : ∀ (it : It) {X : Nat → Prop} (ρ : Env), (evI F it ρ).pin X ρ
  | .seq e, X, ρ => by
    rw [evI]
    refine Rr.pin_bind (evE_pin F e ρ) fun _ ρ1 _ => ?_
    split
    · split
      · split <;> first | exact PinX.refl | trivial
      · trivial
    · trivial
  | .rng a, X, ρ => by
    rw [evI]
    refine Rr.pin_bind (evE_pin F a ρ) fun _ ρ1 _ => ?_
    split
    · split <;> first | exact PinX.refl | trivial
    · trivial
  | .rng2 a b, X, ρ => by
    rw [evI]
    refine Rr.pin_bind (evE_pin F a ρ) fun _ ρ1 _ => Rr.pin_bind (evE_pin F b ρ1) fun _ ρ2 _ => ?_
    split
    · split <;> first | exact PinX.refl | trivial
    · trivial
end
end
end Rw

set_option Elab.async false
set_option linter.all false
set_option maxRecDepth 100000
/-! RwK: what is walked; locking; list comprehensions. -/
namespace Rw
open PySem PySem.Spec PyProof.Rows L2
section
variable {K : PySem.W.Frag} {mg : Str → Option Value} {A₀ A A' A₁ : Addr → Prop} {σ σ' : L2.St} {H H' H₁ : Hp} {ρ ρ' ρ₁ : Env} {fp fp' fp₁ : Nat → List Addr} {W : WX} {F : Fn} {e : Ex} {Q : VK} {p : Bool}
/-- J walks the data xs, as long as what P says stands -/
def ItOk (K : PySem.W.Frag) (H : Hp) (B P : Addr → Prop) (J : L2.It) (xs : List D) : Prop :=
  ∃ vs : List V, RpL K H B vs xs [] ∧ ∀ H1, (∀ a o, H a = some o → P a → H1 a = some o) →
    (∀ i, i < xs.length → J.go i H1) ∧ J.stop xs.length H1 ∧ ∀ i v H2, i < xs.length → J.yld i H1 v H2 → H2 = H1 ∧ vs[i]? = some v
/-- no other name's thing -/
def Prot (fp : Nat → List Addr) (k : Option Nat) (a : Addr) : Prop := ∀ j, a ∈ fp j → k = some j
def tI (K : PySem.W.Frag) (mg : Str → Option Value) (W : WX) (F : Fn) (it : It) : TI := fun σ H R => ∃ A₀ A ρ fp, SI K A₀ A σ H ρ fp ∧
  (evI F it ρ).all (fun x ρ' => ∀ J H' A' fp', EOk K A₀ A fp σ H (pureI it) ρ' H' A' fp' → ItOk K H' (Bs A' fp') (Prot fp' x.2.2) J x.1 → R J H') (XPost K mg A₀ A fp σ H W)
theorem ItOk.list {B P : Addr → Prop} {a : Addr} {vs : List V} {xs : List D} (l : RpL K H B vs xs []) (h : ∀ H1, (∀ a o, H a = some o → P a → H1 a = some o) → SqL K H1 a vs) : ItOk K H B P (Itl K a) xs :=
  ⟨vs, l, fun H1 k => ⟨fun i hi => by
    have hl : i < vs.length := by rw [l.len]; exact hi
    exact ⟨vs, vs[i], h H1 k, List.getElem?_eq_getElem hl⟩, ⟨vs, h H1 k, by rw [l.len]; exact Nat.le_refl _⟩, fun i v H2 _ y => ⟨y.1, y.2 vs (h H1 k)⟩⟩⟩
theorem ItOk.tup {B P : Addr → Prop} {a : Addr} {vs : List V} {xs : List D} (l : RpL K H B vs xs []) (h : ∀ H1, (∀ a o, H a = some o → P a → H1 a = some o) → SqT K H1 a vs) : ItOk K H B P (Itt K a) xs :=
  ⟨vs, l, fun H1 k => ⟨fun i hi => by
    have hl : i < vs.length := by rw [l.len]; exact hi
    exact ⟨vs, vs[i], h H1 k, List.getElem?_eq_getElem hl⟩, ⟨vs, h H1 k, by rw [l.len]; exact Nat.le_refl _⟩, fun i v H2 _ y => ⟨y.1, y.2 vs (h H1 k)⟩⟩⟩
theorem RpL.strs1 {B : Addr → Prop} : ∀ x : Sg, RpL K H B (x.map fun c => V.str ⟨#[c]⟩) (x.map fun c => D.str [c]) []
  | [] => .nil
  | c :: x => RpL.cons (f := []) (fs := []) (.str [c]) (RpL.strs1 x)
theorem ItOk.str {B P : Addr → Prop} {x : Sg} : ItOk K H B P (Its ⟨x.toArray⟩) (x.map fun c => D.str [c]) := by
  refine ⟨_, RpL.strs1 x, fun H1 _ => ⟨fun i hi => ?_, ?_, fun i v H2 _ y => ⟨y.1, ?_⟩⟩⟩
  · show i < x.toArray.size
    simpa using hi
  · show x.toArray.size ≤ _
    simp
  · obtain ⟨_, c, hc, rfl⟩ := y
    have : x[i]? = some c := by simpa using hc
    simp [this]
theorem RpL.rng {B : Addr → Prop} (lo : Int) : ∀ l : List Nat, RpL K H B (l.map fun (k : Nat) => V.int (lo + (k : Int))) (l.map fun (k : Nat) => D.int (lo + (k : Int))) []
  | [] => .nil
  | c :: x => RpL.cons (f := []) (fs := []) (.int _) (RpL.rng lo x)
theorem ItOk.rng {B P : Addr → Prop} {lo hi : Int} : ItOk K H B P (Itr lo (hi - lo).toNat) (rangeD lo hi) := by
  refine ⟨_, RpL.rng lo _, fun H1 _ => ⟨fun i h => ?_, ?_, fun i v H2 h y => ⟨y.1, ?_⟩⟩⟩
  · show i < _
    simpa [rangeD] using h
  · show _ ≤ _
    simp [rangeD]
  · obtain ⟨_, rfl⟩ := y
    have : i < (hi - lo).toNat := by simpa [rangeD] using h
    rw [List.getElem?_map, List.getElem?_range this]
    rfl
def iSeq (K : PySem.W.Frag) (te : TE) : TI := fun σ H R => iList K te σ H R ∨ iTup K te σ H R ∨ iStr te σ H R
theorem rd_seq {e : Ex} : ∀ σ H R, tI K mg W F (.seq e) σ H R → iSeq K (tE K mg W F e) σ H R := fun σ H R ⟨A₀, A, ρ, fp, S, h⟩ => by
  rw [evI] at h
  cases he : evE F e ρ with
  | stuck => rw [he] at h; exact h.elim
  | exc x ρ₁ =>
    rw [he] at h
    exact .inl ⟨A₀, A, ρ, fp, S, by rw [he]; exact h⟩
  | ok o ρ₁ =>
    rw [he] at h
    dsimp only [Rr.bind] at h
    split at h
    · rename_i d c1
      split at h
      · rename_i xs hx
        obtain ⟨hs, h⟩ := Rr.if_all h
        have go : ∀ {P : V → Hp → Prop}, (∀ v H₁ A₁ fp₁, EOk K A₀ A fp σ H (pureE e) ρ₁ H₁ A₁ fp₁ → OpdOk K H₁ A A₁ (Bs A₁ fp₁) σ v o → P v H₁) → tE K mg W F e σ H P := fun k => ⟨A₀, A, ρ, fp, S, by rw [he]; exact k⟩
        -- an owned list's place
        have prot : ∀ {v : V} {H₁ A₁ fp₁} {o' : Bool} {ds : List D}, EOk K A₀ A fp σ H (pureE e) ρ₁ H₁ A₁ fp₁ → OpdOk K H₁ A A₁ (Bs A₁ fp₁) σ v o → d = .lst o' ds → ∃ a vs, v = .ref a ∧ H₁ a = some (.lst vs) ∧ RpL K H₁ (Bs A₁ fp₁) vs ds [] ∧ Prot fp₁ (isPt o) a := by
          intro v H₁ A₁ fp₁ o' ds g ok hd
          subst hd
          have fin : ∀ {q : List Addr}, Rp K H₁ (Bs A₁ fp₁) v (.lst o' ds) q → (q = [] ∨ isFrL ds = true) → (∀ a ∈ q, Prot fp₁ (isPt o) a) → ∃ a vs, v = .ref a ∧ H₁ a = some (.lst vs) ∧ RpL K H₁ (Bs A₁ fp₁) vs ds [] ∧ Prot fp₁ (isPt o) a := by
            intro q r hq hp
            cases r with
            | lf t l => exact ⟨_, _, rfl, t.1, l, fun j z => (t.2 (.inr ⟨j, z⟩)).elim⟩
            | lo t l =>
              rcases hq with z | z
              · cases z
              · have e0 := l.fr z
                subst e0
                exact ⟨_, _, rfl, t, l, hp _ List.mem_cons_self⟩
          unfold shr at hs
          rw [Bool.or_eq_true] at hs
          cases o with
          | fz d0 =>
            cases c1
            obtain ⟨q, r, _⟩ := ok
            exact fin r.2 (.inl rfl) fun _ z => nomatch z
          | ow d0 =>
            cases c1
            obtain ⟨q, r, _, hq⟩ := ok
            exact fin r (.inr (hs.resolve_left (by simp [Opd.isFz]))) fun a z j y => (g.si.na j a y (hq a z).1).elim
          | pt i pl =>
            obtain ⟨_, ⟨_, w, hw, va⟩, _⟩ := ok
            obtain ⟨q, r, hq⟩ := g.si.con2 (show getP ρ₁ i pl = some _ from c1) hw va
            refine fin r (.inr (hs.resolve_left (by simp [Opd.isFz]))) fun a z j y => ?_
            rcases hq a z with x | x
            · rw [g.si.dj j i a y x] <;> rfl
            · exact (g.si.na j a y (g.si.sub a x)).elim
        unfold items at hx
        split at hx
        · cases hx
          refine .inl (go fun v H₁ A₁ fp₁ g ok => ?_)
          obtain ⟨a, vs, rfl, t, l, hp⟩ := prot g ok rfl
          exact ⟨a, rfl, ⟨vs, .of t⟩, h _ H₁ A₁ fp₁ ⟨g.si, g.tr, fun z => g.kp (by simpa [pureI] using z)⟩ (.list l fun H1 k => .of (k _ _ t hp))⟩
        · cases hx
          rename_i ds
          refine .inr (.inl (go fun v H₁ A₁ fp₁ g ok => ?_))
          obtain ⟨q, r, sh⟩ := sh_of g.si ok c1 hs
          have r0 := r.shT sh
          cases r0 with
          | tup t l =>
            refine ⟨_, rfl, ⟨_, t.sq⟩, h _ H₁ A₁ fp₁ ⟨g.si, g.tr, fun z => g.kp (by simpa [pureI] using z)⟩ (.tup l fun H1 k => ?_)⟩
            rcases t with ⟨t, nb⟩ | t
            · exact .inl (Rd_kept t fun o e => k _ _ e fun j z => (nb (.inr ⟨j, z⟩)).elim)
            · exact .inr t
        · cases hx
          refine .inr (.inr (go fun v H₁ A₁ fp₁ g ok => ?_))
          obtain ⟨q, r, _⟩ := con_ok g.si ok c1
          exact ⟨_, r.strI, h _ H₁ A₁ fp₁ ⟨g.si, g.tr, fun z => g.kp (by simpa [pureI] using z)⟩ .str⟩
        · cases hx
      · exact h.elim
    · exact h.elim
theorem rOk_ok {i : Int} (h : rOk i = true) : -(2 ^ 62) ≤ i ∧ i < 2 ^ 62 := of_decide_eq_true h
theorem rd_rng {a : Ex} : ∀ σ H R, tI K mg W F (.rng a) σ H R → iRng1 (tCons (tE K mg W F a) tNil) σ H R := fun σ H R ⟨A₀, A, ρ, fp, S, h⟩ => by
  rw [evI] at h
  refine tE.first S h fun o ρ₁ h x H₁ A₁ fp₁ g₁ ok₁ => ?_
  split at h
  · rename_i n
    obtain ⟨hn, h⟩ := Rr.if_all h
    obtain ⟨q, r, _⟩ := ok₁
    have e := r.2.intI
    subst e
    have := ItOk.rng (K := K) (H := H₁) (B := Bs A₁ fp₁) (P := Prot fp₁ none) (lo := 0) (hi := n)
    refine ⟨n, rfl, (rOk_ok hn).1, (rOk_ok hn).2, h _ H₁ A₁ fp₁ ⟨g₁.si, g₁.tr, fun z => g₁.kp (by simpa [pureI] using z)⟩ ?_⟩
    rw [Int.sub_zero] at this
    exact this
  · exact h.elim
theorem rd_rng2 {a b : Ex} : ∀ σ H R, tI K mg W F (.rng2 a b) σ H R → iRng2 (tCons (tE K mg W F a) (tCons (tE K mg W F b) tNil)) σ H R := fun σ H R ⟨A₀, A, ρ, fp, S, h⟩ => by
  rw [evI] at h
  refine tE.first S h fun o ρ₁ h x H₁ A₁ fp₁ g₁ ok₁ => ?_
  refine tE.first g₁.si (Xmatch h S g₁.si g₁.tr) fun u ρ₂ h y H₂ A₂ fp₂ g₂ ok₂ => ?_
  split at h
  · rename_i m n _
    obtain ⟨hn, h⟩ := Rr.if_all h
    rw [Bool.and_eq_true] at hn
    obtain ⟨q, r, _⟩ := ok₁
    obtain ⟨q2, r2, _⟩ := ok₂
    exact ⟨m, n, by rw [r.2.intI, r2.2.intI], ⟨(rOk_ok hn.1).1, (rOk_ok hn.1).2, (rOk_ok hn.2).1, (rOk_ok hn.2).2⟩, h _ H₂ A₂ fp₂ (g₁.trans S g₂ fun z => by simpa [pureI] using z) .rng⟩
  · exact h.elim
/-! ### locking -/
/-- what is locked: the thing of an owned name -/
def lockL (ρ : Env) (fp : Nat → List Addr) (k : Option Nat) : List Addr := match k with
  | some i => (match slot ρ i with
    | .ow _ | .mw _ => fp i
    | _ => [])
  | none => []
def lockF (ρ : Env) (fp : Nat → List Addr) (k : Option Nat) : Nat → List Addr := match k with
  | some i => (match slot ρ i with
    | .ow _ | .mw _ => fup fp i []
    | _ => fp)
  | none => fp
def plusL (A : Addr → Prop) (L : List Addr) : Addr → Prop := fun a => A a ∨ a ∈ L
theorem plusL_nil : plusL A [] = A := by funext a; simp [plusL]
theorem SlotOk.more {B : Addr → Prop} {x : Option V} {s : Slot} {f : List Addr} (h : SlotOk K H A₀ B x s f) (g : ∀ a, A₀ a → A' a) : SlotOk K H A' B x s f := by
  cases s with
  | bw d => obtain ⟨h1, v, q, h2, r, h3⟩ := h; exact ⟨h1, v, q, h2, r, fun a z => g a (h3 a z)⟩
  | un => exact h
  | fz d => exact h
  | ow d => exact h
  | mw d => exact h
theorem lock_core (S : SI K A₀ A σ H ρ fp) {i : Nat} {d : D} (hs : slot ρ i = .ow d ∨ slot ρ i = .mw d) : SI K (plusL A₀ (fp i)) (plusL A (fp i)) σ H (ρ.set i (.bw d)) (fup fp i []) ∧ ∀ a, Bs (plusL A (fp i)) (fup fp i []) a → Bs A fp a := by
  have hi : i < ρ.length := by rcases hs with h | h <;> exact lt_of_get (get_slot (by rw [h]; intro z; cases z))
  have sub : ∀ a, Bs (plusL A (fp i)) (fup fp i []) a → Bs A fp a := fun a b => by
    rcases b with (b | b) | ⟨j, b⟩
    · exact .inl b
    · exact .inr ⟨i, b⟩
    · by_cases e : j = i
      · rw [e, fup_same] at b; cases b
      · rw [fup_ne e] at b; exact .inr ⟨j, b⟩
  refine ⟨⟨by rw [List.length_set]; exact S.len, fun a h => h.imp (S.sub a) id, fun j => ?_, fun j k a h1 h2 => ?_, fun j a h1 h2 => ?_, fun a h => h.elim (S.tr a) fun z => (S.sl i).there a z, fun j => ?_⟩, sub⟩
  · unfold fup; split
    · exact .nil
    · exact S.nd j
  · unfold fup at h1 h2
    split at h1
    · cases h1
    · split at h2
      · cases h2
      · exact S.dj j k a h1 h2
  · unfold fup at h1
    split at h1
    · cases h1
    · rename_i ne
      rcases h2 with h2 | h2
      · exact S.na j a h1 h2
      · exact ne (S.dj j i a h1 h2)
  · by_cases e : j = i
    · subst e
      rw [slot_set_same hi, fup_same]
      have so := S.sl j
      have : ∃ v, look σ j = some v ∧ Rp K H (Bs A fp) v d (fp j) := by
        rcases hs with h | h <;> rw [h] at so <;> exact so
      obtain ⟨v, hv, r⟩ := this
      exact ⟨rfl, v, fp j, hv, r.mono (fun _ _ e _ => e) fun a b => .inl (sub a b), fun a z => .inr z⟩
    · rw [slot_set e, fup_ne e]
      exact ((S.sl j).mono (fun _ _ e _ => e) fun a b => .inl (sub a b)).more fun a h => .inl h
theorem SI.lock (S : SI K A₀ A σ H ρ fp) (k : Option Nat) : SI K (plusL A₀ (lockL ρ fp k)) (plusL A (lockL ρ fp k)) σ H (Rw.lock ρ k) (lockF ρ fp k) ∧ ∀ a, Bs (plusL A (lockL ρ fp k)) (lockF ρ fp k) a → Bs A fp a := by
  have none' : lockL ρ fp k = [] → lockF ρ fp k = fp → Rw.lock ρ k = ρ → SI K (plusL A₀ (lockL ρ fp k)) (plusL A (lockL ρ fp k)) σ H (Rw.lock ρ k) (lockF ρ fp k) ∧ ∀ a, Bs (plusL A (lockL ρ fp k)) (lockF ρ fp k) a → Bs A fp a := fun h1 h2 h3 => by
    rw [h1, h2, h3, plusL_nil, plusL_nil]
    exact ⟨S, fun _ b => b⟩
  cases k with
  | none => exact none' rfl rfl rfl
  | some i =>
    cases es : slot ρ i with
    | ow d =>
      have e := get_slot (ρ := ρ) (i := i) (by rw [es]; intro z; cases z)
      rw [es] at e
      have h1 : lockL ρ fp (some i) = fp i := by unfold lockL; simp only [es]
      have h2 : lockF ρ fp (some i) = fup fp i [] := by unfold lockF; simp only [es]
      have h3 : Rw.lock ρ (some i) = ρ.set i (.bw d) := by unfold Rw.lock; simp only [e]
      rw [h1, h2, h3]
      exact lock_core S (.inl es)
    | mw d =>
      have e := get_slot (ρ := ρ) (i := i) (by rw [es]; intro z; cases z)
      rw [es] at e
      have h1 : lockL ρ fp (some i) = fp i := by unfold lockL; simp only [es]
      have h2 : lockF ρ fp (some i) = fup fp i [] := by unfold lockF; simp only [es]
      have h3 : Rw.lock ρ (some i) = ρ.set i (.bw d) := by unfold Rw.lock; simp only [e]
      rw [h1, h2, h3]
      exact lock_core S (.inr es)
    | un => exact none' (by unfold lockL; simp only [es]) (by unfold lockF; simp only [es]) (by
        unfold Rw.lock
        dsimp only
        split
        · rename_i d hd; rw [slot_get hd] at es; cases es
        · rename_i d hd; rw [slot_get hd] at es; cases es
        · rfl)
    | fz d => exact none' (by unfold lockL; simp only [es]) (by unfold lockF; simp only [es]) (by
        unfold Rw.lock
        dsimp only
        split
        · rename_i d hd; rw [slot_get hd] at es; cases es
        · rename_i d hd; rw [slot_get hd] at es; cases es
        · rfl)
    | bw d => exact none' (by unfold lockL; simp only [es]) (by unfold lockF; simp only [es]) (by
        unfold Rw.lock
        dsimp only
        split
        · rename_i d hd; rw [slot_get hd] at es; cases es
        · rename_i d hd; rw [slot_get hd] at es; cases es
        · rfl)
/-- the walk is over: the thing is its name's again -/
theorem SI.unlock (S : SI K A₀ A σ H ρ fp) {k : Option Nat} {ρ₂ ρ₃ : Env} (S' : SI K (plusL A₀ (lockL ρ fp k)) (plusL A' (lockL ρ fp k)) σ' H' ρ₂ fp') (t : Tr (plusL A (lockL ρ fp k)) (lockF ρ fp k) H (plusL A' (lockL ρ fp k)) fp' H') (hAA : ∀ a, A a → A' a) (hnL : ∀ a ∈ lockL ρ fp k, ¬ A' a)
    (hp : ∀ j, (slot (Rw.lock ρ k) j).pin = true → look σ' j = look σ j) (hb : ∀ j d, slot (Rw.lock ρ k) j = .bw d ↔ slot ρ₂ j = .bw d) (hu : Rw.unlock ρ k ρ₂ = some ρ₃) : ∃ fp₃, SI K A₀ A' σ' H' ρ₃ fp₃ ∧ Tr A fp H A' fp₃ H' ∧ ∀ a, Bs A' fp₃ a → Bs (plusL A' (lockL ρ fp k)) fp' a := by
  obtain ⟨u1, u2, u3⟩ := unlock_slot hu
  have none' : lockL ρ fp k = [] → lockF ρ fp k = fp → ρ₃ = ρ₂ → ∃ fp₃, SI K A₀ A' σ' H' ρ₃ fp₃ ∧ Tr A fp H A' fp₃ H' ∧ ∀ a, Bs A' fp₃ a → Bs (plusL A' (lockL ρ fp k)) fp' a := fun h1 h2 h3 => by
    rw [h1, plusL_nil, plusL_nil] at S'
    rw [h1, h2, plusL_nil, plusL_nil] at t
    rw [h3]
    exact ⟨fp', S', t, fun a b => by rw [h1, plusL_nil]; exact b⟩
  have main : ∀ {i : Nat} {d : D} {s : Slot}, k = some i → slot ρ i = s → (s = .ow d ∨ s = .mw d) → lockL ρ fp k = fp i → lockF ρ fp k = fup fp i [] → Rw.lock ρ k = ρ.set i (.bw d) → ρ₃ = ρ₂.set i s → ∃ fp₃, SI K A₀ A' σ' H' ρ₃ fp₃ ∧ Tr A fp H A' fp₃ H' ∧ ∀ a, Bs A' fp₃ a → Bs (plusL A' (lockL ρ fp k)) fp' a := by
    intro i d s hk hsl hs h1 h2 h3 h4
    have hi : i < ρ.length := by rcases hs with h | h <;> exact lt_of_get (get_slot (by rw [hsl, h]; intro z; cases z))
    have h1' := h1
    rw [h1] at S' t ⊢
    rw [h2] at t
    have nA : ∀ a ∈ fp i, ¬ A' a := fun a z => hnL a (by rw [h1]; exact z)
    have nF : ∀ j a, a ∈ fp' j → a ∉ fp i := fun j a h z => S'.na j a h (.inr z)
    have tb' : ∀ a, Bs A' (fup fp' i (fp i)) a → Bs (plusL A' (fp i)) fp' a := fun a b => by
      rcases b with b | ⟨j, b⟩
      · exact .inl (.inl b)
      · by_cases e : j = i
        · rw [e, fup_same] at b; exact .inl (.inr b)
        · rw [fup_ne e] at b; exact .inr ⟨j, b⟩
    have tb : ∀ a, Bs A' (fup fp' i (fp i)) a → Bs A fp a ∨ H a = none := fun a b => by
      rcases t.b a (tb' a b) with ((z | z) | ⟨j, z⟩) | z
      · exact .inl (.inl z)
      · exact .inl (.inr ⟨i, z⟩)
      · by_cases e : j = i
        · rw [e, fup_same] at z; cases z
        · rw [fup_ne e] at z; exact .inl (.inr ⟨j, z⟩)
      · exact .inr z
    have tk : ∀ a o, H a = some o → (∀ j, a ∉ fp j ∨ j = i) → H' a = some o := fun a o e n => t.k a o e fun j z => by
      by_cases ej : j = i
      · rw [ej, fup_same] at z; cases z
      · rw [fup_ne ej] at z; exact (n j).elim (fun x => x z) ej
    have hi2 : i < ρ₂.length := by
      rw [← S'.len]
      by_cases hl : i < σ'.length
      · exact hl
      · exfalso
        have e1 := (hb i d).mp (by rw [h3, slot_set_same hi])
        rw [slot_out (by rw [← S'.len]; omega)] at e1
        cases e1
    refine ⟨fup fp' i (fp i), ⟨by rw [h4, List.length_set]; exact S'.len, fun a h => hAA a (S.sub a h), fun j => ?_, fun j l a x y => ?_, fun j a x y => ?_, fun a h => S'.tr a (.inl h), fun j => ?_⟩, ⟨hAA, fun a o e n => tk a o e fun j => .inl (n j), tb⟩, tb'⟩
    · unfold fup; split
      · exact S.nd i
      · exact S'.nd j
    · unfold fup at x y
      split at x
      · split at y
        · rename_i e1 e2; rw [e1, e2]
        · exact (nF l a y x).elim
      · split at y
        · exact (nF j a x y).elim
        · exact S'.dj j l a x y
    · unfold fup at x
      split at x
      · exact nA a x y
      · exact S'.na j a x (.inl y)
    · by_cases e : j = i
      · subst e
        rw [h4, slot_set_same hi2, fup_same]
        have so := S.sl j
        rw [hsl] at so
        have : ∃ v, look σ j = some v ∧ Rp K H (Bs A fp) v d (fp j) := by rcases hs with h | h <;> rw [h] at so <;> exact so
        obtain ⟨v, hv, r⟩ := this
        have r' : Rp K H' (Bs A' (fup fp' j (fp j))) v d (fp j) := r.mono (fun a o e n => tk a o e fun l => by
          by_cases hl : l = j
          · exact .inr hl
          · refine .inl fun z => ?_
            rcases n with n | n
            · exact n (.inr ⟨l, z⟩)
            · exact hl (S.dj l j a z n)) tb
        have hv' : look σ' j = some v := by rw [hp j (by rw [h3, slot_set_same hi] <;> rfl), hv]
        rcases hs with h | h <;> rw [h] <;> exact ⟨v, hv', r'⟩
      · rw [h4, slot_set e, fup_ne e]
        have so := S'.sl j
        have mono : ∀ {B : Addr → Prop}, B = Bs A' (fup fp' i (fp i)) → ∀ a, B a → Bs (plusL A' (fp i)) fp' a := fun hB a b => by
          rw [hB] at b
          rcases b with b | ⟨l, b⟩
          · exact .inl (.inl b)
          · by_cases el : l = i
            · rw [el, fup_same] at b; exact .inl (.inr b)
            · rw [fup_ne el] at b; exact .inr ⟨l, b⟩
        cases es : slot ρ₂ j with
        | bw d' =>
          have e0 := (hb j d').mpr es
          have e1 := e0
          rw [h3, slot_set e] at e1
          have so0 := S.sl j
          rw [e1] at so0
          obtain ⟨_, v, q, hv, r, hq⟩ := so0
          rw [es] at so
          refine ⟨so.1, v, q, by rw [hp j (by rw [e0] <;> rfl)]; exact hv, r.mono (fun a o e n => tk a o e fun l => .inl fun z => ?_) tb, hq⟩
          rcases n with n | n
          · exact n (.inr ⟨l, z⟩)
          · exact S.na l a z (S.sub a (hq a n))
        | un => rw [es] at so; exact so
        | fz d' =>
          rw [es] at so
          obtain ⟨x, v, y, r⟩ := so
          exact ⟨x, v, y, r.mono (fun _ _ e _ => e) fun a b => .inl (mono rfl a b)⟩
        | ow d' =>
          rw [es] at so
          obtain ⟨v, y, r⟩ := so
          exact ⟨v, y, r.mono (fun _ _ e _ => e) fun a b => .inl (mono rfl a b)⟩
        | mw d' =>
          rw [es] at so
          obtain ⟨v, y, r⟩ := so
          exact ⟨v, y, r.mono (fun _ _ e _ => e) fun a b => .inl (mono rfl a b)⟩
  cases k with
  | none => exact none' rfl rfl (by cases hu; rfl)
  | some i =>
    obtain ⟨v1, v2, v3⟩ := u3 i rfl
    cases es : slot ρ i with
    | ow d =>
      have e := get_slot (ρ := ρ) (i := i) (by rw [es]; intro z; cases z)
      rw [es] at e
      exact main rfl es (.inl rfl) (by unfold lockL; simp only [es]) (by unfold lockF; simp only [es]) (by unfold Rw.lock; simp only [e]) (v1 d es)
    | mw d =>
      have e := get_slot (ρ := ρ) (i := i) (by rw [es]; intro z; cases z)
      rw [es] at e
      exact main rfl es (.inr rfl) (by unfold lockL; simp only [es]) (by unfold lockF; simp only [es]) (by unfold Rw.lock; simp only [e]) (v2 d es)
    | un => exact none' (by unfold lockL; simp only [es]) (by unfold lockF; simp only [es]) (v3 (fun d z => by rw [es] at z; cases z) fun d z => by rw [es] at z; cases z)
    | fz d => exact none' (by unfold lockL; simp only [es]) (by unfold lockF; simp only [es]) (v3 (fun d z => by rw [es] at z; cases z) fun d z => by rw [es] at z; cases z)
    | bw d => exact none' (by unfold lockL; simp only [es]) (by unfold lockF; simp only [es]) (v3 (fun d z => by rw [es] at z; cases z) fun d z => by rw [es] at z; cases z)
end
end Rw

set_option Elab.async false
set_option linter.all false
set_option maxRecDepth 100000
/-! RwL: list comprehensions. -/
namespace Rw
open PySem PySem.Spec PyProof.Rows L2
mutual
/-- the names that a target stores to -/
def tgN : Tg → List Nat
  | .nm i => [i]
  | .tp ts => tgNs ts
def tgNs : List Tg → List Nat
  | [] => []
  | t :: ts => tgN t ++ tgNs ts
end
def NoW : WX := fun _ _ _ _ => False
section
variable {K : PySem.W.Frag} {mg : Str → Option Value} {A₀ A A' A₁ : Addr → Prop} {σ σ' : L2.St} {H H' H₁ : Hp} {ρ ρ' ρ₁ : Env} {fp fp' fp₁ : Nat → List Addr} {W : WX} {F : Fn} {e : Ex} {Q : VK} {p : Bool}
mutual
/-- a target changes its names alone -/
theorem gT_only : ∀ (t : Tg) {v : V} {σ : L2.St} {H : Hp} {Q : L2.St → Hp → Prop}, gT K t v σ H Q → gT K t v σ H fun σ' H' => Q σ' H' ∧ H' = H ∧ σ'.length = σ.length ∧ ∀ j, j ∉ tgN t → σ'[j]? = σ[j]?
  | .nm i, v, σ, H, Q, h => ⟨h, rfl, by simp, fun j hj => List.getElem?_set_ne (fun e => hj (by simp [tgN, e]))⟩
  | .tp ts, v, σ, H, Q, ⟨a, xs, h1, h2, h3, h4⟩ => ⟨a, xs, h1, h2, h3, gTs_only ts h4⟩
theorem gTs_only : ∀ (ts : List Tg) {vs : List V} {σ : L2.St} {H : Hp} {Q : L2.St → Hp → Prop}, gTs K ts vs σ H Q → gTs K ts vs σ H fun σ' H' => Q σ' H' ∧ H' = H ∧ σ'.length = σ.length ∧ ∀ j, j ∉ tgNs ts → σ'[j]? = σ[j]?
  | [], vs, σ, H, Q, ⟨h1, h2⟩ => ⟨h1, h2, rfl, rfl, fun _ _ => rfl⟩
  | t :: ts, vs, σ, H, Q, ⟨v, r, h1, h2⟩ => ⟨v, r, h1, gT_mono t (gT_only t h2) fun σ1 H1 ⟨q, e1, l1, k1⟩ => gTs_mono ts (gTs_only ts q) fun σ2 H2 ⟨q2, e2, l2, k2⟩ => ⟨q2, by rw [e2, e1], by rw [l2, l1], fun j hj => by
      rw [tgNs] at hj
      rw [k2 j fun z => hj (List.mem_append_right _ z), k1 j fun z => hj (List.mem_append_left _ z)]⟩⟩
theorem gT_mono : ∀ (t : Tg) {v : V} {σ : L2.St} {H : Hp} {Q Q' : L2.St → Hp → Prop}, gT K t v σ H Q → (∀ σ' H', Q σ' H' → Q' σ' H') → gT K t v σ H Q'
  | .nm i, v, σ, H, Q, Q', h, k => k _ _ h
  | .tp ts, v, σ, H, Q, Q', ⟨a, xs, h1, h2, h3, h4⟩, k => ⟨a, xs, h1, h2, h3, gTs_mono ts h4 k⟩
theorem gTs_mono : ∀ (ts : List Tg) {vs : List V} {σ : L2.St} {H : Hp} {Q Q' : L2.St → Hp → Prop}, gTs K ts vs σ H Q → (∀ σ' H', Q σ' H' → Q' σ' H') → gTs K ts vs σ H Q'
  | [], vs, σ, H, Q, Q', ⟨h1, h2⟩, k => ⟨h1, k _ _ h2⟩
  | t :: ts, vs, σ, H, Q, Q', ⟨v, r, h1, h2⟩, k => ⟨v, r, h1, gT_mono t h2 fun σ1 H1 q => gTs_mono ts q k⟩
end
theorem wipe_get {σ : L2.St} {i : Nat} : ∀ {vs : List Nat}, i ∈ vs → (wipe σ vs)[i]? = (if i < σ.length then some none else none)
  | v :: vs, h => by
    unfold wipe
    by_cases e : v = i
    · subst e
      by_cases hl : v < σ.length
      · rw [List.getElem?_set_self (by rw [wipe_length]; exact hl), if_pos hl]
      · rw [if_neg hl, List.getElem?_eq_none_iff]
        rw [List.length_set, wipe_length]; omega
    · rw [List.getElem?_set_ne e]
      exact wipe_get ((List.mem_cons.mp h).resolve_left (Ne.symm e))
theorem wipe_eq {σ σ' : L2.St} {vs : List Nat} (hl : σ'.length = σ.length) (h : ∀ j, j ∉ vs → σ'[j]? = σ[j]?) : wipe σ' vs = wipe σ vs := by
  apply List.ext_getElem?
  intro i
  by_cases hi : i ∈ vs
  · rw [wipe_get hi, wipe_get hi, hl]
  · rw [wipe_out hi, wipe_out hi, h i hi]
theorem wipe_wipe {σ : L2.St} {vs : List Nat} : wipe (wipe σ vs) vs = wipe σ vs := wipe_eq (wipe_length _ _) fun j hj => wipe_out hj
theorem slot_wipe {vs : List Nat} {j : Nat} : slot (wipeE ρ vs) j = if j ∈ vs then .un else slot ρ j := by
  induction vs with
  | nil => simp [wipeE]
  | cons v vs ih =>
    unfold wipeE
    by_cases e : j = v
    · subst e
      rw [if_pos List.mem_cons_self]
      by_cases hl : j < (wipeE ρ vs).length
      · exact slot_set_same hl
      · exact slot_out (by simpa using hl)
    · rw [slot_set e, ih]
      simp [List.mem_cons, e]
theorem wipeE_length : ∀ {vs : List Nat}, (wipeE ρ vs).length = ρ.length
  | [] => rfl
  | v :: vs => by unfold wipeE; rw [List.length_set, wipeE_length]
theorem look_wipe {vs : List Nat} {j : Nat} (h : j ∉ vs) : look (wipe σ vs) j = look σ j := by unfold look; rw [wipe_out h]
theorem SI.wipe (S : SI K A₀ A σ H ρ fp) : ∀ vs : List Nat, ∃ fp', SI K A₀ A (L2.wipe σ vs) H (wipeE ρ vs) fp' ∧ ∀ a, Bs A fp' a → Bs A fp a
  | [] => ⟨fp, S, fun _ b => b⟩
  | v :: vs => by
    obtain ⟨fp1, S1, b1⟩ := S.wipe vs
    have sub : ∀ a, Bs A (fup fp1 v []) a → Bs A fp1 a := fun a b => by
      rcases b with b | ⟨j, b⟩
      · exact .inl b
      · by_cases e : j = v
        · rw [e, fup_same] at b; cases b
        · rw [fup_ne e] at b; exact .inr ⟨j, b⟩
    refine ⟨fup fp1 v [], ?_, fun a b => b1 a (sub a b)⟩
    unfold L2.wipe wipeE
    refine S1.chg v (by rw [List.length_set, List.length_set]; exact S1.len) (fun j hj => look_set hj) (fun j hj => slot_set hj) S.sub (fun a h => .inl h) (fun a h => S.tr a h) .nil (fun _ z => nomatch z) (fun _ z => nomatch z) (fun _ _ e _ => e) ?_
    have : slot ((wipeE ρ vs).set v .un) v = .un := by
      by_cases hl : v < (wipeE ρ vs).length
      · exact slot_set_same hl
      · exact slot_out (by simpa using hl)
    rw [this]
    exact rfl
/-- a held thing may be changed -/
theorem SI.held (S : SI K A₀ A σ H ρ fp) {H₁ : Hp} (hk : ∀ a o, H a = some o → (¬ A a ∨ A₀ a) → H₁ a = some o) (hT : ∀ a, A a → ∃ o, H₁ a = some o) : SI K A₀ A σ H₁ ρ fp :=
  ⟨S.len, S.sub, S.nd, S.dj, S.na, hT, fun i => (S.sl i).mono (fun a o e n => hk a o e (by
    rcases n with n | n | n
    · exact .inl fun h => n (.inl h)
    · exact .inl (S.na i a n)
    · exact .inr n)) fun a b => .inl b⟩
theorem lock_slot {k : Option Nat} {j : Nat} (h : slot ρ j = .un ∨ ∃ d, slot ρ j = .fz d) : slot (Rw.lock ρ k) j = slot ρ j := by
  cases k with
  | none => rfl
  | some i =>
    unfold Rw.lock
    dsimp only
    split
    · rename_i d hd
      refine slot_set fun e => ?_
      rw [e, slot_get hd] at h
      rcases h with h | ⟨d, h⟩ <;> cases h
    · rename_i d hd
      refine slot_set fun e => ?_
      rw [e, slot_get hd] at h
      rcases h with h | ⟨d, h⟩ <;> cases h
    · rfl
/-- behind a comprehension: the names are as they were -/
theorem SI.back {own : List Nat} {k : Option Nat} {ρ₀ : Env} (S₁ : SI K A₀ A₁ σ H₁ (Rw.lock ρ₀ k) fp₁) (S' : SI K A₀ A' (L2.wipe σ own) H' (wipeE ρ own) fp') (t : Tr A₁ fp₁ H₁ A' fp' H') (e : backE ρ₀ ρ own = some ρ') : SI K A₀ A' σ H' ρ' fp' := by
  obtain ⟨b1, b2, b3⟩ := backE_pin e
  refine ⟨by rw [b1, ← wipeE_length (vs := own), ← S'.len, wipe_length], S'.sub, S'.nd, S'.dj, S'.na, S'.tr, fun j => ?_⟩
  have so := S'.sl j
  rw [slot_wipe] at so
  by_cases hj : j ∈ own
  · rw [if_pos hj] at so
    have ef : fp' j = [] := so
    obtain ⟨c1, c2⟩ := b3 j hj
    rw [ef]
    by_cases hl : j < ρ.length
    · rw [c2 hl]
      rcases c1 with c | ⟨d, c⟩
      · rw [c]; exact rfl
      · rw [c]
        have s1 := S₁.sl j
        rw [lock_slot (.inr ⟨d, c⟩), c] at s1
        obtain ⟨_, v, hv, r⟩ := s1
        exact ⟨rfl, v, hv, r.keep S₁ (fun _ z => nomatch z) t⟩
    · rw [slot_out (by rw [b1]; omega)]
      exact rfl
  · rw [if_neg hj, look_wipe hj] at so
    rw [b2 j hj]
    exact so
/-- its tests -/
def tC1 (K : PySem.W.Frag) (mg : Str → Option Value) (F : Fn) : Option Ex → TT
  | none => tYes
  | some c => tT K mg NoW F c
/-- what holds between two turns -/
structure LcI (K : PySem.W.Frag) (A₀ A₁ : Addr → Prop) (σ : L2.St) (H₁ : Hp) (fp₁ : Nat → List Addr) (ρ₁ : Env) (own : List Nat) (D : Addr) (pu : Bool) (G : Rr (List Rw.D) → Prop) (f : Rw.D → Env → Rr (Option Rw.D)) (xs : List Rw.D) (H : Hp) : Prop where
  ex : ∃ acc ds q A ρ fp, H D = some (.lst acc) ∧ A D ∧ SI K A₀ A (L2.wipe σ own) H (wipeE ρ own) fp ∧ Tr A₁ fp₁ H₁ A fp H ∧ (pu = true → Keep H₁ H) ∧ RpL K H (Bs A fp) acc ds q ∧ (D :: q).Nodup ∧ (∀ a ∈ q, A a ∧ ¬ A₁ a) ∧ ds.length ≤ line ∧ PinX (fun j => j ∈ own) ρ₁ ρ ∧ G (lcL f own xs ds ρ)
theorem evC_none (ρ : Env) : evC F none ρ = .ok true ρ := by rw [evC]
theorem rd_cnd {c : Option Ex} {ρ₂ : Env} {b : Bool} {P : Bool → Hp → Prop} (S : SI K A₀ A σ H ρ fp) (h : evC F c ρ = .ok b ρ₂) (k : ∀ H' A' fp', EOk K A₀ A fp σ H (pureO c) ρ₂ H' A' fp' → P b H') : tC1 K mg F c σ H P := by
  cases c with
  | none =>
    rw [evC] at h
    cases h
    exact k H A fp (.refl S)
  | some c =>
    rw [evC] at h
    exact ⟨A₀, A, ρ, fp, S, by rw [h]; exact fun H' A' fp' g => k H' A' fp' g⟩
theorem lcT_ok {t : Tg} {bz : Bool} {fc : Env → Rr Bool} {fe : Env → Rr Opd} {x : Rw.D} {o : Option Rw.D} (h : lcT t bz fc fe x ρ = .ok o ρ') : ∃ ρ1 b ρ2, asgT t bz x ρ = some ρ1 ∧ fc ρ1 = .ok b ρ2 ∧ ((b = false ∧ o = none ∧ ρ' = ρ2) ∨ (b = true ∧ ∃ u ρ3 u', fe ρ2 = .ok u ρ3 ∧ alias_ ρ3 u = some (u', ρ') ∧ o = some u'.val)) := by
  unfold lcT at h
  split at h
  · cases h
  · rename_i ρ1 h1
    cases h2 : fc ρ1 with
    | stuck => rw [h2] at h; cases h
    | exc _ _ => rw [h2] at h; cases h
    | ok b ρ2 =>
      rw [h2] at h
      refine ⟨ρ1, b, ρ2, h1, h2, ?_⟩
      cases b with
      | false => cases h; exact .inl ⟨rfl, rfl, rfl⟩
      | true =>
        have h : ((fe ρ2).bind fun o ρ3 => (match alias_ ρ3 o with
          | some (o', ρ4) => .ok (some o'.val) ρ4
          | none => .stuck)) = .ok o ρ' := h
        cases h3 : fe ρ2 with
        | stuck => rw [h3] at h; cases h
        | exc _ _ => rw [h3] at h; cases h
        | ok u ρ3 =>
          rw [h3] at h
          dsimp only [Rr.bind] at h
          split at h
          · rename_i u' ρ4 h4
            cases h
            exact .inr ⟨rfl, u, ρ3, u', rfl, h4, rfl⟩
          · cases h
theorem lcT_pin {X : Nat → Prop} {t : Tg} {b : Bool} {c : Option Ex} {e : Ex} {x : Rw.D} {ρ : Env} : (lcT t b (fun ρ => evC F c ρ) (fun ρ => evE F e ρ) x ρ).pin X ρ := by
  unfold lcT
  split
  · trivial
  · rename_i ρ' ha
    refine Rr.pin_pre (asgT_pin t ha).x (Rr.pin_bind (evC_pin F c ρ') fun b ρ2 _ => ?_)
    split
    · refine Rr.pin_bind (evE_pin F e ρ2) fun o ρ3 _ => ?_
      split
      · rename_i hal; exact (Pin.alias hal).x
      · trivial
    · exact PinX.refl
theorem rd_lc {own : List Nat} {t : Tg} {it : It} {c : Option Ex} {e : Ex} (ht : ∀ j ∈ tgN t, j ∈ own) : ∀ σ H Q, tE K mg W F (.lc own t it c e) σ H Q → tLc (tI K mg W F it) (gT K t) (tC1 K mg F c) (tE K mg NoW F e) own σ H Q := fun σ H Q ⟨A₀, A, ρ, fp, S, h⟩ => by
  rw [evE] at h
  refine ⟨A₀, A, ρ, fp, S, h.seq.imp (fun x ρ₁ _ h => ?_) fun _ _ h => h⟩
  obtain ⟨xs, bz, k⟩ := x
  dsimp only at h
  intro J H₁ A₁ fp₁ g₁ iok Dr hD
  obtain ⟨vs, lvs, iok⟩ := iok
  obtain ⟨Sl, subl⟩ := g₁.si.lock k
  -- what the rest is to give
  let G : Rr (List Rw.D) → Prop := fun r => (r.calm.bind fun ys ρ2 => match (backE ρ₁ ρ2 own).bind (Rw.unlock ρ₁ k) with
    | some ρ3 => Rr.ok (Opd.ow (.lst true ys)) ρ3
    | none => .stuck).all (fun o ρ' => ∀ v H' A' fp', EOk K A₀ A fp σ H (pureE (.lc own t it c e)) ρ' H' A' fp' → OpdOk K H' A A' (Bs A' fp') σ v o → Q v H') (XPost K mg A₀ A fp σ H W)
  let f := lcT t bz (fun ρ => evC F c ρ) fun ρ => evE F e ρ
  refine ⟨fun i m H => i ≤ xs.length ∧ m = xs.length - i ∧ LcI K (plusL A₀ (lockL ρ₁ fp₁ k)) (plusL A₁ (lockL ρ₁ fp₁ k)) σ H₁ (lockF ρ₁ fp₁ k) (Rw.lock ρ₁ k) own Dr (pureO c && pureE e) G f (xs.drop i) H, ⟨xs.length, Nat.zero_le _, rfl, ?_⟩, ?_⟩
  · -- the start
    have hDn : ∀ a, plusL A₁ (lockL ρ₁ fp₁ k) a → a ≠ Dr := fun a h z => by
      obtain ⟨o, eo⟩ := Sl.tr a h
      rw [z, hD] at eo; cases eo
    have S2 := Sl.grow (A₁ := fun a => plusL A₁ (lockL ρ₁ fp₁ k) a ∨ a = Dr) (H₁ := upd H₁ Dr (.lst [])) (fun a h => .inl (Sl.sub a h)) (fun a h => h.imp id fun z => by rw [z]; exact hD) (fun a h => h.elim (fun h => (Sl.tr a h).elim fun o e => ⟨o, upd_keep hD a o e⟩) fun z => ⟨.lst [], by rw [z]; exact upd_same⟩) (upd_keep hD)
    obtain ⟨fp2, S3, b3⟩ := S2.wipe own
    refine ⟨[], [], [], _, Rw.lock ρ₁ k, fp2, upd_same, .inr rfl, S3, ⟨fun a h => .inl h, fun a o e _ => upd_keep hD a o e, fun a b => ?_⟩, fun _ a o e => upd_keep hD a o e, .nil, by simp, (fun _ z => nomatch z), Nat.zero_le _, .refl, ?_⟩
    · rcases b3 a b with (b | b) | b
      · exact .inl (.inl b)
      · exact .inr (by rw [b]; exact hD)
      · exact .inl (.inr b)
    · exact h
  · rintro i m H2 ⟨hi, hm, acc, ds, q, A2, ρ2, fp2, hacc, hDA, S2, t2, kp2, l2, nd2, hq2, hlen, hpin, hG⟩
    have prot : ∀ a o, H₁ a = some o → Prot fp₁ k a → H2 a = some o := fun a o eo pa => t2.k a o eo fun j z => by
      unfold lockF at z
      cases k with
      | none => exact nomatch pa j z
      | some i0 =>
        dsimp only at z
        have key : a ∈ fp₁ j → j = i0 := fun z => (Option.some.inj (pa j z)).symm
        have out : slot ρ₁ i0 = .un ∨ (∃ d, slot ρ₁ i0 = .fz d) ∨ (∃ d, slot ρ₁ i0 = .bw d) → a ∉ fp₁ j := fun hs z => by
          have ej := key z
          rw [ej] at z
          have so := g₁.si.sl i0
          rcases hs with hs | ⟨d, hs⟩ | ⟨d, hs⟩ <;> rw [hs] at so
          · rw [show fp₁ i0 = [] from so] at z; cases z
          · rw [so.1] at z; cases z
          · rw [so.1] at z; cases z
        have ow : a ∈ fup fp₁ i0 [] j → False := fun z => by
          by_cases ej : j = i0
          · rw [ej, fup_same] at z; cases z
          · rw [fup_ne ej] at z; exact ej (key z)
        cases es : slot ρ₁ i0 with
        | un => rw [es] at z; exact out (.inl es) z
        | fz d => rw [es] at z; exact out (.inr (.inl ⟨d, es⟩)) z
        | bw d => rw [es] at z; exact out (.inr (.inr ⟨d, es⟩)) z
        | ow d => rw [es] at z; exact ow z
        | mw d => rw [es] at z; exact ow z
    obtain ⟨k1, k2, k3⟩ := iok H2 prot
    by_cases hie : i = xs.length
    · -- the end
      refine .inl ⟨by rw [hie]; exact k2, ?_⟩
      rw [hie, List.drop_length] at hG
      have hG : G (.ok ds ρ2) := hG
      have hG : (match (backE ρ₁ ρ2 own).bind (Rw.unlock ρ₁ k) with
        | some ρ3 => Rr.ok (Opd.ow (.lst true ds)) ρ3
        | none => .stuck).all _ _ := hG
      split at hG
      · rename_i ρ3 hb
        cases e1 : backE ρ₁ ρ2 own with
        | none => rw [e1] at hb; cases hb
        | some ρ' =>
          rw [e1] at hb
          have S3 := SI.back Sl S2 t2 e1
          have hu : Rw.unlock ρ₁ k ρ' = some ρ3 := hb
          obtain ⟨b1, b2, b3⟩ := backE_pin e1
          -- names that were read-only still are
          have pin : ∀ j d, slot (Rw.lock ρ₁ k) j = .bw d ↔ slot ρ' j = .bw d := fun j d => by
            by_cases hj : j ∈ own
            · obtain ⟨c1, c2⟩ := b3 j hj
              rw [lock_slot c1]
              by_cases hl : j < ρ2.length
              · rw [c2 hl]
              · rw [slot_out (ρ := ρ') (by rw [b1]; omega), ← lock_slot (k := k) c1, slot_out (ρ := Rw.lock ρ₁ k) (by rw [← hpin.1]; omega)]
            · rw [b2 j hj]
              exact (hpin.2 j hj).1 d
          have eA : plusL (fun a => A2 a ∧ a ∉ lockL ρ₁ fp₁ k) (lockL ρ₁ fp₁ k) = A2 := by
            funext a
            apply propext
            unfold plusL
            constructor
            · rintro (z | z)
              · exact z.1
              · exact t2.a a (.inr z)
            · intro z
              by_cases hL : a ∈ lockL ρ₁ fp₁ k
              · exact .inr hL
              · exact .inl ⟨z, hL⟩
          rw [← eA] at S3
          have t3 := t2
          rw [← eA] at t3
          have Ldj : ∀ a, A₁ a → a ∉ lockL ρ₁ fp₁ k := fun a y z => by
            unfold lockL at z
            split at z
            · split at z
              · exact g₁.si.na _ a z y
              · exact g₁.si.na _ a z y
              · cases z
            · cases z
          obtain ⟨fp4, S4, t4, b4⟩ := g₁.si.unlock S3 t3 (fun a h => ⟨t2.a a (.inl h), Ldj a h⟩) (fun a z y => y.2 z) (fun _ _ => rfl) pin hu
          have g4 : EOk K A₀ A fp σ H (pureE (.lc own t it c e)) ρ3 H2 (fun a => A2 a ∧ a ∉ lockL ρ₁ fp₁ k) fp4 := ⟨S4, g₁.tr.trans S g₁.si t4, fun z a o e => by
            rw [pureE, Bool.and_eq_true] at z
            exact kp2 z.2 a o (g₁.kp z.1 a o e)⟩
          have hDL : Dr ∉ lockL ρ₁ fp₁ k := fun z => by
            obtain ⟨o, eo⟩ := Sl.tr Dr (.inr z)
            rw [hD] at eo; cases eo
          have hqL : ∀ a ∈ q, a ∉ lockL ρ₁ fp₁ k := fun a z y => (hq2 a z).2 (.inr y)
          have hB : ∀ a, Bs (fun a => A2 a ∧ a ∉ lockL ρ₁ fp₁ k) fp4 a → Bs A2 fp2 a ∨ H2 a = none := fun a b => .inl (by have := b4 a b; rw [eA] at this; exact this)
          refine hG (.ref Dr) H2 _ fp4 g4 ⟨Dr :: q, .lo hacc (l2.mono (fun _ _ e _ => e) hB), nd2, fun a z => ?_⟩
          rcases List.mem_cons.mp z with z | z
          · rw [z]
            refine ⟨⟨hDA, hDL⟩, fun hA => ?_⟩
            obtain ⟨o, eo⟩ := g₁.si.tr Dr (g₁.tr.a Dr hA)
            rw [hD] at eo; cases eo
          · exact ⟨⟨(hq2 a z).1, hqL a z⟩, fun hA => (hq2 a z).2 (.inl (g₁.tr.a a hA))⟩
      · exact hG.elim
    · have hlt : i < xs.length := by omega
      refine .inr ⟨k1 i hlt, fun H' => LcI K (plusL A₀ (lockL ρ₁ fp₁ k)) (plusL A₁ (lockL ρ₁ fp₁ k)) σ H₁ (lockF ρ₁ fp₁ k) (Rw.lock ρ₁ k) own Dr (pureO c && pureE e) G f (xs.drop (i + 1)) H', fun H' h' => ⟨xs.length - (i + 1), by omega, by omega, rfl, h'⟩, fun x H' hy => ?_⟩
      obtain ⟨rfl, hvx⟩ := k3 i x H' hlt hy
      have hdrop : xs.drop i = xs[i] :: xs.drop (i + 1) := List.drop_eq_getElem_cons hlt
      rw [hdrop, lcL] at hG
      -- the turn's own run
      have hok : ∃ o ρ', f xs[i] (wipeE ρ2 own) = .ok o ρ' := by
        cases hf : f xs[i] (wipeE ρ2 own) with
        | ok o ρ' => exact ⟨o, ρ', rfl⟩
        | exc x ρ' => rw [hf] at hG; exact hG.elim
        | stuck => rw [hf] at hG; exact hG.elim
      obtain ⟨o, ρ', hf⟩ := hok
      rw [hf] at hG
      have hpin' : PinX (fun j => j ∈ own) (Rw.lock ρ₁ k) ρ' := by
        have h1 := lcT_pin (X := fun j => j ∈ own) (F := F) (t := t) (b := bz) (c := c) (e := e) (x := xs[i]) (ρ := wipeE ρ2 own)
        have h2 : (f xs[i] (wipeE ρ2 own)).pin (fun j => j ∈ own) (wipeE ρ2 own) := h1
        rw [hf] at h2
        exact (hpin.trans (PinX.wipe fun v hv => hv)).trans h2
      obtain ⟨ρ3, b, ρ4, ha, hc, hb⟩ := lcT_ok hf
      -- the item
      have lvs' : RpL K H' (Bs A2 fp2) vs xs [] := lvs.mono (fun a o eo n => t2.k a o eo fun j z => n.elim (fun n => n (subl a (.inr ⟨j, z⟩))) fun z => nomatch z) fun a b => (t2.b a b).imp (subl a) id
      obtain ⟨v, hv, rv⟩ := lvs'.get0 (List.getElem?_eq_getElem hlt)
      rw [hvx] at hv
      cases hv
      refine gT_mono t (gT_only t (gT_ok (Q := fun σ' H3 => H3 = H' ∧ ∃ fp3, TgOk K (plusL A₀ (lockL ρ₁ fp₁ k)) A2 fp2 (L2.wipe σ own) H' (wipeE ρ2 own) [] σ' ρ3 fp3) t S2 rv .nil (fun _ z => nomatch z) (fun _ => rfl) ha fun σ' fp3 T => ⟨rfl, fp3, T⟩)) ?_
      rintro σ3 H3 ⟨⟨rfl, fp3, T⟩, _, hl3, ho3⟩
      have hw3 : L2.wipe σ3 own = L2.wipe σ own := (wipe_eq hl3 fun j hj => ho3 j fun z => hj (ht j z)).trans wipe_wipe
      refine ⟨hw3, ?_⟩
      have eA : (fun a => A2 a ∧ a ∉ ([] : List Addr)) = A2 := by funext a; simp
      have S3 := T.si
      rw [eA] at S3
      have t3 : Tr A2 fp2 H3 A2 fp3 H3 := ⟨fun _ h => h, fun _ _ e _ => e, fun a b => .inl (T.b a (by rw [eA]; exact b))⟩
      -- the turn's end
      have fin : ∀ {H5 : Hp} {A5 : Addr → Prop} {fp5 : Nat → List Addr}, SI K (plusL A₀ (lockL ρ₁ fp₁ k)) A5 σ3 H5 ρ' fp5 → Tr A2 fp2 H3 A5 fp5 H5 → ((pureO c && pureE e) = true → Keep H3 H5) →
          H5 Dr = some (.lst acc) ∧ RpL K H5 (Bs A5 fp5) acc ds q ∧ A5 Dr ∧ ∃ fp6, SI K (plusL A₀ (lockL ρ₁ fp₁ k)) A5 (L2.wipe σ own) H5 (wipeE ρ' own) fp6 ∧ (∀ a, Bs A5 fp6 a → Bs A5 fp5 a) ∧ Tr (plusL A₁ (lockL ρ₁ fp₁ k)) (lockF ρ₁ fp₁ k) H₁ A5 fp6 H5 ∧ ((pureO c && pureE e) = true → Keep H₁ H5) ∧ ∀ a ∈ q, A5 a := by
        intro H5 A5 fp5 S5 t5 kp5
        obtain ⟨fp6, S6, b6⟩ := S5.wipe own
        rw [hw3] at S6
        have tt := t2.trans Sl S2 t5
        exact ⟨t5.k Dr _ hacc fun j z => S2.na j Dr z hDA, l2.mono (fun a o eo n => t5.k a o eo fun j z => n.elim (fun n => n (.inr ⟨j, z⟩)) fun n => S2.na j a z (hq2 a n).1) t5.b, t5.a Dr hDA, fp6, S6, b6,
          ⟨tt.a, tt.k, fun a b => tt.b a (b6 a b)⟩, fun z a o eo => kp5 z a o (kp2 z a o eo), fun a z => t5.a a (hq2 a z).1⟩
      refine rd_cnd S3 hc fun H4 A4 fp4 g4 => ?_
      rcases hb with ⟨rfl, rfl, rfl⟩ | ⟨rfl, u, ρ5, u', hu1, hu2, rfl⟩
      · rw [if_neg Bool.false_ne_true]
        obtain ⟨f1, f2, f3, fp6, S6, b6, t6, kp6, fq⟩ := fin g4.si (t3.trans S2 S3 g4.tr) fun z a o eo => g4.kp (by rw [Bool.and_eq_true] at z; exact z.1) a o eo
        exact ⟨acc, ds, q, A4, ρ', fp6, f1, f3, S6, t6, kp6, f2.mono (fun _ _ e _ => e) (fun a b => .inl (b6 a b)), nd2, (fun a z => ⟨fq a z, (hq2 a z).2⟩), hlen, hpin', hG⟩
      · rw [if_pos rfl]
        refine ⟨_, A4, ρ4, fp4, g4.si, ?_⟩
        have hu1 : evE F e ρ4 = .ok u ρ5 := hu1
        rw [hu1]
        intro v' H5 A5 fp5 g5 ok5
        obtain ⟨qv, ro, ndv, hqv⟩ := ok5
        obtain ⟨fp5', S5, s5, r5, n5⟩ := alias_ok g5.si ro hu2
        have t5 : Tr A2 fp2 H3 A5 fp5' H5 := by
          have := (t3.trans S2 S3 g4.tr).trans S2 g4.si g5.tr
          exact ⟨this.a, this.k, fun a b => this.b a (s5 a b)⟩
        obtain ⟨f1, f2, f3, fp6, S6, b6, t6, kp6, fq⟩ := fin S5 t5 fun z a o eo => by
          rw [Bool.and_eq_true] at z
          exact g5.kp z.2 a o (g4.kp z.1 a o eo)
        have hG : G (if ds.length < line then lcL f own (xs.drop (i + 1)) (ds ++ [u'.val]) ρ' else .stuck) := hG
        have hlt2 : ds.length < line := by
          by_cases z : ds.length < line
          · exact z
          · rw [if_neg z] at hG; exact hG.elim
        rw [if_pos hlt2] at hG
        refine ⟨acc, f1, by rw [l2.len, ← line_eq]; exact hlt2, ?_⟩
        have rv5 : Rp K H5 (Bs A5 fp5') v' u'.val qv := by
          cases u' with
          | fz d => obtain ⟨e0, r0⟩ := r5; rw [e0]; exact r0
          | ow d => exact r5
          | pt i0 p0 => exact (n5 i0 p0 rfl).elim
        have qA4 : ∀ a ∈ qv, ¬ A2 a := fun a z hA => (hqv a z).2 (g4.tr.a a hA)
        have upk : ∀ a o, H5 a = some o → a ≠ Dr → upd H5 Dr (.lst (acc ++ [v'])) a = some o := fun a o eo ne => by
          unfold upd; rw [if_neg ne]; exact eo
        have nDr : Dr ∉ q := (List.nodup_cons.mp nd2).1
        refine ⟨acc ++ [v'], ds ++ [u'.val], q ++ qv, A5, ρ', fp6, upd_same, f3, ?_, ⟨t6.a, fun a o eo n => upk a o (t6.k a o eo n) fun z => absurd (hD.symm.trans (z ▸ eo)) (fun y => by cases y), t6.b⟩, (fun z a o eo => upk a o (kp6 z a o eo) fun y => absurd (hD.symm.trans (y ▸ eo)) (fun y => by cases y)), ?_, ?_, ?_, ?_, hpin', hG⟩
        · refine S6.held (fun a o eo n => upk a o eo fun y => ?_) fun a h => ?_
          · rw [y] at n
            rcases n with n | n
            · exact n f3
            · rcases n with n | n
              · obtain ⟨o, eo⟩ := Sl.tr Dr (.inl (g₁.si.sub Dr n))
                rw [hD] at eo; cases eo
              · obtain ⟨o, eo⟩ := Sl.tr Dr (.inr n)
                rw [hD] at eo; cases eo
          · by_cases y : a = Dr
            · exact ⟨.lst (acc ++ [v']), by rw [y]; exact upd_same⟩
            · obtain ⟨o, eo⟩ := S6.tr a h
              exact ⟨o, upk a o eo y⟩
        · refine RpL.app (f2.mono (fun a o eo n => upk a o eo fun y => ?_) fun a b => .inl (b6 a b)) (RpL.one (rv5.mono (fun a o eo n => upk a o eo fun y => ?_) fun a b => .inl (b6 a b)))
          · rw [y] at n
            exact n.elim (fun n => n (.inl f3)) nDr
          · rw [y] at n
            exact n.elim (fun n => n (.inl f3)) fun z => qA4 Dr z hDA
        · rw [← List.cons_append, List.nodup_append]
          refine ⟨nd2, ndv, fun a h1 b h2 e0 => ?_⟩
          rw [← e0] at h2
          rcases List.mem_cons.mp h1 with z | z
          · rw [z] at h2; exact qA4 Dr h2 hDA
          · exact qA4 a h2 (hq2 a z).1
        · intro a z
          rcases List.mem_append.mp z with z | z
          · exact ⟨fq a z, (hq2 a z).2⟩
          · exact ⟨(hqv a z).1, fun h => qA4 a z (t2.a a h)⟩
        · rw [List.length_append, List.length_singleton]; exact hlt2
end
end Rw

set_option Elab.async false
set_option linter.all false
set_option maxRecDepth 100000
/-! RwM: statements. -/
namespace Rw
open PySem PySem.Spec PyProof.Rows L2
theorem PinX.none {ρ ρ' : Env} (h : PinX (fun _ => False) ρ ρ') : Pin ρ ρ' := ⟨h.1, fun j => h.2 j id⟩
theorem Pin.keep {ρ ρ' : Env} (h : Pin ρ ρ') {j : Nat} (hj : (slot ρ j).pin = true) : (slot ρ' j).pin = true := by
  cases e : slot ρ j with
  | bw d => rw [((h.2 j).1 d).mp e] <;> rfl
  | mw d => obtain ⟨d', e'⟩ := (h.2 j).2 d e; rw [e'] <;> rfl
  | un => rw [e] at hj; cases hj
  | fz d => rw [e] at hj; cases hj
  | ow d => rw [e] at hj; cases hj
section
variable {K : PySem.W.Frag} {mg : Str → Option Value} {A₀ A A' A₁ : Addr → Prop} {σ σ' σ₁ : L2.St} {H H' H₁ : Hp} {ρ ρ' ρ₁ : Env} {fp fp' fp₁ : Nat → List Addr} {W : WX} {F : Fn} {e : Ex} {p : Bool} {sub : Str → Str → Option Bool} {N : Nat}
/-- how a statement may leave the state -/
structure SOk (K : PySem.W.Frag) (A₀ A : Addr → Prop) (fp : Nat → List Addr) (σ : L2.St) (H : Hp) (ρ ρ' : Env) (σ' : L2.St) (H' : Hp) (A' : Addr → Prop) (fp' : Nat → List Addr) : Prop where
  si : SI K A₀ A' σ' H' ρ' fp'
  tr : Tr A fp H A' fp' H'
  look : ∀ j, (slot ρ j).pin = true → look σ' j = look σ j
  pin : Pin ρ ρ'
theorem SOk.refl (S : SI K A₀ A σ H ρ fp) : SOk K A₀ A fp σ H ρ ρ σ H A fp := ⟨S, .refl, fun _ _ => rfl, .refl⟩
theorem SOk.trans (S : SI K A₀ A σ H ρ fp) (h : SOk K A₀ A fp σ H ρ ρ₁ σ₁ H₁ A₁ fp₁) (g : SOk K A₀ A₁ fp₁ σ₁ H₁ ρ₁ ρ' σ' H' A' fp') : SOk K A₀ A fp σ H ρ ρ' σ' H' A' fp' :=
  ⟨g.si, h.tr.trans S h.si g.tr, fun j hj => (g.look j (h.pin.keep hj)).trans (h.look j hj), h.pin.trans g.pin⟩
theorem SOk.ofE (S : SI K A₀ A σ H ρ fp) (g : EOk K A₀ A fp σ H p ρ' H' A' fp') (hp : Pin ρ ρ') : SOk K A₀ A fp σ H ρ ρ' σ H' A' fp' := ⟨g.si, g.tr, fun _ _ => rfl, hp⟩
theorem SOk.drop (S : SI K A₀ A σ H ρ fp) (g : SOk K A₀ A fp σ H ρ ρ' σ' H' A' fp') : SOk K A₀ A fp σ H ρ ρ' σ' H' A fp' := ⟨g.si.drop S.sub g.tr.a, g.tr.dropA g.tr.a, g.look, g.pin⟩
/-- what a statement's outcome is to give -/
def oAll (K : PySem.W.Frag) (mg : Str → Option Value) (A₀ A : Addr → Prop) (fp : Nat → List Addr) (σ : L2.St) (H : Hp) (ρ : Env) (W : WX) (D : Ends) : Out → Prop
  | .nx ρ' => ∀ σ' H' fp', SOk K A₀ A fp σ H ρ ρ' σ' H' A fp' → D.nx σ' H'
  | .bk ρ' => ∀ σ' H' fp', SOk K A₀ A fp σ H ρ ρ' σ' H' A fp' → D.bk σ' H'
  | .ct ρ' => ∀ σ' H' fp', SOk K A₀ A fp σ H ρ ρ' σ' H' A fp' → D.ct σ' H'
  | .rt d ρ' => ∀ v σ' H' A' fp', SOk K A₀ A fp σ H ρ ρ' σ' H' A' fp' → OpdOk K H' A A' (Bs A' fp') σ' v (opd d) → D.rt v H'
  | .exc x ρ' => ∀ cls d σ' H' fp', SOk K A₀ A fp σ H ρ ρ' σ' H' A fp' → XAt mg x cls d H' → W cls d σ' H'
  | .stuck => False
/-- seen from a later state -/
theorem oAll.later {D : Ends} {o : Out} (S : SI K A₀ A σ H ρ fp) (h : oAll K mg A₀ A fp σ H ρ W D o) (g : SOk K A₀ A fp σ H ρ ρ₁ σ₁ H₁ A fp₁) : oAll K mg A₀ A fp₁ σ₁ H₁ ρ₁ W D o := by
  cases o with
  | nx ρ' => exact fun σ' H' fp' k => h σ' H' fp' (g.trans S k)
  | bk ρ' => exact fun σ' H' fp' k => h σ' H' fp' (g.trans S k)
  | ct ρ' => exact fun σ' H' fp' k => h σ' H' fp' (g.trans S k)
  | rt d ρ' => exact fun v σ' H' A' fp' k ok => h v σ' H' A' fp' (g.trans S k) ok
  | exc x ρ' => exact fun cls d σ' H' fp' k xa => h cls d σ' H' fp' (g.trans S k) xa
  | stuck => exact h
def tS (K : PySem.W.Frag) (mg : Str → Option Value) (W : WX) (F : Fn) (sub : Str → Str → Option Bool) (N : Nat) (s : Rw.St) : TS := fun D σ H => ∃ A₀ A ρ fp, SI K A₀ A σ H ρ fp ∧ oAll K mg A₀ A fp σ H ρ W D (evS F sub N s ρ)
def tSs (K : PySem.W.Frag) (mg : Str → Option Value) (W : WX) (F : Fn) (sub : Str → Str → Option Bool) (N : Nat) (ss : List Rw.St) : TS := fun D σ H => ∃ A₀ A ρ fp, SI K A₀ A σ H ρ fp ∧ oAll K mg A₀ A fp σ H ρ W D (evSs F sub N ss ρ)
theorem out_all {α : Type} {r : Rr α} {f : α → Env → Out} {D : Ends} (hp : r.pin (fun _ => False) ρ) (h : oAll K mg A₀ A fp σ H ρ W D (r.out f)) : r.all (fun a ρ1 => Pin ρ ρ1 ∧ oAll K mg A₀ A fp σ H ρ W D (f a ρ1)) (XPost K mg A₀ A fp σ H W) := by
  cases r with
  | ok a ρ1 => exact ⟨hp.none, h⟩
  | exc x ρ1 => exact fun cls d H' fp' S' t' xa => h cls d σ H' fp' ⟨S', t', fun _ _ => rfl, hp.none⟩ xa
  | stuck => exact h
theorem rs_nil : ∀ D σ H, tSs K mg W F sub N [] D σ H → tNext D σ H := fun D σ H ⟨A₀, A, ρ, fp, S, h⟩ => by
  rw [evSs] at h
  exact h σ H fp (.refl S)
theorem rs_cons {s : Rw.St} {ss : List Rw.St} : ∀ D σ H, tSs K mg W F sub N (s :: ss) D σ H → tSeq (tS K mg W F sub N s) (tSs K mg W F sub N ss) D σ H := fun D σ H ⟨A₀, A, ρ, fp, S, h⟩ => by
  rw [evSs] at h
  refine ⟨A₀, A, ρ, fp, S, ?_⟩
  cases hs : evS F sub N s ρ with
  | nx ρ1 =>
    rw [hs] at h
    exact fun σ1 H1 fp1 g => ⟨A₀, A, ρ1, fp1, g.si, oAll.later S h g⟩
  | bk ρ1 => rw [hs] at h; exact h
  | ct ρ1 => rw [hs] at h; exact h
  | rt d ρ1 => rw [hs] at h; exact h
  | exc x ρ1 => rw [hs] at h; exact h
  | stuck => rw [hs] at h; exact h
theorem rs_pass : ∀ D σ H, tS K mg W F sub N .pass D σ H → tNext D σ H := fun D σ H ⟨A₀, A, ρ, fp, S, h⟩ => by
  rw [evS] at h
  exact h σ H fp (.refl S)
theorem rs_brk : ∀ D σ H, tS K mg W F sub N .brk D σ H → tBreak D σ H := fun D σ H ⟨A₀, A, ρ, fp, S, h⟩ => by
  rw [evS] at h
  exact h σ H fp (.refl S)
theorem rs_cont : ∀ D σ H, tS K mg W F sub N .cont D σ H → tCont D σ H := fun D σ H ⟨A₀, A, ρ, fp, S, h⟩ => by
  rw [evS] at h
  exact h σ H fp (.refl S)
theorem rs_retN : ∀ D σ H, tS K mg W F sub N .retN D σ H → tRetN D σ H := fun D σ H ⟨A₀, A, ρ, fp, S, h⟩ => by
  rw [evS] at h
  exact h .non σ H A fp (.refl S) (.fz .non)
theorem rs_ex {e : Ex} : ∀ D σ H, tS K mg W F sub N (.ex e) D σ H → tDrop (tE K mg W F e) D σ H := fun D σ H ⟨A₀, A, ρ, fp, S, h⟩ => by
  rw [evS] at h
  exact ⟨A₀, A, ρ, fp, S, (out_all (evE_pin F e ρ) h).imp (fun o ρ1 _ ⟨hp, h⟩ v H' A' fp' g ok => h σ H' fp' ((SOk.ofE S g hp).drop S)) fun _ _ h => h⟩
theorem rs_rse {c : Str} {cls : Value} (hc : mg c = some cls) : ∀ D σ H, tS K mg W F sub N (.rse c) D σ H → W cls none σ H := fun D σ H ⟨A₀, A, ρ, fp, S, h⟩ => by
  rw [evS] at h
  exact h cls none σ H fp (.refl S) ⟨rfl, hc⟩
/-- an operand's value, handed on for good -/
theorem alV (S : SI K A₀ A₁ σ H ρ₁ fp₁) {v : V} {o o' : Opd} (ok : OpdOk K H A A₁ (Bs A₁ fp₁) σ v o) (h : alias_ ρ₁ o = some (o', ρ')) :
    ∃ fp' q, SI K A₀ A₁ σ H ρ' fp' ∧ (∀ a, Bs A₁ fp' a → Bs A₁ fp₁ a) ∧ Rp K H (Bs A₁ fp') v o'.val q ∧ q.Nodup ∧ (∀ a ∈ q, A₁ a ∧ ¬ A a) ∧ (o'.isFz = true → q = []) := by
  obtain ⟨q, ro, nd, hq⟩ := ok
  obtain ⟨fp', S', s', r', n'⟩ := alias_ok S ro h
  refine ⟨fp', q, S', s', ?_, nd, hq, ?_⟩
  · cases o' with
    | fz d => obtain ⟨e0, r0⟩ := r'; rw [e0]; exact r0
    | ow d => exact r'
    | pt i p => exact (n' i p rfl).elim
  · cases o' with
    | fz d => exact fun _ => r'.1
    | ow d => exact fun z => by cases z
    | pt i p => exact (n' i p rfl).elim
theorem opdOk_of {d : D} {v : V} {q : List Addr} {B : Addr → Prop} (r : Rp K H B v d q) (nd : q.Nodup) (hq : ∀ a ∈ q, A' a ∧ ¬ A a) : OpdOk K H A A' B σ v (opd d) := by
  unfold opd
  split
  · rename_i hf
    have := r.fr hf
    subst this
    exact .fz r
  · exact ⟨q, r, nd, hq⟩
theorem rs_ret {e : Ex} : ∀ D σ H, tS K mg W F sub N (.ret e) D σ H → tRet (tE K mg W F e) D σ H := fun D σ H ⟨A₀, A, ρ, fp, S, h⟩ => by
  rw [evS] at h
  refine ⟨A₀, A, ρ, fp, S, (out_all (evE_pin F e ρ) h).imp (fun o ρ1 _ ⟨hp, h⟩ v H' A' fp' g ok => ?_) fun _ _ h => h⟩
  split at h
  · rename_i o' ρ2 ha
    obtain ⟨fp2, q, S2, s2, r2, nd, hq, _⟩ := alV g.si ok ha
    exact h v σ H' A' fp2 ⟨S2, ⟨g.tr.a, g.tr.k, fun a b => g.tr.b a (s2 a b)⟩, fun _ _ => rfl, hp.trans (.alias ha)⟩ (opdOk_of r2 nd hq)
  · exact h.elim
theorem rs_asg {t : Tg} {e : Ex} : ∀ D σ H, tS K mg W F sub N (.asg t e) D σ H → tAsg (tE K mg W F e) (gT K t) D σ H := fun D σ H ⟨A₀, A, ρ, fp, S, h⟩ => by
  rw [evS] at h
  refine ⟨A₀, A, ρ, fp, S, (out_all (evE_pin F e ρ) h).imp (fun o ρ1 _ ⟨hp, h⟩ v H' A' fp' g ok => ?_) fun _ _ h => h⟩
  split at h
  · rename_i o' ρ2 ha
    obtain ⟨fp2, q, S2, s2, r2, nd, hq, hz⟩ := alV g.si ok ha
    split at h
    · rename_i ρ3 hg
      have pn : Pin ρ ρ2 := hp.trans (.alias ha)
      refine gT_ok t S2 r2 nd (fun a z => ⟨(hq a z).1, fun y => (hq a z).2 (S.sub a y)⟩) hz hg fun σ' fp3 T => h σ' H' fp3 ⟨?_, ⟨fun _ h => h, g.tr.k, fun a b => g.tr.b a (s2 a (T.b a ?_))⟩, fun j hj => T.pin j (pn.keep hj), pn.trans (asgT_pin t hg)⟩
      · exact T.si.drop S.sub fun a hA => ⟨g.tr.a a hA, fun z => (hq a z).2 hA⟩
      · exact b.imp (fun hA => ⟨g.tr.a a hA, fun z => (hq a z).2 hA⟩) id
    · exact h.elim
  · exact h.elim
theorem rs_ifs {c : Ex} {a b : List Rw.St} : ∀ D σ H, tS K mg W F sub N (.ifs c a b) D σ H → tIfS (tT K mg W F c) (tSs K mg W F sub N a) (tSs K mg W F sub N b) D σ H := fun D σ H ⟨A₀, A, ρ, fp, S, h⟩ => by
  rw [evS] at h
  refine ⟨A₀, A, ρ, fp, S, (out_all (tst_pin (evE_pin F c ρ)) h).imp (fun t ρ1 _ ⟨hp, h⟩ H' A' fp' g => ?_) fun _ _ h => h⟩
  have g' := (SOk.ofE S g hp).drop S
  cases t with
  | true => exact ⟨A₀, A, ρ1, fp', g'.si, oAll.later S h g'⟩
  | false => exact ⟨A₀, A, ρ1, fp', g'.si, oAll.later S h g'⟩
/-! ### names let go of -/
theorem slot_kill : ∀ {ks : List Bool} {ρ : Env} {j : Nat}, slot (killE ks ρ) j = if ks[j]? = some true then (slot ρ j).kl else slot ρ j
  | [], ρ, j => by cases ρ <;> simp [killE]
  | b :: ks, [], j => by
    have e : slot ([] : Env) j = .un := slot_out (by simp)
    have e2 : killE (b :: ks) [] = [] := rfl
    rw [e2, e]
    split <;> rfl
  | b :: ks, s :: ρ, 0 => by cases b <;> simp [killE, slot]
  | b :: ks, s :: ρ, j + 1 => by
    have := slot_kill (ks := ks) (ρ := ρ) (j := j)
    simpa [killE, slot] using this
theorem kill_len : ∀ {ks : List Bool} {ρ : Env}, (killE ks ρ).length = ρ.length
  | [], ρ => by cases ρ <;> rfl
  | b :: ks, [] => rfl
  | b :: ks, s :: ρ => by simp [killE, kill_len]
theorem Pin.kill {ks : List Bool} : Pin ρ (killE ks ρ) := ⟨kill_len, fun j => by
  rw [slot_kill]
  split
  · cases slot ρ j <;> simp [Slot.kl]
  · exact ⟨fun d => .rfl, fun d h => ⟨d, h⟩⟩⟩
def fpK (ks : List Bool) (ρ : Env) (fp : Nat → List Addr) (j : Nat) : List Addr := if ks[j]? = some true ∧ (slot ρ j).pin = false then [] else fp j
theorem SOk.kill (S : SI K A₀ A σ H ρ fp) (ks : List Bool) : SOk K A₀ A fp σ H ρ (killE ks ρ) σ H A (fpK ks ρ fp) := by
  have le : ∀ j a, a ∈ fpK ks ρ fp j → a ∈ fp j := fun j a h => by
    unfold fpK at h
    split at h
    · cases h
    · exact h
  have sub : ∀ a, Bs A (fpK ks ρ fp) a → Bs A fp a := fun a b => b.imp id fun ⟨j, h⟩ => ⟨j, le j a h⟩
  refine ⟨⟨by rw [kill_len]; exact S.len, S.sub, fun j => ?_, fun i j a h1 h2 => S.dj i j a (le i a h1) (le j a h2), fun i a h => S.na i a (le i a h), S.tr, fun j => ?_⟩, ⟨fun _ h => h, fun _ _ e _ => e, fun a b => .inl (sub a b)⟩, fun _ _ => rfl, .kill⟩
  · unfold fpK; split
    · exact .nil
    · exact S.nd j
  · have so := S.sl j
    rw [slot_kill]
    unfold fpK
    by_cases h1 : ks[j]? = some true
    · rw [if_pos h1]
      cases es : slot ρ j with
      | un => rw [if_pos ⟨h1, rfl⟩]; exact rfl
      | fz d => rw [if_pos ⟨h1, rfl⟩]; exact rfl
      | ow d => rw [if_pos ⟨h1, rfl⟩]; exact rfl
      | bw d => rw [if_neg (fun z => by cases z.2)]; rw [es] at so; exact so.mono (fun _ _ e _ => e) fun a b => .inl (sub a b)
      | mw d => rw [if_neg (fun z => by cases z.2)]; rw [es] at so; exact so.mono (fun _ _ e _ => e) fun a b => .inl (sub a b)
    · rw [if_neg h1, if_neg (fun z => h1 z.1)]
      exact so.mono (fun _ _ e _ => e) fun a b => .inl (sub a b)
theorem mp_all {D : Ends} {o : Out} {ks : List Bool} (S : SI K A₀ A σ H ρ fp) (h : oAll K mg A₀ A fp σ H ρ W D (o.mp ks)) : oAll K mg A₀ A fp σ H ρ W D o := by
  cases o with
  | nx ρ' => exact fun σ' H' fp' g => h σ' H' _ (g.trans S (SOk.kill g.si ks))
  | bk ρ' => exact fun σ' H' fp' g => h σ' H' _ (g.trans S (SOk.kill g.si ks))
  | ct ρ' => exact fun σ' H' fp' g => h σ' H' _ (g.trans S (SOk.kill g.si ks))
  | rt d ρ' => exact h
  | exc x ρ' => exact h
  | stuck => exact h
/-- a turn's outcome, within the loop -/
theorem turn_all {D : Ends} {o : Out} {ks : List Bool} {k : Env → Out} (S : SI K A₀ A σ H ρ fp) (h : oAll K mg A₀ A fp σ H ρ W D (match o.mp ks with
      | .nx ρ' => k ρ'
      | .ct ρ' => k ρ'
      | .bk ρ' => .nx ρ'
      | o => o)) : oAll K mg A₀ A fp σ H ρ W { D with nx := fun σ' H' => ∃ ρ' fp', SI K A₀ A σ' H' ρ' fp' ∧ oAll K mg A₀ A fp' σ' H' ρ' W D (k ρ'), ct := fun σ' H' => ∃ ρ' fp', SI K A₀ A σ' H' ρ' fp' ∧ oAll K mg A₀ A fp' σ' H' ρ' W D (k ρ'), bk := D.nx } o := by
  cases o with
  | nx ρ1 => exact fun σ' H' fp' g => (fun g => ⟨killE ks ρ1, _, g.si, oAll.later S h g⟩) (g.trans S (SOk.kill g.si ks))
  | ct ρ1 => exact fun σ' H' fp' g => (fun g => ⟨killE ks ρ1, _, g.si, oAll.later S h g⟩) (g.trans S (SOk.kill g.si ks))
  | bk ρ1 => exact fun σ' H' fp' g => h σ' H' _ (g.trans S (SOk.kill g.si ks))
  | rt d ρ1 => exact h
  | exc x ρ1 => exact h
  | stuck => exact h
/-- a while's turns -/
theorem rs_whl {ks : List Bool} {c : Ex} {b : List Rw.St} : ∀ D σ H, tS K mg W F sub N (.whl ks c b) D σ H → tWhile (tT K mg W F c) (tSs K mg W F sub N b) D σ H := fun D σ H ⟨A₀, A, ρ, fp, S, h⟩ => by
  rw [evS] at h
  refine ⟨fun m σ1 H1 => ∃ ρ1 fp1, SI K A₀ A σ1 H1 ρ1 fp1 ∧ oAll K mg A₀ A fp1 σ1 H1 ρ1 W D (whlL (fun ρ => tst (evE F c ρ)) (fun ρ => (evSs F sub N b ρ).mp ks) m ρ1), ⟨N, killE ks ρ, _, (SOk.kill S ks).si, oAll.later S h (SOk.kill S ks)⟩, ?_⟩
  rintro m σ1 H1 ⟨ρ1, fp1, S1, h⟩
  cases m with
  | zero => exact h.elim
  | succ m =>
    rw [whlL] at h
    refine ⟨A₀, A, ρ1, fp1, S1, (out_all (tst_pin (evE_pin F c ρ1)) h).imp (fun t ρ2 _ ⟨hp, h⟩ H' A' fp' g => ?_) fun _ _ h => h⟩
    have g2 := (SOk.ofE S1 g hp).drop S1
    have h2 := oAll.later S1 h g2
    cases t with
    | false => exact h σ1 H' fp' g2
    | true => exact ⟨_, fun σ' H' z => ⟨m, Nat.lt_succ_self m, z⟩, A₀, A, ρ2, fp', g2.si, turn_all g2.si h2⟩
/-- behind a walk: the thing is its name's again -/
theorem unlock_ok (S : SI K A₀ A σ H ρ fp) {k : Option Nat} {ρ₂ ρ₃ : Env} {A'' : Addr → Prop} (g1 : SOk K A₀ A fp σ H ρ ρ₁ σ H₁ A₁ fp₁) (hin : SOk K (plusL A₀ (lockL ρ₁ fp₁ k)) (plusL A₁ (lockL ρ₁ fp₁ k)) (lockF ρ₁ fp₁ k) σ H₁ (Rw.lock ρ₁ k) ρ₂ σ' H' A'' fp')
    (hu : Rw.unlock ρ₁ k ρ₂ = some ρ₃) : ∃ fp₃, SOk K A₀ A fp σ H ρ ρ₃ σ' H' (fun a => A'' a ∧ a ∉ lockL ρ₁ fp₁ k) fp₃ ∧ ∀ a, Bs (fun a => A'' a ∧ a ∉ lockL ρ₁ fp₁ k) fp₃ a → Bs A'' fp' a := by
  have eA : plusL (fun a => A'' a ∧ a ∉ lockL ρ₁ fp₁ k) (lockL ρ₁ fp₁ k) = A'' := by
    funext a
    apply propext
    unfold plusL
    constructor
    · rintro (z | z)
      · exact z.1
      · exact hin.tr.a a (.inr z)
    · intro z
      by_cases hL : a ∈ lockL ρ₁ fp₁ k
      · exact .inr hL
      · exact .inl ⟨z, hL⟩
  have S3 := hin.si
  have t3 := hin.tr
  rw [← eA] at S3 t3
  have Ldj : ∀ a, A₁ a → a ∉ lockL ρ₁ fp₁ k := fun a y z => by
    unfold lockL at z
    split at z
    · split at z
      · exact g1.si.na _ a z y
      · exact g1.si.na _ a z y
      · cases z
    · cases z
  obtain ⟨fp4, S4, t4, b4⟩ := g1.si.unlock S3 t3 (fun a h => ⟨hin.tr.a a (.inl h), Ldj a h⟩) (fun a z y => y.2 z) hin.look (fun j d => (hin.pin.2 j).1 d) hu
  refine ⟨fp4, g1.trans S ⟨S4, t4, fun j hj => ?_, ?_⟩, fun a b => by have := b4 a b; rw [eA] at this; exact this⟩
  · refine hin.look j ?_
    have pl : PinX (fun j => k = some j ∧ ((∃ d, slot ρ₁ j = .ow d) ∨ ∃ d, slot ρ₁ j = .mw d)) ρ₁ (Rw.lock ρ₁ k) := PinX.lock fun i h1 h2 => ⟨h1, h2⟩
    by_cases hx : k = some j ∧ ((∃ d, slot ρ₁ j = .ow d) ∨ ∃ d, slot ρ₁ j = .mw d)
    · obtain ⟨rfl, hx⟩ := hx
      rcases hx with ⟨d, hx⟩ | ⟨d, hx⟩
      · rw [hx] at hj; cases hj
      · have e := get_slot (ρ := ρ₁) (i := j) (by rw [hx]; intro z; cases z)
        rw [hx] at e
        have : Rw.lock ρ₁ (some j) = ρ₁.set j (.bw d) := by unfold Rw.lock; simp only [e]
        rw [this, slot_set_same (lt_of_get e)]
        rfl
    · have pj := pl.2 j hx
      cases es : slot ρ₁ j with
      | bw d => rw [(pj.1 d).mp es] <;> rfl
      | mw d => obtain ⟨d', e'⟩ := pj.2 d es; rw [e'] <;> rfl
      | un => rw [es] at hj; cases hj
      | fz d => rw [es] at hj; cases hj
      | ow d => rw [es] at hj; cases hj
  · exact back_pin (own := []) (k := k) (ρ₂ := ρ₂) (PinX.trans (PinX.lock fun i h1 h2 => .inr ⟨h1, h2⟩) hin.pin.x) hu
theorem unlock_all {D : Ends} {o : Out} {k : Option Nat} (S : SI K A₀ A σ H ρ fp) (g1 : SOk K A₀ A fp σ H ρ ρ₁ σ H₁ A₁ fp₁) (h : oAll K mg A₀ A fp σ H ρ W D (unlockO ρ₁ k o)) :
    oAll K mg (plusL A₀ (lockL ρ₁ fp₁ k)) (plusL A₁ (lockL ρ₁ fp₁ k)) (lockF ρ₁ fp₁ k) σ H₁ (Rw.lock ρ₁ k) W D o := by
  cases o with
  | nx ρ2 =>
    intro σ' H' fp' g
    unfold unlockO at h
    dsimp only at h
    split at h
    · rename_i ρ3 hu
      obtain ⟨fp3, g3, _⟩ := unlock_ok S g1 g hu
      exact h σ' H' fp3 (g3.drop S)
    · exact h.elim
  | bk ρ2 =>
    intro σ' H' fp' g
    unfold unlockO at h
    dsimp only at h
    split at h
    · rename_i ρ3 hu
      obtain ⟨fp3, g3, _⟩ := unlock_ok S g1 g hu
      exact h σ' H' fp3 (g3.drop S)
    · exact h.elim
  | ct ρ2 =>
    intro σ' H' fp' g
    unfold unlockO at h
    dsimp only at h
    split at h
    · rename_i ρ3 hu
      obtain ⟨fp3, g3, _⟩ := unlock_ok S g1 g hu
      exact h σ' H' fp3 (g3.drop S)
    · exact h.elim
  | exc x ρ2 =>
    intro cls d σ' H' fp' g xa
    unfold unlockO at h
    dsimp only at h
    split at h
    · rename_i ρ3 hu
      obtain ⟨fp3, g3, _⟩ := unlock_ok S g1 g hu
      exact h cls d σ' H' fp3 (g3.drop S) xa
    · exact h.elim
  | rt d ρ2 =>
    intro v σ' H' A'' fp' g ok
    unfold unlockO at h
    dsimp only at h
    split at h
    · rename_i ρ3 hu
      obtain ⟨fp3, g3, b3⟩ := unlock_ok S g1 g hu
      refine h v σ' H' _ fp3 g3 ?_
      obtain ⟨q, r, nd, hq⟩ := ok
      refine ⟨q, ?_, nd, fun a z => ⟨⟨(hq a z).1, fun y => (hq a z).2 (.inr y)⟩, fun y => (hq a z).2 (.inl (g1.tr.a a y))⟩⟩
      unfold opd at r ⊢
      split
      · rename_i hf
        rw [if_pos hf] at r
        exact ⟨r.1, r.2.mono (fun _ _ e _ => e) fun a b => .inl (b3 a b)⟩
      · rename_i hf
        rw [if_neg hf] at r
        exact Rp.mono (fun _ _ e _ => e) (fun a b => .inl (b3 a b)) r
    · exact h.elim
  | stuck => exact h
/-- what is walked stays, as long as its list is locked -/
theorem prot_lock {k : Option Nat} (S₁ : SI K A₀ A₁ σ H₁ ρ₁ fp₁) (t : Tr (plusL A₁ (lockL ρ₁ fp₁ k)) (lockF ρ₁ fp₁ k) H₁ A' fp' H') : ∀ a o, H₁ a = some o → Prot fp₁ k a → H' a = some o := fun a o eo pa => t.k a o eo fun j z => by
  unfold lockF at z
  cases k with
  | none => exact nomatch pa j z
  | some i0 =>
    dsimp only at z
    have key : a ∈ fp₁ j → j = i0 := fun z => (Option.some.inj (pa j z)).symm
    have out : slot ρ₁ i0 = .un ∨ (∃ d, slot ρ₁ i0 = .fz d) ∨ (∃ d, slot ρ₁ i0 = .bw d) → a ∉ fp₁ j := fun hs z => by
      have ej := key z
      rw [ej] at z
      have so := S₁.sl i0
      rcases hs with hs | ⟨d, hs⟩ | ⟨d, hs⟩ <;> rw [hs] at so
      · rw [show fp₁ i0 = [] from so] at z; cases z
      · rw [so.1] at z; cases z
      · rw [so.1] at z; cases z
    have ow : a ∈ fup fp₁ i0 [] j → False := fun z => by
      by_cases ej : j = i0
      · rw [ej, fup_same] at z; cases z
      · rw [fup_ne ej] at z; exact ej (key z)
    cases es : slot ρ₁ i0 with
    | un => rw [es] at z; exact out (.inl es) z
    | fz d => rw [es] at z; exact out (.inr (.inl ⟨d, es⟩)) z
    | bw d => rw [es] at z; exact out (.inr (.inr ⟨d, es⟩)) z
    | ow d => rw [es] at z; exact ow z
    | mw d => rw [es] at z; exact ow z
theorem turn_all2 {D : Ends} {o : Out} {ks : List Bool} {k : Env → Out} {R : (Nat → List Addr) → Hp → Prop} (S : SI K A₀ A σ H ρ fp) (hR : ∀ σ' H' ρ' fp', SOk K A₀ A fp σ H ρ ρ' σ' H' A fp' → R fp' H') (h : oAll K mg A₀ A fp σ H ρ W D (match o.mp ks with
      | .nx ρ' => k ρ'
      | .ct ρ' => k ρ'
      | .bk ρ' => .nx ρ'
      | o => o)) : oAll K mg A₀ A fp σ H ρ W { D with nx := fun σ' H' => ∃ ρ' fp', SI K A₀ A σ' H' ρ' fp' ∧ R fp' H' ∧ oAll K mg A₀ A fp' σ' H' ρ' W D (k ρ'), ct := fun σ' H' => ∃ ρ' fp', SI K A₀ A σ' H' ρ' fp' ∧ R fp' H' ∧ oAll K mg A₀ A fp' σ' H' ρ' W D (k ρ'), bk := D.nx } o := by
  cases o with
  | nx ρ1 => exact fun σ' H' fp' g => (fun g => ⟨killE ks ρ1, _, g.si, hR _ _ _ _ g, oAll.later S h g⟩) (g.trans S (SOk.kill g.si ks))
  | ct ρ1 => exact fun σ' H' fp' g => (fun g => ⟨killE ks ρ1, _, g.si, hR _ _ _ _ g, oAll.later S h g⟩) (g.trans S (SOk.kill g.si ks))
  | bk ρ1 => exact fun σ' H' fp' g => h σ' H' _ (g.trans S (SOk.kill g.si ks))
  | rt d ρ1 => exact h
  | exc x ρ1 => exact h
  | stuck => exact h
/-- a for's turns -/
theorem rs_fr {ks : List Bool} {t : Tg} {it : Rw.It} {b : List Rw.St} : ∀ D σ H, tS K mg W F sub N (.fr ks t it b) D σ H → tFor (tI K mg W F it) (gT K t) (tSs K mg W F sub N b) D σ H := fun D σ H ⟨A₀, A, ρ, fp, S, h⟩ => by
  rw [evS] at h
  refine ⟨A₀, A, ρ, fp, S, (out_all (evI_pin F it ρ) h).imp (fun x ρ₁ _ ⟨hp, h⟩ J H₁ A₁ fp₁ g iok => ?_) fun _ _ h => h⟩
  obtain ⟨xs, bz, k⟩ := x
  dsimp only at h iok
  obtain ⟨vs, lvs, iok⟩ := iok
  have g1 := SOk.ofE S g hp
  obtain ⟨Sl, subl⟩ := g.si.lock k
  have h := unlock_all S g1 h
  generalize hA₀' : plusL A₀ (lockL ρ₁ fp₁ k) = A₀' at h Sl
  generalize hA₁' : plusL A₁ (lockL ρ₁ fp₁ k) = A₁' at h Sl subl
  refine ⟨fun i m σ1 H1 => i ≤ xs.length ∧ m = xs.length - i ∧ ∃ ρ1 fp1, SI K A₀' A₁' σ1 H1 ρ1 fp1 ∧ Tr A₁' (lockF ρ₁ fp₁ k) H₁ A₁' fp1 H1 ∧ oAll K mg A₀' A₁' fp1 σ1 H1 ρ1 W D (forL (fun x ρ => match asgT t bz x ρ with
      | some ρ' => (evSs F sub N b ρ').mp ks
      | none => .stuck) (xs.drop i) ρ1), ⟨xs.length, Nat.zero_le _, rfl, killE ks (Rw.lock ρ₁ k), _, (SOk.kill Sl ks).si, (SOk.kill Sl ks).tr, oAll.later Sl h (SOk.kill Sl ks)⟩, ?_⟩
  rintro i m σ1 H1 ⟨hi, hm, ρ1, fp1, S1, t1, h⟩
  obtain ⟨k1, k2, k3⟩ := iok H1 (prot_lock g.si (by rw [hA₁']; exact t1))
  by_cases hie : i = xs.length
  · refine .inl ⟨by rw [hie]; exact k2, ?_⟩
    rw [hie, List.drop_length, forL] at h
    exact h σ1 H1 fp1 (.refl S1)
  · have hlt : i < xs.length := by omega
    have hdrop : xs.drop i = xs[i] :: xs.drop (i + 1) := List.drop_eq_getElem_cons hlt
    rw [hdrop, forL] at h
    refine .inr ⟨k1 i hlt, _, fun σ' H' z => ⟨xs.length - (i + 1), by omega, by omega, rfl, z⟩, fun x H' hy => ?_⟩
    obtain ⟨rfl, hvx⟩ := k3 i x H' hlt hy
    have lvs' : RpL K H' (Bs A₁' fp1) vs xs [] := lvs.mono (fun a o eo n => t1.k a o eo fun j z => n.elim (fun n => n (subl a (.inr ⟨j, z⟩))) fun z => nomatch z) fun a b => (t1.b a b).imp (subl a) id
    obtain ⟨v, hv, rv⟩ := lvs'.get0 (List.getElem?_eq_getElem hlt)
    rw [hvx] at hv
    cases hv
    cases ha : asgT t bz xs[i] ρ1 with
    | none => rw [ha] at h; exact h.elim
    | some ρ2 =>
      rw [ha] at h
      refine gT_ok t S1 rv .nil (fun _ z => nomatch z) (fun _ => rfl) ha fun σ2 fp2 T => ?_
      have eA : (fun a => A₁' a ∧ a ∉ ([] : List Addr)) = A₁' := by funext a; simp
      have S2 := T.si
      rw [eA] at S2
      have t2 : Tr A₁' fp1 H' A₁' fp2 H' := ⟨fun _ h => h, fun _ _ e _ => e, fun a b => .inl (T.b a (by rw [eA]; exact b))⟩
      have g2 : SOk K A₀' A₁' fp1 σ1 H' ρ1 ρ2 σ2 H' A₁' fp2 := ⟨S2, t2, T.pin, asgT_pin t ha⟩
      exact ⟨A₀', A₁', ρ2, fp2, S2, turn_all2 (R := fun fp' H'' => Tr A₁' (lockF ρ₁ fp₁ k) H₁ A₁' fp' H'') S2 (fun σ' H'' ρ' fp' g' => (t1.trans Sl S1 t2).trans Sl S2 g'.tr) (oAll.later S1 h g2)⟩
theorem oAll.later2 {D : Ends} {o : Out} (S : SI K A₀ A σ H ρ fp) (h : oAll K mg A₀ A fp σ H ρ W D o) (g : SOk K A₀ A fp σ H ρ ρ₁ σ₁ H₁ A₁ fp₁) : oAll K mg A₀ A₁ fp₁ σ₁ H₁ ρ₁ W D o := by
  cases o with
  | nx ρ' => exact fun σ' H' fp' k => h σ' H' fp' ((g.trans S k).drop S)
  | bk ρ' => exact fun σ' H' fp' k => h σ' H' fp' ((g.trans S k).drop S)
  | ct ρ' => exact fun σ' H' fp' k => h σ' H' fp' ((g.trans S k).drop S)
  | rt d ρ' => exact fun v σ' H' A' fp' k ok => h v σ' H' A' fp' (g.trans S k) (ok.early g.tr.a)
  | exc x ρ' => exact fun cls d σ' H' fp' k xa => h cls d σ' H' fp' ((g.trans S k).drop S) xa
  | stuck => exact h
theorem out_all2 {α : Type} {r : Rr α} {f : α → Env → Out} {D : Ends} (S : SI K A₀ A σ H ρ fp) (g : SOk K A₀ A fp σ H ρ ρ₁ σ₁ H₁ A₁ fp₁) (hp : r.pin (fun _ => False) ρ₁) (h : oAll K mg A₀ A fp σ H ρ W D (r.out f)) : r.all (fun a ρ1 => Pin ρ₁ ρ1 ∧ oAll K mg A₀ A fp σ H ρ W D (f a ρ1)) (XPost K mg A₀ A₁ fp₁ σ₁ H₁ W) := by
  cases r with
  | ok a ρ1 => exact ⟨hp.none, h⟩
  | exc x ρ1 =>
    intro cls d H' fp' S' t' xa
    have k : SOk K A₀ A₁ fp₁ σ₁ H₁ ρ₁ ρ1 σ₁ H' A₁ fp' := ⟨S', t', fun _ _ => rfl, hp.none⟩
    exact h cls d σ₁ H' fp' ((g.trans S k).drop S) xa
  | stuck => exact h
theorem setAt_app {q : List Stp} {w : Rw.D} : ∀ {p : List Stp} {d d0 : Rw.D}, getAt d p = some d0 → setAt d (p ++ q) w = (setAt d0 q w).bind fun e => setAt d p e
  | [], d, d0, h => by
    have e : d = d0 := by simpa [getAt] using h
    subst e
    rw [List.nil_append]
    cases setAt d q w <;> simp [setAt]
  | .ix n :: p, d, d0, h => by
    cases d with
    | lst o xs =>
      cases o with
      | false => simp [getAt] at h
      | true =>
        rw [getAt] at h
        cases hx : xs[n]? with
        | none => rw [hx] at h; cases h
        | some x =>
          rw [hx] at h
          have h : getAt x p = some d0 := h
          have e1 : setAt (.lst true xs) (.ix n :: (p ++ q)) w = (setAt x (p ++ q) w).map fun x' => .lst true (xs.set n x') := by rw [setAt, hx]
          rw [List.cons_append, e1, setAt_app h]
          cases setAt d0 q w with
          | none => rfl
          | some e =>
            show (setAt x p e).map _ = setAt (.lst true xs) (.ix n :: p) e
            rw [setAt, hx]
    | _ => simp [getAt] at h
  | .key k :: p, d, d0, h => by cases d <;> simp [getAt] at h
  | .fld f :: p, d, d0, h => by
    cases d with
    | obj o c fs =>
      cases o with
      | false => simp [getAt] at h
      | true =>
        rw [getAt] at h
        cases hx : fs.lookup f with
        | none => rw [hx] at h; cases h
        | some x =>
          rw [hx] at h
          have h : getAt x p = some d0 := h
          have e1 : setAt (.obj true c fs) (.fld f :: (p ++ q)) w = (setAt x (p ++ q) w).map fun x' => .obj true c (putF f x' fs) := by rw [setAt, hx]
          rw [List.cons_append, e1, setAt_app h]
          cases setAt d0 q w with
          | none => rfl
          | some e =>
            show (setAt x p e).map _ = setAt (.obj true c fs) (.fld f :: p) e
            rw [setAt, hx]
    | _ => simp [getAt] at h
theorem setP_app {i : Nat} {p q : List Stp} {d0 w : Rw.D} (h : getP ρ i p = some d0) (hs : setP ρ i (p ++ q) w = some ρ') : ∃ e, setAt d0 q w = some e ∧ setP ρ i p e = some ρ' := by
  obtain ⟨d, h1, h2⟩ := getP_slot h
  have h0 : ρ[i]? = some (slot ρ i) := get_slot fun z => by rw [z] at h1; cases h1
  have key : ∀ {f : Rw.D → Env}, (setAt d (p ++ q) w).map f = some ρ' → ∃ e, setAt d0 q w = some e ∧ (setAt d p e).map f = some ρ' := fun {f} z => by
    rw [setAt_app h2] at z
    cases e1 : setAt d0 q w with
    | none => rw [e1] at z; cases z
    | some e => rw [e1] at z; exact ⟨e, rfl, z⟩
  unfold setP at hs
  rw [h0] at hs
  cases es : slot ρ i with
  | un => rw [es] at hs; cases hs
  | fz d' => rw [es] at hs; cases hs
  | bw d' => rw [es] at hs; cases hs
  | ow d' =>
    rw [es] at hs h1
    cases h1
    obtain ⟨e, e1, e2⟩ := key hs
    refine ⟨e, e1, ?_⟩
    unfold setP
    rw [h0, es]
    exact e2
  | mw d' =>
    rw [es] at hs h1
    cases h1
    obtain ⟨e, e1, e2⟩ := key hs
    refine ⟨e, e1, ?_⟩
    unfold setP
    rw [h0, es]
    exact e2
/-- an item of an owned list is replaced -/
theorem put_ix (S : SI K A₀ A₁ σ H ρ fp) {i : Nat} {pl : List Stp} {n : Nat} {o : Bool} {xs : List Rw.D} {w : Rw.D} {x v r : V} {q : List Addr} (hg : getP ρ i pl = some (.lst o xs)) (hr : look σ i = some r) (va : VAt H r pl x) (hs : setP ρ i (pl ++ [.ix n]) w = some ρ')
    (rv : Rp K H (Bs A₁ fp) v w q) (nd : q.Nodup) (hq : ∀ a ∈ q, A₁ a ∧ ¬ A a) (hA : ∀ a, A₀ a → A a) (hA1 : ∀ a, A a → A₁ a) :
    ∃ p vs fp', x = .ref p ∧ H p = some (.lst vs) ∧ vs.length = xs.length ∧ SI K A₀ A σ (upd H p (.lst (vs.set n v))) ρ' fp' ∧ (∀ a u, H a = some u → (∀ j, a ∉ fp j) → upd H p (.lst (vs.set n v)) a = some u) ∧ ∀ a, Bs A fp' a → Bs A₁ fp a := by
  obtain ⟨e, e1, e2⟩ := setP_app hg hs
  have ho : o = true ∧ ∃ y, xs[n]? = some y ∧ e = .lst true (xs.set n w) := by
    cases o with
    | false => simp [setAt] at e1
    | true =>
      rw [setAt] at e1
      cases hx : xs[n]? with
      | none => rw [hx] at e1; cases e1
      | some y => rw [hx] at e1; simp [setAt] at e1; exact ⟨rfl, y, rfl, e1.symm⟩
  obtain ⟨rfl, y, hy, rfl⟩ := ho
  obtain ⟨f, pre, post, k1, k2, k3⟩ := S.putAt hg hr va e2
  obtain ⟨p, vs, f0, rfl, hp, l, rfl⟩ := k2.lstO
  obtain ⟨u, g0, g1, g2, hu, _, _⟩ := l.get hy
  obtain ⟨g', pre', post', ry, eq', hset⟩ := l.set hy hu
  subst eq'
  have ndi := S.nd i
  rw [k1] at ndi
  have ndf := (List.nodup_append.mp (List.nodup_append.mp ndi).2.1).1
  have inF : ∀ a, a = p ∨ a ∈ pre' ∨ a ∈ post' → a ∈ fp i := fun a z => by
    rw [k1]
    rcases z with z | z | z <;> simp [z]
  have nA : ∀ a, a ∈ fp i → ¬ A₁ a := fun a z => S.na i a z
  rw [List.nodup_cons] at ndf
  have nd1 := List.nodup_append.mp ndf.2
  have nd2 := List.nodup_append.mp nd1.2.1
  have np : p ∉ pre' ∧ p ∉ post' := ⟨fun z => ndf.1 (by simp [z]), fun z => ndf.1 (by simp [z])⟩
  have hpB : Bs A₁ fp p := .inr ⟨i, inF p (.inl rfl)⟩
  have npq : p ∉ q := fun z => nA p (inF p (.inl rfl)) (hq p z).1
  have upk : ∀ a u, H a = some u → a ≠ p → upd H p (.lst (vs.set n v)) a = some u := fun a u eu ne => by unfold upd; rw [if_neg ne]; exact eu
  have f'F : ∀ a ∈ p :: (pre' ++ (q ++ post')), a ∈ q ∨ a ∈ fp i := fun a z => by
    simp at z
    rcases z with z | z | z | z
    · exact .inr (inF a (.inl z))
    · exact .inr (inF a (.inr (.inl z)))
    · exact .inl z
    · exact .inr (inF a (.inr (.inr z)))
  have sub : ∀ a, Bs A (fup fp i (pre ++ ((p :: (pre' ++ (q ++ post'))) ++ post))) a → Bs A₁ fp a := fun a b => by
    rcases b with b | ⟨j, b⟩
    · exact .inl (hA1 a b)
    · by_cases ej : j = i
      · rw [ej, fup_same] at b
        rcases List.mem_append.mp b with z | z
        · exact .inr ⟨i, by rw [k1]; simp [z]⟩
        · rcases List.mem_append.mp z with z | z
          · exact (f'F a z).elim (fun y => .inl (hq a y).1) fun y => .inr ⟨i, y⟩
          · exact .inr ⟨i, by rw [k1]; simp [z]⟩
      · rw [fup_ne ej] at b; exact .inr ⟨j, b⟩
  refine ⟨p, vs, _, rfl, hp, l.len, k3 (A₁ := A) (H₁ := upd H p (.lst (vs.set n v))) (f' := p :: (pre' ++ (q ++ post'))) hA (fun a h => .inl (hA1 a h)) (fun a h => ?_) ?_ (fun a z => ?_) (fun a z h => ?_) (fun a u eu n0 => upk a u eu fun z => n0 (by rw [z]; exact List.mem_cons_self)) ?_, fun a u eu n0 => upk a u eu fun z => n0 i (inF a (.inl z)), sub⟩
  · obtain ⟨u, eu⟩ := S.tr a (hA1 a h)
    by_cases z : a = p
    · exact ⟨.lst (vs.set n v), by rw [z]; exact upd_same⟩
    · exact ⟨u, upk a u eu z⟩
  · rw [List.nodup_cons, List.nodup_append, List.nodup_append]
    refine ⟨fun z => ?_, nd1.1, ⟨nd, nd2.2.1, fun a h1 b h2 ee => ?_⟩, fun a h1 b h2 ee => ?_⟩
    · rcases List.mem_append.mp z with z | z
      · exact np.1 z
      · rcases List.mem_append.mp z with z | z
        · exact npq z
        · exact np.2 z
    · rw [← ee] at h2
      exact nA a (inF a (.inr (.inr h2))) (hq a h1).1
    · rw [← ee] at h2
      rcases List.mem_append.mp h2 with z | z
      · exact nA a (inF a (.inr (.inl h1))) (hq a z).1
      · exact nd1.2.2 a h1 a (List.mem_append_right _ z) rfl
  · rcases f'F a z with y | y
    · exact .inr (.inl (hq a y).1)
    · simp at z
      rcases z with z | z | z | z
      · exact .inl (by simp [z])
      · exact .inl (by simp [z])
      · exact .inr (.inl (hq a z).1)
      · exact .inl (by simp [z])
  · rcases f'F a z with y | y
    · exact (hq a y).2 h
    · exact nA a y (hA1 a h)
  · refine .lo upd_same (hset (fun a u eu n0 => upk a u eu fun z => ?_) (fun a b => .inl (sub a b)) (rv.mono (fun a u eu n0 => upk a u eu fun z => ?_) fun a b => .inl (sub a b)))
    · rw [z] at n0
      exact n0.elim (fun y => y hpB) fun y => y.elim np.1 np.2
    · rw [z] at n0
      exact n0.elim (fun y => y hpB) npq
theorem rs_sub {a i e : Ex} : ∀ D σ H, tS K mg W F sub N (.sub a i e) D σ H → tAsg (tE K mg W F e) (gSub (tE K mg W F a) (tE K mg W F i) rSetL) D σ H := fun D σ H ⟨A₀, A, ρ, fp, S, h⟩ => by
  rw [evS] at h
  refine ⟨A₀, A, ρ, fp, S, (out_all (evE_pin F e ρ) h).imp (fun o ρ1 _ ⟨hp, h⟩ v H₁ A₁ fp₁ g ok => ?_) fun _ _ h => h⟩
  split at h
  · rename_i o' ρ2 ha
    obtain ⟨fp2, q, S2, s2, r2, nd, hq, hz⟩ := alV g.si ok ha
    have g2 : SOk K A₀ A fp σ H ρ ρ2 σ H₁ A₁ fp2 := ⟨S2, ⟨g.tr.a, g.tr.k, fun a b => g.tr.b a (s2 a b)⟩, fun _ _ => rfl, hp.trans (.alias ha)⟩
    refine ⟨A₀, A₁, ρ2, fp2, S2, (out_all2 S g2 (evE_pin F a ρ2) h).imp (fun x ρ3 _ ⟨hp3, h⟩ vx H3 A3 fp3 g3 okx => ?_) fun _ _ h => h⟩
    have G3 := g2.trans S (SOk.ofE S2 g3 hp3)
    refine ⟨A₀, A3, ρ3, fp3, g3.si, (out_all2 S G3 (evE_pin F i ρ3) h).imp (fun y ρ4 _ ⟨hp4, h⟩ vy H4 A4 fp4 g4 oky => ?_) fun _ _ h => h⟩
    have G4 := G3.trans S (SOk.ofE g3.si g4 hp4)
    have r4 : Rp K H4 (Bs A4 fp4) v o'.val q := (r2.keep S2 (fun a z => (hq a z).1) g3.tr).keep g3.si (fun a z => g3.tr.a a (hq a z).1) g4.tr
    match x, h, okx with
    | .fz _, h, _ => exact h.elim
    | .ow _, h, _ => exact h.elim
    | .pt j pl, h, okx =>
      cases c1 : con ρ4 (.pt j pl) with
      | none => rw [c1] at h; exact h.elim
      | some d =>
      cases c2 : con ρ4 y with
      | none => rw [c1, c2] at h; exact h.elim
      | some k =>
      rw [c1, c2] at h
      dsimp only at h
      have hok : okPt (.pt j pl) i = true := by
        by_cases z : okPt (.pt j pl) i = true
        · exact z
        · rw [if_neg z] at h; exact h.elim
      rw [if_pos hok] at h
      split at h
      · rename_i st hst
        split at h
        · rename_i ρ5 hs
          have okx' := okx.later g3.si g4.tr (keep_of_okPt hok g4.kp)
          obtain ⟨_, ⟨_, r, hr, va⟩, _⟩ := okx'
          obtain ⟨qk, rk, _⟩ := con_ok g4.si oky c2
          unfold ixStp at hst
          split at hst
          · rename_i o0 xs i0
            cases hn : ixN xs.length i0 with
            | none => rw [hn] at hst; cases hst
            | some n =>
              rw [hn] at hst
              cases hst
              have e1 := rk.intI
              subst e1
              have hq4 : ∀ a ∈ q, A4 a ∧ ¬ A a := fun a z => ⟨g4.tr.a a (g3.tr.a a (hq a z).1), (hq a z).2⟩
              obtain ⟨p, vs, fp5, rfl, hpp, hl, S5, kk, bb⟩ := put_ix g4.si (show getP ρ4 j pl = some _ from c1) hr va hs r4 nd hq4 S.sub (fun a h => g4.tr.a a (g3.tr.a a (g.tr.a a h)))
              refine ⟨p, vs, i0, n, rfl, rfl, hpp, by rw [hl, ← ixN_eq]; exact hn, ?_⟩
              refine h σ _ fp5 ⟨S5, ⟨fun _ h => h, fun a u eu n0 => kk a u (G4.tr.k a u eu n0) fun j0 z => ?_, fun a b => G4.tr.b a (bb a b)⟩, fun _ _ => rfl, G4.pin.trans (.setP hs)⟩
              rcases G4.tr.b a (.inr ⟨j0, z⟩) with (y | ⟨j1, y⟩) | y
              · exact g4.si.na j0 a z (G4.tr.a a y)
              · exact n0 j1 y
              · exact absurd (y.symm.trans eu) (fun z => by cases z)
          · cases hst
        · exact h.elim
      · exact h.elim
  · exact h.elim
/-- a constant's value -/
def dV : Rw.D → V
  | .bl b => .bl b
  | .int i => .int i
  | .str x => .str ⟨x.toArray⟩
  | _ => .non
theorem dV_ok {d : Rw.D} (h : flat d = true) (K : PySem.W.Frag) (H : Hp) (B : Addr → Prop) : Rp K H B (dV d) d [] := by
  cases d with
  | non => exact .non
  | bl b => exact .bl b
  | int i => exact .int i
  | str x => exact .str x
  | _ => cases h
def hsL (mg : Str → Option Value) (hs : List (Str × Nat × Rw.D)) : List (Value × (Addr → Value → Option Addr → TS)) := hs.map fun h => ((mg h.1).getD .none, fun _ _ _ => tAsg (tC (dV h.2.2)) (gName h.2.1))
theorem many_ok (hsub : ∀ c k r, sub c k = some r → ∀ cls ck, mg c = some cls → mg k = some ck → PySem.W.exmOne K cls ck = some r) {D : Ends} {x : Exc} {cls : Value} {d : Option Addr} (S : SI K A₀ A σ H ρ fp) (xa : XAt mg x cls d H) :
    ∀ {hs : List (Str × Nat × Rw.D)}, (∀ h ∈ hs, flat h.2.2 = true ∧ ∃ c, mg h.1 = some c) → oAll K mg A₀ A fp σ H ρ W D (match pick sub x.cls hs with
      | some (some (i, d)) => (match asgT (.nm i) true d ρ with | some ρ2 => .nx ρ2 | none => .stuck)
      | some none => .exc x ρ
      | none => .stuck) → wMany K W D (hsL mg hs) cls d σ H
  | [], _, h => h cls d σ H fp (.refl S) xa
  | (k, i, dd) :: hs, hf, h => by
    obtain ⟨f1, c, hc⟩ := hf _ List.mem_cons_self
    rw [pick] at h
    cases hs1 : sub x.cls k with
    | none => rw [hs1] at h; exact h.elim
    | some r =>
      have hm : PySem.W.exmOne K cls ((mg k).getD .none) = some r := by
        rw [show mg k = some c from hc]
        exact hsub _ _ _ hs1 _ _ xa.2 hc
      rw [hs1] at h
      refine ⟨r, hm, fun hr a _ => ?_, fun hr => ?_⟩
      · subst hr
        dsimp only at h
        cases ha : asgT (.nm i) true dd ρ with
        | none => rw [ha] at h; exact h.elim
        | some ρ2 =>
          rw [ha] at h
          refine gT_ok (A := A) (fp := fp) (ρ := ρ) (ρ' := ρ2) (.nm i) S (dV_ok f1 K H _) .nil (fun _ z => nomatch z) (fun _ => rfl) ha fun σ' fp' T => ?_
          have eA : (fun a => A a ∧ a ∉ ([] : List Addr)) = A := by funext a; simp
          have S2 := T.si
          rw [eA] at S2
          exact h σ' H fp' ⟨S2, ⟨fun _ h => h, fun _ _ e _ => e, fun a b => .inl (T.b a (by rw [eA]; exact b))⟩, T.pin, asgT_pin _ ha⟩
      · subst hr
        exact many_ok hsub S xa (fun h hh => hf h (List.mem_cons_of_mem _ hh)) h
theorem rs_try {b : List Rw.St} {hs : List (Str × Nat × Rw.D)} (hsub : ∀ c k r, sub c k = some r → ∀ cls ck, mg c = some cls → mg k = some ck → PySem.W.exmOne K cls ck = some r) (hf : ∀ h ∈ hs, flat h.2.2 = true ∧ ∃ c, mg h.1 = some c) :
    ∀ D σ H, tS K mg W F sub N (.tryx b hs) D σ H → tSs K mg (wMany K W D (hsL mg hs)) F sub N b D σ H := fun D σ H ⟨A₀, A, ρ, fp, S, h⟩ => by
  rw [evS] at h
  refine ⟨A₀, A, ρ, fp, S, ?_⟩
  cases hb : evSs F sub N b ρ with
  | exc x ρ1 =>
    rw [hb] at h
    exact fun cls d σ' H' fp' g xa => many_ok hsub g.si xa hf (oAll.later S h g)
  | nx ρ1 => rw [hb] at h; exact h
  | bk ρ1 => rw [hb] at h; exact h
  | ct ρ1 => rw [hb] at h; exact h
  | rt d ρ1 => rw [hb] at h; exact h
  | stuck => rw [hb] at h; exact h
end
end Rw

set_option Elab.async false
set_option linter.all false
set_option maxRecDepth 100000
/-! RwN: from the text's trees to the core syntax; each expression keeps its reading. -/
namespace Rw
open PySem PySem.Spec PyProof.Rows L2
/-- where a def's text stands: its names, its scope, what the module's names mean -/
structure CC where
  N : List Str
  sc : Scope
  /-- the names that may be stored to -/
  st : Str → Bool
  /-- the module's constants -/
  gc : Str → Option D
  /-- the defs -/
  fm : Str → Option (List Mode)
  /-- names that the module does not have -/
  bn : Str → Bool
  /-- its error classes without fields -/
  xc : Str → Bool
def idx : List Str → Str → Option Nat
  | [], _ => none
  | y :: r, x => if y = x then some 0 else (idx r x).map (· + 1)
theorem idx_get : ∀ {N : List Str} {x : Str} {i : Nat}, idx N x = some i → N[i]? = some x
  | [], _, _, h => by cases h
  | y :: r, x, i, h => by
    unfold idx at h
    split at h
    · rename_i e; cases h; simp [e]
    · cases e : idx r x with
      | none => rw [e] at h; cases h
      | some j => rw [e] at h; cases h; simpa using idx_get e
def litC : Const → Option D
  | .none => some .non
  | .bool b => some (.bl b)
  | .int i => some (.int i)
  | .str x => some (.str x.cps.toList)
  | _ => none
def cop : CmpOp → Option Cop
  | .Eq => some .eq
  | .NotEq => some .ne
  | .Lt => some .lt
  | .LtE => some .le
  | .Gt => some .gt
  | .GtE => some .ge
  | .Is => some .is
  | .IsNot => some .isnot
  | .In => some .isin
  | .NotIn => some .notin
def compL (f : Expr → Option Ex) : List Expr → Option (List Ex)
  | [] => some []
  | e :: es => match f e, compL f es with
    | some c, some cs => some (c :: cs)
    | _, _ => none
def compO (f : Expr → Option Ex) : Option Expr → Option (Option Ex)
  | none => some none
  | some e => (f e).map some
def foldB (op : BoolOp) : List Ex → Option Ex
  | [] => none
  | [a] => some a
  | a :: r => (foldB op r).map fun b => match op with
    | .And => .band a b
    | .Or => .bor a b
def isStar : Expr → Bool
  | .Starred .. => true
  | _ => false
def isSli : Expr → Bool
  | .Slice .. => true
  | _ => false
def isSet : Expr → Bool
  | .Set .. => true
  | _ => false
def isComp : Expr → Bool
  | .ListComp .. | .SetComp .. | .DictComp .. => true
  | _ => false
def isCall0 : Expr → Bool
  | .Call (.Name _ _) [] [] _ => true
  | _ => false
def ownP (N : List Str) (sc : Scope) : List (Str × Nat) := sc.names.filterMap fun p => if p.2 == .local || p.2 == .cell then (idx N p.1).map fun i => (p.1, i) else none
def CC.blk (cc : CC) (scope : Scope) : CC := { cc with sc := relS scope cc.sc, st := fun x => match scope.names.lookup x with
  | some .local => true
  | some .cell => true
  | _ => false }
def compT (cc : CC) : Nat → Expr → Option Tg
  | 0, _ => none
  | n + 1, e => match e with
    | .Name x _ => if cc.st x then (idx cc.N x).map .nm else none
    | .Tuple es _ _ => (go (compT cc n) es).map .tp
    | _ => none
where go (f : Expr → Option Tg) : List Expr → Option (List Tg)
  | [] => some []
  | e :: es => match f e, go f es with
    | some c, some cs => some (c :: cs)
    | _, _ => none
def okName (x : Str) : Bool := !(x == ("__debug__" : Str)) && (!(x == ("__classdict__" : Str)) && !(x == ("__name__" : Str)))
def tyN (x : Str) : Option String := if x = "int" then some "int" else if x = "bool" then some "bool" else if x = "str" then some "str" else if x = "tuple" then some "tuple" else if x = "list" then some "list" else if x = "dict" then some "dict" else none
def isGl (cc : CC) (x : Str) : Bool := match cc.sc.names.lookup x with
  | some .globalImplicit => true
  | _ => false
/-- what is walked -/
def compI (cc : CC) (f : Expr → Option Ex) (it : Expr) : Option It := match it with
  | .Call (.Name x _) [a] [] _ => if x = "range" then (if isGl cc x && (cc.bn x && !isStar a) then (f a).map .rng else none) else (f it).map .seq
  | .Call (.Name x _) [a, b] [] _ => if x = "range" then (if isGl cc x && (cc.bn x && (!isStar a && !isStar b)) then (match f a, f b with
      | some c, some d => some (.rng2 c d)
      | _, _ => none) else none) else (f it).map .seq
  | _ => if isSet it then none else (f it).map .seq
def biOk (f : Str) : Bool := match bootBuiltins f with
  | some (.builtin _) => true
  | some (.type _) => true
  | _ => false
def mthOk (m : Str) : Bool := m = "join" || (m = "append" || m = "pop")
def compE : Nat → CC → Expr → Option Ex
  | 0, _, _ => none
  | n + 1, cc, e => match e with
    | .Constant c _ _ => (litC c).map .lit
    | .Name x _ => if okName x then (match cc.sc.names.lookup x with
      | some .local => (idx cc.N x).map .var
      | some .cell => (idx cc.N x).map .var
      | some .free => (idx cc.N x).map .var
      | some .globalImplicit => (cc.gc x).map .lit
      | _ => none) else none
    | .BinOp a op b _ => (match compE n cc a, compE n cc b with
      | some c, some d => some (.bop op c d)
      | _, _ => none)
    | .UnaryOp op a _ => (match op with
      | .USub => (compE n cc a).map .neg
      | .Not => (compE n cc a).map .bnot
      | _ => none)
    | .BoolOp op vs _ => (compL (compE n cc) vs).bind (foldB op)
    | .IfExp c a b _ => (match compE n cc c, compE n cc a, compE n cc b with
      | some x, some y, some z => some (.ife x y z)
      | _, _, _ => none)
    | .Compare a ops bs _ => (match ops, bs with
      | [op], [b] => if behindInMarks op b then none else (match cop op, compE n cc a, compE n cc b with
        | some o, some x, some y => some (.cmp o x y)
        | _, _, _ => none)
      | [op, op'], [b, c] => if lastMarks [op, op'] [b, c] then none else (match cop op, cop op', compE n cc a, compE n cc b, compE n cc c with
        | some o, some o', some x, some y, some z => some (.cmp2 o o' x y z)
        | _, _, _, _, _ => none)
      | _, _ => none)
    | .Tuple es _ _ => (compL (compE n cc) es).map .tup
    | .List es _ => (compL (compE n cc) es).map .lst
    | .Subscript a i _ => (match i with
      | .Slice lo hi none _ => (match compE n cc a, compO (compE n cc) lo, compO (compE n cc) hi with
        | some x, some l, some h => some (.slc x l h)
        | _, _, _ => none)
      | i => (match compE n cc a, compE n cc i with
        | some x, some y => some (.sub x y)
        | _, _ => none))
    | .Call fn es ks cpos => (match fn, ks with
      | .Name f _, [] => if okName f && isGl cc f then
          (if f = "isinstance" then (match es with
            | [a, .Name t _] => if cc.bn f && (okName t && (isGl cc t && (cc.bn t && (tyN t).isSome))) then (compE n cc a).map (.isi · t) else none
            | _ => none)
          else if es.isEmpty then none else (match cc.fm f with
            | some _ => (compL (compE n cc) es).map (.call f)
            | none => if cc.bn f && biOk f then (compL (compE n cc) es).map (.bi f) else none)) else none
      | .Attribute o m apos, [] => if mthOk m && (!isCall0 o && (apos.endLine == cpos.line && decide (es.length < 30))) then (match compE n cc o, compL (compE n cc) es with
          | some x, some ys => some (.mth m x ys)
          | _, _ => none) else none
      | _, _ => none)
    | .Dict [] [] _ => some .dct0
    | .ListComp elt gs scope _ => (match gs with
      | [⟨tg, iter, ifs, 0⟩] => if blkC cc.N cc.sc scope (ownP cc.N scope) && !isSet iter then (match compT (cc.blk scope) n tg, compI cc (compE n cc) iter, (match ifs with
            | [] => some none
            | [c] => (compE n (cc.blk scope) c).map some
            | _ => none), compE n (cc.blk scope) elt with
          | some t, some it, some c, some e => if (tgN t).all (fun j => ((ownP cc.N scope).map (·.2)).contains j) then some (.lc ((ownP cc.N scope).map (·.2)) t it c e) else none
          | _, _, _, _ => none) else none
      | _ => none)
    | _ => none
/-- a context that the text may run in -/
structure XOk (xg : Str → Option Value) (F : Fn) (cc : CC) (X : Cx) (W : WX) : Prop where
  N : X.N = cc.N
  nd : X.N.Nodup
  sc : X.env.scope = cc.sc
  calm : X.calm = true
  tk : Takes X W
  un : X.A.units + 64 < cLine
  st : ∀ x, cc.st x = true → Loc X.env.scope x ∧ (X.fn x = true ∨ X.env.scope.names.lookup x = some .local)
  gc : ∀ x d, cc.gc x = some d → flat d = true ∧ ∃ u, X.mg x = some u ∧ RelV (dV d) u
  bn : ∀ x, cc.bn x = true → X.mg x = none
  fn : ∀ f ms, cc.fm f = some ms → F.modes f = some ms ∧ ∃ a fd ps k, FnOk X.prog X.w X.K X.mg X.base (L2.CX X.prog X.w) k a fd ps (spD X.K xg ms (F.run f)) ∧ Room k X.A ∧ X.mg f = some (.ref a) ∧ PySem.W.keepIn X.K (.ref a) = true ∧ Binds X.K fd ps []
section
variable {xg : Str → Option Value} {F : Fn} {cc : CC} {X : Cx} {W : WX}
theorem XOk.blk (h : XOk xg F cc X W) (s : Shared) (H : Hp) (scope : Scope) (cl : List (Str × Addr)) (C : Addr) (fp : List Addr) : XOk xg F (cc.blk scope) (X.blk s H scope (compEnvC scope cl C X.env) fp) NoW where
  N := h.N
  nd := h.nd
  sc := by
    show relabel scope X.env = relS scope cc.sc
    rw [← h.sc]
    rfl
  calm := h.calm
  tk := takes_none5
  un := h.un
  st := fun x hx => by
    unfold CC.blk at hx
    dsimp only at hx
    have key : ∀ k, (k = .local ∨ k = .cell) → scope.names.lookup x = some k → (compEnvC scope cl C X.env).scope.names.lookup x = some k := fun k hk e => lookup_relS_keep (sc := X.env.scope) (by rcases hk with z | z <;> rw [z] <;> decide) e
    cases e : scope.names.lookup x with
    | none => rw [e] at hx; cases hx
    | some k =>
      rw [e] at hx
      cases k with
      | «local» => exact ⟨.inl (key _ (.inl rfl) e), .inr (key _ (.inl rfl) e)⟩
      | cell => exact ⟨.inr (key _ (.inr rfl) e), .inl (by show (scope.names.lookup x == some .cell) = true; rw [e] <;> rfl)⟩
      | _ => cases hx
  gc := h.gc
  bn := h.bn
  fn := h.fn
theorem star_of {e : Expr} {es : List Expr} {env : PySem.Env} (h : isStar e = false) : starEach (e :: es) env = (false, eval e env) :: starEach es env := by
  cases e <;> first | rfl | cases h
end
end Rw

set_option Elab.async false
set_option linter.all false
set_option maxRecDepth 100000
/-! RwO: each expression keeps its reading. -/
namespace Rw
open PySem PySem.Spec PyProof.Rows L2
/-! ### names moved -/
mutual
/-- the name i is mentioned -/
def menE (i : Nat) : Ex → Bool
  | .var j | .mv j => j == i
  | .lit _ | .dct0 => false
  | .lc _ _ it c e => menI i it || (menO i c || menE i e)
  | .bop _ a b | .cmp _ a b | .band a b | .bor a b | .sub a b => menE i a || menE i b
  | .neg a | .bnot a | .isi a _ => menE i a
  | .cmp2 _ _ a b c | .ife a b c => menE i a || (menE i b || menE i c)
  | .tup es | .lst es | .bi _ es | .call _ es => menEs i es
  | .slc a lo hi => menE i a || (menO i lo || menO i hi)
  | .mth _ o es => menE i o || menEs i es
def menEs (i : Nat) : List Ex → Bool
  | [] => false
  | e :: es => menE i e || menEs i es
def menO (i : Nat) : Option Ex → Bool
  | none => false
  | some e => menE i e
def menI (i : Nat) : It → Bool
  | .seq e | .rng e => menE i e
  | .rng2 a b => menE i a || menE i b
end
def mvLast : List Ex → List Ex
  | [] => []
  | e :: es => (match e with
    | .var i => if menEs i es then .var i else .mv i
    | e => e) :: mvLast es
/-- a value that is returned: its names are moved -/
def mvTop : Ex → Ex
  | .var i => .mv i
  | .tup es => .tup (mvLast es)
  | .lst es => .lst (mvLast es)
  | e => e
section
variable {K : PySem.W.Frag} {mg xg : Str → Option Value} {F : Fn} {cc : CC} {X : Cx} {W : WX} {pos : Pos}
theorem rt_bl {e : Ex} (hb : ∀ ρ o ρ', evE F e ρ = .ok o ρ' → ∃ b, o = .fz (.bl b)) : ∀ σ H (Q : Bool → Hp → Prop), tT K mg W F e σ H Q → tE K mg W F e σ H fun x H' => ∃ k, x = .bl k ∧ Q k H' := fun σ H Q ⟨A₀, A, ρ, fp, S, h⟩ => by
  refine ⟨A₀, A, ρ, fp, S, ?_⟩
  cases he : evE F e ρ with
  | stuck => rw [he] at h; exact h
  | exc x ρ' => rw [he] at h; exact h
  | ok o ρ' =>
    rw [he] at h
    obtain ⟨b, rfl⟩ := hb _ _ _ he
    intro v H' A' fp' g ok
    obtain ⟨q, ⟨_, r⟩, _⟩ := ok
    cases r
    exact ⟨b, rfl, h H' A' fp' g⟩
theorem ofOpt_map_bl {ρ ρ' : Env} {o : Option Bool} {x : Opd} (h : ofOpt ρ (o.map fun c => .fz (.bl c)) = .ok x ρ') : ∃ b, x = .fz (.bl b) := by
  cases o with
  | none => cases h
  | some b => cases h; exact ⟨b, rfl⟩
theorem bind_ok {α β : Type} {r : Rr α} {f : α → Env → Rr β} {b : β} {ρ' : Env} (h : r.bind f = .ok b ρ') : ∃ a ρ1, r = .ok a ρ1 ∧ f a ρ1 = .ok b ρ' := by
  cases r with
  | ok a ρ1 => exact ⟨a, ρ1, rfl, h⟩
  | exc x ρ1 => cases h
  | stuck => cases h
theorem cmp_bl {op : Cop} {a b : Ex} : ∀ ρ o ρ', evE F (.cmp op a b) ρ = .ok o ρ' → ∃ b, o = .fz (.bl b) := fun ρ o ρ' h => by
  rw [evE] at h
  obtain ⟨x, ρ1, _, h⟩ := bind_ok h
  obtain ⟨y, ρ2, _, h⟩ := bind_ok h
  split at h
  · split at h
    · exact ofOpt_map_bl h
    · cases h
  · cases h
theorem cmp2_bl {op op' : Cop} {a b c : Ex} : ∀ ρ o ρ', evE F (.cmp2 op op' a b c) ρ = .ok o ρ' → ∃ b, o = .fz (.bl b) := fun ρ o ρ' h => by
  rw [evE] at h
  obtain ⟨x, ρ1, _, h⟩ := bind_ok h
  obtain ⟨y, ρ2, _, h⟩ := bind_ok h
  split at h
  · split at h
    · split at h
      · obtain ⟨z, ρ3, _, h⟩ := bind_ok h
        split at h
        · exact ofOpt_map_bl h
        · cases h
      · cases h; exact ⟨false, rfl⟩
      · cases h
    · cases h
  · cases h
theorem pt_dflt {e : Expr} {c : Ex} (h : PE X e (tE X.K xg W F c)) (he : ∀ whole, isTrue e X.env whole = (do let v ← whole; standAt e.pos; holding [v] (truthy v)) := by intro _; rfl) : PT X e (tT X.K xg W F c) := PT.imp (pt_truth h he) rd_tst
theorem pt_ife {c a b : Expr} {x y z : Ex} (hc : PT X c (tT X.K xg W F x)) (ha : PT X a (tT X.K xg W F y)) (hb : PT X b (tT X.K xg W F z)) : PT X (.IfExp c a b pos) (tT X.K xg W F (.ife x y z)) := by
  refine ⟨fun pins s σ H Q I ⟨A₀, A, ρ, fp, S, h⟩ => ?_⟩
  show wpAny _ _ (do if ← isTrue c X.env (eval c X.env) then isTrue a X.env (eval a X.env) else isTrue b X.env (eval b X.env)) _ _ _
  have hr : tT X.K xg W F x σ H fun k H1 => if k = true then tT X.K xg W F y σ H1 Q else tT X.K xg W F z σ H1 Q := by
    refine ⟨A₀, A, ρ, fp, S, ?_⟩
    have h' : (tst (((tst (evE F x ρ)).bind fun t ρ1 => if t then evE F y ρ1 else evE F z ρ1))).all (fun b ρ' => ∀ H' A' fp', EOk X.K A₀ A fp σ H (pureE (.ife x y z)) ρ' H' A' fp' → Q b H') (XPost X.K xg A₀ A fp σ H W) := by
      rw [evE] at h; exact h
    cases he : tst (evE F x ρ) with
    | stuck => rw [he] at h'; exact h'
    | exc e ρ1 => rw [he] at h'; exact h'
    | ok t ρ1 =>
      rw [he] at h'
      intro H1 A1 fp1 g1
      cases t with
      | true =>
        refine ⟨A₀, A1, ρ1, fp1, g1.si, (Xmatch (show (tst (evE F y ρ1)).all _ _ from h') S g1.si g1.tr).imp (fun b ρ2 _ h H2 A2 fp2 g2 => h H2 A2 fp2 (g1.trans S g2 fun z => ?_)) fun _ _ h => h⟩
        simp [pureE] at z; simp [z]
      | false =>
        refine ⟨A₀, A1, ρ1, fp1, g1.si, (Xmatch (show (tst (evE F z ρ1)).all _ _ from h') S g1.si g1.tr).imp (fun b ρ2 _ h H2 A2 fp2 g2 => h H2 A2 fp2 (g1.trans S g2 fun z => ?_)) fun _ _ h => h⟩
        simp [pureE] at z; simp [z]
  refine wpAny_bind (thn (hc.run pins s σ H _ I hr) fun k s1 ⟨H1, I1, q1⟩ => ?_)
  cases k with
  | true => exact ha.run pins s1 σ H1 Q I1 q1
  | false => exact hb.run pins s1 σ H1 Q I1 q1
theorem PI.imp {tg it : Expr} {w w' : TI} (h : PI X tg it w) (i : ∀ σ H R, w' σ H R → w σ H R) : PI X tg it w' := ⟨fun pins s σ H R I q => h.run pins s σ H R I (i σ H R q)⟩
theorem pi_or {tg it : Expr} {w w' : TI} (h : PI X tg it w) (h' : PI X tg it w') : PI X tg it fun σ H R => w σ H R ∨ w' σ H R := ⟨fun pins s σ H R I q => q.elim (h.run pins s σ H R I) (h'.run pins s σ H R I)⟩
theorem pi_seq {tg e : Expr} {c : Ex} (h : PE X e (tE X.K xg W F c)) : PI X tg e (tI X.K xg W F (.seq c)) := PI.imp (pi_or (pi_list h) (pi_or (pi_tup h) (pi_str h))) rd_seq
/-- what an expression's core keeps -/
structure Kp (xg : Str → Option Value) (F : Fn) (X : Cx) (W : WX) (e : Expr) (c : Ex) : Prop where
  pe : PE X e (tE X.K xg W F c)
  pt : PT X e (tT X.K xg W F c)
  mv : ∀ i, c = .var i → PE X e (tE X.K xg W F (.mv i))
theorem Kp.of {e : Expr} {c : Ex} (h : PE X e (tE X.K xg W F c)) (hv : ∀ i, c ≠ .var i) (he : ∀ whole, isTrue e X.env whole = (do let v ← whole; standAt e.pos; holding [v] (truthy v)) := by intro _; rfl) : Kp xg F X W e c := ⟨h, pt_dflt h he, fun i e => (hv i e).elim⟩
theorem compE_star {n : Nat} {e : Expr} {c : Ex} (h : compE n cc e = some c) : isStar e = false := by
  cases n with
  | zero => cases h
  | succ n => cases e <;> first | rfl | (unfold compE at h; cases h)
theorem compL_ok {f : Expr → Option Ex} (hf : ∀ e c, f e = some c → isStar e = false) : ∀ {es : List Expr} {cs : List Ex}, compL f es = some cs → (∀ e c, f e = some c → Kp xg F X W e c) → PA X es (tEs X.K xg W F cs) ∧ PA X es (tEs X.K xg W F (mvLast cs))
  | [], cs, h, k => by
    cases h
    exact ⟨⟨fun pos pins s σ H Q I q => pa_nil.run pos pins s σ H Q I (rd_nil σ H Q q)⟩, ⟨fun pos pins s σ H Q I q => pa_nil.run pos pins s σ H Q I (rd_nil σ H Q q)⟩⟩
  | e :: es, cs, h, k => by
    unfold compL at h
    cases h1 : f e with
    | none => rw [h1] at h; cases h
    | some c =>
      cases h2 : compL f es with
      | none => rw [h1, h2] at h; cases h
      | some cs' =>
        rw [h1, h2] at h
        cases h
        obtain ⟨a1, a2⟩ := compL_ok hf h2 k
        have kk := k e c h1
        have hs : starEach (e :: es) X.env = (false, eval e X.env) :: starEach es X.env := star_of (hf e c h1)
        have mk : ∀ {c' : Ex} {cs' : List Ex}, PE X e (tE X.K xg W F c') → PA X es (tEs X.K xg W F cs') → PA X (e :: es) (tEs X.K xg W F (c' :: cs')) := fun p a =>
          ⟨fun pos pins s σ H Q I q => (pa_cons p a hs).run pos pins s σ H Q I (rd_cons σ H Q q)⟩
        refine ⟨mk kk.pe a1, ?_⟩
        unfold mvLast
        refine mk ?_ a2
        split
        · rename_i i
          split
          · exact kk.pe
          · exact kk.mv i rfl
        · exact kk.pe
theorem plain_of {b : Expr} (h : isSli b = false) : PlainIx b := fun o i => by
  cases b <;> first | rfl | cases h
theorem folded_of {e : Expr} (h : isSet e = false) (x : Value) : foldedSetIterable e X.env x = pure x := by
  cases e <;> first | rfl | cases h
theorem base_of {o : Expr} {m : Str} (h : isCall0 o = false) : attributeBase o m X.env (eval o X.env) = eval o X.env := by
  unfold attributeBase
  split
  · cases h
  · rfl
theorem noStar {es : List Expr} {env : PySem.Env} (h : ∀ e ∈ es, isStar e = false) : (backTo pos (starEach es env)).any (·.1) = false := by
  induction es with
  | nil => rfl
  | cons e es ih =>
    rw [star_of (h e List.mem_cons_self)]
    exact ih fun e' h' => h e' (List.mem_cons_of_mem _ h')
theorem noStar2 {es : List Expr} {env : PySem.Env} (h : ∀ e ∈ es, isStar e = false) : (backTo pos (starEach es env)).all (fun x => !x.1) = true := by
  induction es with
  | nil => rfl
  | cons e es ih =>
    rw [star_of (h e List.mem_cons_self)]
    exact ih fun e' h' => h e' (List.mem_cons_of_mem _ h')
theorem compL_star {f : Expr → Option Ex} (hf : ∀ e c, f e = some c → isStar e = false) : ∀ {es : List Expr} {cs : List Ex}, compL f es = some cs → ∀ e ∈ es, isStar e = false
  | [], _, _, e, he => nomatch he
  | e0 :: es, cs, h, e, he => by
    unfold compL at h
    cases h1 : f e0 with
    | none => rw [h1] at h; cases h
    | some c =>
      cases h2 : compL f es with
      | none => rw [h1, h2] at h; cases h
      | some cs' =>
        rcases List.mem_cons.mp he with z | z
        · rw [z]; exact hf e0 c h1
        · exact compL_star hf h2 e z
/-! ### targets -/
theorem compT_star {n : Nat} {e : Expr} {t : Tg} (h : compT cc n e = some t) : isStar e = false := by
  cases n with
  | zero => cases h
  | succ n => cases e <;> first | rfl | (unfold compT at h; cases h)
theorem asg_of {e : Expr} {es : List Expr} {env : PySem.Env} (h : isStar e = false) : assignEach (e :: es) env = (false, assign e env) :: assignEach es env := by
  cases e <;> first | rfl | cases h
theorem compT_ok (XO : XOk xg F cc X W) : ∀ {n : Nat} {e : Expr} {t : Tg}, compT cc n e = some t → PG X e (gT X.K t)
  | 0, _, _, h => by cases h
  | n + 1, e, t, h => by
    cases e with
    | Name x p =>
      unfold compT at h
      dsimp only at h
      split at h
      · rename_i hs
        cases hi : idx cc.N x with
        | none => rw [hi] at h; cases h
        | some i =>
          rw [hi] at h
          cases h
          obtain ⟨h1, h2⟩ := XO.st x hs
          exact pg_name XO.nd (by rw [XO.N]; exact idx_get hi) h1 h2
      · cases h
    | Tuple es k p =>
      unfold compT at h
      dsimp only at h
      cases hg : compT.go (compT cc n) es with
      | none => rw [hg] at h; cases h
      | some ts =>
        rw [hg] at h
        cases h
        have go : ∀ {es : List Expr} {ts : List Tg}, compT.go (compT cc n) es = some ts → PGs X es (gTs X.K ts) ∧ (assignEach es X.env).length = ts.length ∧ (assignEach es X.env).findIdx? (·.1) = none := by
          intro es
          induction es with
          | nil => intro ts h; cases h; exact ⟨pgs_nil, rfl, rfl⟩
          | cons e es ih =>
            intro ts h
            unfold compT.go at h
            cases h1 : compT cc n e with
            | none => rw [h1] at h; cases h
            | some t =>
              cases h2 : compT.go (compT cc n) es with
              | none => rw [h1, h2] at h; cases h
              | some ts' =>
                rw [h1, h2] at h
                cases h
                obtain ⟨i1, i2, i3⟩ := ih h2
                have ha := asg_of (es := es) (env := X.env) (compT_star h1)
                refine ⟨pgs_cons (compT_ok XO h1) i1 (by rw [ha] <;> rfl), by rw [ha, List.length_cons, List.length_cons, i2], ?_⟩
                rw [ha]
                simp [List.findIdx?_cons, i3]
        obtain ⟨g1, g2, g3⟩ := go hg
        exact pg_tup XO.calm g1 g2 g3
    | _ => unfold compT at h; cases h
end
end Rw

set_option Elab.async false
set_option linter.all false
set_option maxRecDepth 100000
/-! RwP: every expression that the compiler takes keeps its reading. -/
namespace Rw
open PySem PySem.Spec PyProof.Rows L2
section
variable {xg : Str → Option Value} {F : Fn} {cc : CC} {X : Cx} {W : WX}
theorem litC_ok {c : Const} {d : D} (h : litC c = some d) {k : Nat} {p : Pos} : flat d = true ∧ PE X (.Constant c k p) (tC (dV d)) := by
  cases c <;> cases h
  · exact ⟨rfl, pe_non⟩
  · exact ⟨rfl, pe_bl⟩
  · exact ⟨rfl, pe_int⟩
  · exact ⟨rfl, pe_str⟩
theorem cop_ok {op : CmpOp} {o : Cop} (h : cop op = some o) : op = copOf o := by cases op <;> cases h <;> rfl
theorem okName_ok {x : Str} (h : okName x = true) : (x == ("__debug__" : Str)) = false ∧ (x == ("__classdict__" : Str)) = false ∧ x ≠ "__name__" := by
  unfold okName at h
  rw [Bool.and_eq_true, Bool.and_eq_true] at h
  refine ⟨by simpa using h.1, by simpa using h.2.1, fun e => ?_⟩
  have := h.2.2
  rw [e] at this
  revert this
  decide +kernel
theorem isGl_ok (XO : XOk xg F cc X W) {x : Str} (h : isGl cc x = true) : Gl X x := by
  unfold isGl at h
  show X.env.scope.names.lookup x = _
  rw [XO.sc]
  split at h
  · rename_i e; exact e
  · cases h
theorem rd_litT {d : D} (hf : flat d = true) : ∀ σ H Q, tE X.K xg W F (.lit d) σ H Q → tC (dV d) σ H Q := rd_lit fun H B => dV_ok hf _ H B
theorem tyN_ok {t : Str} {T : String} (h : tyN t = some T) : t = Str.ofString T ∧ T ∈ ["int", "bool", "str", "tuple", "list", "dict"] ∧ bootBuiltins t = some (.type T) := by
  unfold tyN at h
  split at h
  · rename_i e; cases h; rw [e]; exact ⟨rfl, by simp, rfl⟩
  split at h
  · rename_i e; cases h; rw [e]; exact ⟨rfl, by simp, rfl⟩
  split at h
  · rename_i e; cases h; rw [e]; exact ⟨rfl, by simp, rfl⟩
  split at h
  · rename_i e; cases h; rw [e]; exact ⟨rfl, by simp, rfl⟩
  split at h
  · rename_i e; cases h; rw [e]; exact ⟨rfl, by simp, rfl⟩
  split at h
  · rename_i e; cases h; rw [e]; exact ⟨rfl, by simp, rfl⟩
  · cases h
/-- and, or -/
theorem foldB_ok {op : BoolOp} {f : Expr → Option Ex} {p : Pos} : ∀ {es : List Expr} {cs : List Ex} {c : Ex}, compL f es = some cs → foldB op cs = some c → (∀ e c, f e = some c → Kp xg F X W e c) →
    PE X (.BoolOp op es p) (tE X.K xg W F c) ∧ PW X (.BoolOp op es p) (tT X.K xg W F c) ∧ ∀ i, c = .var i → PE X (.BoolOp op es p) (tE X.K xg W F (.mv i))
  | [], cs, c, h1, h2, k => by cases h1; cases h2
  | e :: es, cs, c, h1, h2, k => by
    unfold compL at h1
    cases g1 : f e with
    | none => rw [g1] at h1; cases h1
    | some x =>
      cases g2 : compL f es with
      | none => rw [g1, g2] at h1; cases h1
      | some xs =>
        rw [g1, g2] at h1
        cases h1
        have kk := k e x g1
        cases es with
        | nil =>
          cases g2
          cases h2
          refine ⟨pe_one kk.pe, ?_, fun i e => pe_one (kk.mv i e)⟩
          cases op with
          | And => exact pw_and1 kk.pt
          | Or => exact pw_or1 kk.pt
        | cons e2 es =>
          cases xs with
          | nil =>
            exfalso
            unfold compL at g2
            split at g2 <;> cases g2
          | cons x2 xs =>
            cases g3 : foldB op (x2 :: xs) with
            | none =>
              exfalso
              have : foldB op (x :: x2 :: xs) = none := by
                show (foldB op (x2 :: xs)).map _ = none
                rw [g3] <;> rfl
              rw [this] at h2; cases h2
            | some y =>
              obtain ⟨i1, i2, _⟩ := foldB_ok (p := p) g2 g3 k
              cases op with
              | And =>
                have e : foldB .And (x :: x2 :: xs) = some (.band x y) := by
                  show (foldB .And (x2 :: xs)).map _ = _
                  rw [g3] <;> rfl
                rw [e] at h2
                cases h2
                exact ⟨PE.imp (pe_andT kk.pe i1) rd_band, ⟨fun wh pins s σ H Q I q => (pw_and kk.pt i2).run wh pins s σ H Q I (rt_band σ H Q q)⟩, fun i e => by cases e⟩
              | Or =>
                have e : foldB .Or (x :: x2 :: xs) = some (.bor x y) := by
                  show (foldB .Or (x2 :: xs)).map _ = _
                  rw [g3] <;> rfl
                rw [e] at h2
                cases h2
                exact ⟨PE.imp (pe_orT kk.pe i1) rd_bor, ⟨fun wh pins s σ H Q I q => (pw_or kk.pt i2).run wh pins s σ H Q I (rt_bor σ H Q q)⟩, fun i e => by cases e⟩
theorem compO_ok {f : Expr → Option Ex} {o : Option Expr} {c : Option Ex} (h : compO f o = some c) (k : ∀ e c, f e = some c → Kp xg F X W e c) : PO X o (tO X.K xg W F c) := by
  cases o with
  | none =>
    cases h
    exact ⟨fun pins s σ H Q I q => po_none.run pins s σ H Q I (rd_none σ H Q q)⟩
  | some e =>
    unfold compO at h
    dsimp only at h
    cases g : f e with
    | none => rw [g] at h; cases h
    | some x =>
      rw [g] at h
      cases h
      exact ⟨fun pins s σ H Q I q => (po_some (k e x g).pe).run pins s σ H Q I (rd_some σ H Q q)⟩
theorem compI_ok (XO : XOk xg F cc X W) {f : Expr → Option Ex} {it : Expr} {c : It} (h : compI cc f it = some c) (hs : ∀ e c, f e = some c → isStar e = false) (k : ∀ e c, f e = some c → Kp xg F X W e c) {tg : Expr} : PI X tg it (tI X.K xg W F c) := by
  have seq : ∀ {it : Expr} {c : It}, (f it).map It.seq = some c → PI X tg it (tI X.K xg W F c) := fun {it c} h => by
    cases g : f it with
    | none => rw [g] at h; cases h
    | some x =>
      rw [g] at h
      cases h
      exact pi_seq (k it x g).pe
  unfold compI at h
  split at h
  · rename_i x p a p2
    split at h
    · rename_i hx
      subst hx
      split at h
      · rename_i hc
        rw [Bool.and_eq_true, Bool.and_eq_true] at hc
        cases g : f a with
        | none => rw [g] at h; cases h
        | some y =>
          rw [g] at h
          cases h
          have e1 : starEach [a] X.env = [(false, eval a X.env)] := star_of (hs a y g)
          have pa : PA X [a] (tCons (tE X.K xg W F y) tNil) := pa_cons (k a y g).pe pa_nil e1
          exact PI.imp (pi_range1 (isGl_ok XO hc.1) (XO.bn _ hc.2.1) pa e1) rd_rng
      · cases h
    · exact seq h
  · rename_i x p a b p2
    split at h
    · rename_i hx
      subst hx
      split at h
      · rename_i hc
        rw [Bool.and_eq_true, Bool.and_eq_true] at hc
        split at h
        · rename_i y z g1 g2
          cases h
          have e2 : starEach [b] X.env = [(false, eval b X.env)] := star_of (hs b z g2)
          have e1 : starEach [a, b] X.env = [(false, eval a X.env), (false, eval b X.env)] := by rw [star_of (hs a y g1), e2]
          have pa : PA X [a, b] (tCons (tE X.K xg W F y) (tCons (tE X.K xg W F z) tNil)) := pa_cons (k a y g1).pe (pa_cons (k b z g2).pe pa_nil e2) (star_of (hs a y g1))
          exact PI.imp (pi_range2 (isGl_ok XO hc.1) (XO.bn _ hc.2.1) pa e1 e2) rd_rng2
        · cases h
      · cases h
    · exact seq h
  · split at h
    · cases h
    · exact seq h
theorem tE_mono {K : PySem.W.Frag} {mg : Str → Option Value} {e : Ex} {σ : L2.St} {H : Hp} {Q Q' : VK} (h : tE K mg W F e σ H Q) (k : ∀ v H', Q v H' → Q' v H') : tE K mg W F e σ H Q' := by
  obtain ⟨A₀, A, ρ, fp, S, h⟩ := h
  exact ⟨A₀, A, ρ, fp, S, h.imp (fun o ρ' _ h v H' A' fp' g ok => k v H' (h v H' A' fp' g ok)) fun _ _ h => h⟩
theorem compE_ok : ∀ (n : Nat) {cc : CC} {X : Cx} {W : WX} {e : Expr} {c : Ex}, XOk xg F cc X W → compE n cc e = some c → Kp xg F X W e c
  | 0, cc, X, W, e, c, XO, h => by cases h
  | n + 1, cc, X, W, e, c, XO, h => by
    have ih : ∀ e c, compE n cc e = some c → Kp xg F X W e c := fun e c h => compE_ok n XO h
    have stars : ∀ e c, compE n cc e = some c → isStar e = false := fun e c h => compE_star h
    cases e with
    | Constant k j p =>
      unfold compE at h
      dsimp only at h
      cases g : litC k with
      | none => rw [g] at h; cases h
      | some d =>
        rw [g] at h
        cases h
        obtain ⟨hf, pe⟩ := litC_ok (X := X) g (k := j) (p := p)
        exact .of (PE.imp pe (rd_litT hf)) (fun i e => by cases e)
    | Name x p =>
      unfold compE at h
      dsimp only at h
      split at h
      · rename_i hn
        obtain ⟨n1, n2, n3⟩ := okName_ok hn
        have var : Vis X.env.scope x → (idx cc.N x).map Ex.var = some c → Kp xg F X W (.Name x p) c := fun hv h => by
          cases g : idx cc.N x with
          | none => rw [g] at h; cases h
          | some i =>
            rw [g] at h
            cases h
            have pe : PE X (.Name x p) (tVar i) := pe_var (by rw [XO.N]; exact idx_get g) hv n1 n2
            exact ⟨PE.imp pe rd_var, pt_dflt (PE.imp pe rd_var), fun j e => by cases e; exact PE.imp pe rd_mv⟩
        split at h
        · rename_i hl; exact var (.inl (by rw [XO.sc]; exact hl)) h
        · rename_i hl; exact var (.inr (.inl (by rw [XO.sc]; exact hl))) h
        · rename_i hl; exact var (.inr (.inr (by rw [XO.sc]; exact hl))) h
        · rename_i hl
          cases g : cc.gc x with
          | none => rw [g] at h; cases h
          | some d =>
            rw [g] at h
            cases h
            obtain ⟨hf, u, hm, r⟩ := XO.gc x d g
            have hg : Gl X x := by show X.env.scope.names.lookup x = _; rw [XO.sc]; exact hl
            exact .of (PE.imp (pe_glob hg hm r n1) (rd_litT hf)) (fun i e => by cases e)
        · cases h
      · cases h
    | BinOp a op b p =>
      unfold compE at h
      dsimp only at h
      split at h
      · rename_i x y g1 g2
        cases h
        exact .of (PE.imp (pe_op (op_bin op) (ih _ _ g1).pe (ih _ _ g2).pe) rd_bop) (fun i e => by cases e)
      · cases h
    | UnaryOp op a p =>
      unfold compE at h
      dsimp only at h
      cases g : compE n cc a with
      | none => rw [g] at h; cases op <;> cases h
      | some x =>
        rw [g] at h
        cases op with
        | USub =>
          cases h
          exact .of (PE.imp (pe_un un_neg (ih _ _ g).pe) rd_neg) (fun i e => by cases e)
        | Not =>
          cases h
          exact ⟨PE.imp (pe_notT (ih _ _ g).pe) rd_bnot, PT.imp (pt_not (ih _ _ g).pt) rt_bnot, fun i e => by cases e⟩
        | _ => cases h
    | BoolOp op vs p =>
      unfold compE at h
      dsimp only at h
      cases g : compL (compE n cc) vs with
      | none => rw [g] at h; cases h
      | some cs =>
        rw [g] at h
        obtain ⟨h1, h2, h3⟩ := foldB_ok (p := p) g h ih
        exact ⟨h1, h2.pt, h3⟩
    | IfExp t a b p =>
      unfold compE at h
      dsimp only at h
      split at h
      · rename_i x y z g1 g2 g3
        cases h
        exact ⟨PE.imp (pe_ifExp (ih _ _ g1).pt (ih _ _ g2).pe (ih _ _ g3).pe) rd_ife, pt_ife (ih _ _ g1).pt (ih _ _ g2).pt (ih _ _ g3).pt, fun i e => by cases e⟩
      · cases h
    | Compare a ops bs p =>
      unfold compE at h
      dsimp only at h
      split at h
      · rename_i op b
        split at h
        · cases h
        · rename_i hm
          have hm : behindInMarks op b = false := by simpa using hm
          split at h
          · rename_i o x y g0 g1 g2
            cases h
            have e := cop_ok g0
            subst e
            exact ⟨PE.imp (pe_cmpR (op_cmp XO.un o) (ih _ _ g1).pe (ih _ _ g2).pe hm) rd_cmp, PT.imp (pt_cmpR (op_cmp XO.un o) (ih _ _ g1).pe (ih _ _ g2).pe hm) (fun σ H Q q => rd_cmp σ H _ (rt_bl cmp_bl σ H Q q)), fun i e => by cases e⟩
          · cases h
      · rename_i op op' b c'
        split at h
        · cases h
        · rename_i hm
          have hm : lastMarks [op, op'] [b, c'] = false := by simpa using hm
          split at h
          · rename_i o o' x y z g0 g0' g1 g2 g3
            cases h
            have e := cop_ok g0
            subst e
            have e := cop_ok g0'
            subst e
            exact ⟨PE.imp (pe_chain (op_cmp XO.un o) (op_cmp XO.un o') (ih _ _ g1).pe (ih _ _ g2).pe (ih _ _ g3).pe hm) rd_cmp2, PT.imp (pt_chain (op_cmp XO.un o) (op_cmp XO.un o') (ih _ _ g1).pe (ih _ _ g2).pe (ih _ _ g3).pe hm) (fun σ H Q q => rd_cmp2 σ H _ (rt_bl cmp2_bl σ H Q q)), fun i e => by cases e⟩
          · cases h
      · cases h
    | Tuple es k p =>
      unfold compE at h
      dsimp only at h
      cases g : compL (compE n cc) es with
      | none => rw [g] at h; cases h
      | some cs =>
        rw [g] at h
        cases h
        exact .of (PE.imp (pe_tup (compL_ok stars g ih).1) rd_tup) (fun i e => by cases e)
    | List es p =>
      unfold compE at h
      dsimp only at h
      cases g : compL (compE n cc) es with
      | none => rw [g] at h; cases h
      | some cs =>
        rw [g] at h
        cases h
        exact .of (PE.imp (pe_lst (compL_ok stars g ih).1) rd_lst) (fun i e => by cases e)
    | Subscript a i p =>
      unfold compE at h
      dsimp only at h
      split at h
      · rename_i lo hi p2
        split at h
        · rename_i x l u g1 g2 g3
          cases h
          exact .of (PE.imp (pe_slice sl_sli (ih _ _ g1).pe (compO_ok g2 ih) (compO_ok g3 ih)) rd_slc) (fun i e => by cases e)
        · cases h
      · split at h
        · rename_i x y g1 g2
          cases h
          have hi : isSli i = false := by
            cases i <;> first | rfl | (exfalso; cases n with
              | zero => cases g2
              | succ n => unfold compE at g2; cases g2)
          exact .of (PE.imp (pe_ix ix_idx (ih _ _ g1).pe (ih _ _ g2).pe (plain_of hi)) rd_sub) (fun i e => by cases e)
        · cases h
    | Call fn es ks cpos =>
      unfold compE at h
      dsimp only at h
      split at h
      · rename_i f p
        split at h
        · rename_i hc
          rw [Bool.and_eq_true] at hc
          obtain ⟨n1, n2, n3⟩ := okName_ok hc.1
          have hg := isGl_ok XO hc.2
          split at h
          · rename_i hf
            subst hf
            split at h
            · rename_i a t p2
              split at h
              · rename_i hb
                rw [Bool.and_eq_true, Bool.and_eq_true, Bool.and_eq_true, Bool.and_eq_true] at hb
                obtain ⟨hb1, ht1, ht2, ht3, ht4⟩ := hb
                obtain ⟨T, hT⟩ := Option.isSome_iff_exists.mp ht4
                obtain ⟨t1, t2, t3⟩ := tyN_ok hT
                obtain ⟨m1, m2, m3⟩ := okName_ok ht1
                cases g : compE n cc a with
                | none => rw [g] at h; cases h
                | some x =>
                  rw [g] at h
                  cases h
                  have pn : PE X (.Name t p2) (tC (.ty T)) := pe_bltn (isGl_ok XO ht2) (XO.bn _ ht3) t3 rfl m3 m1
                  have e2 : starEach [Expr.Name t p2] X.env = [(false, eval (.Name t p2) X.env)] := rfl
                  have pa : PA X [a, .Name t p2] (tCons (tE X.K xg W F x) (tCons (tC (.ty T)) tNil)) := pa_cons (ih _ _ g).pe (pa_cons pn pa_nil e2) (star_of (stars _ _ g))
                  exact .of (PE.imp (pe_callB (isi_ok t1 t2) hg (XO.bn _ hb1) (show bootBuiltins "isinstance" = some (.builtin "isinstance") from rfl) pa n3 n1 (star_of (stars _ _ g)) rfl) rd_isi) (fun i e => by cases e)
              · cases h
            · cases h
          · split at h
            · cases h
            · rename_i hne
              cases es with
              | nil => exact (hne rfl).elim
              | cons e0 es =>
                split at h
                · rename_i ms hm
                  cases g : compL (compE n cc) (e0 :: es) with
                  | none => rw [g] at h; cases h
                  | some cs =>
                    rw [g] at h
                    cases h
                    obtain ⟨hmo, a, fd, ps, k, FO, hr, hmg, hk, hb⟩ := XO.fn f ms hm
                    have hst := compL_star stars g
                    exact .of (PE.imp (pe_callS FO hr hg hmg hk hb (fun σ => passAt XO.tk σ) (compL_ok stars g ih).1 n1 (star_of (hst _ List.mem_cons_self)) (noStar fun e he => hst e (List.mem_cons_of_mem _ he))) (rd_call hmo)) (fun i e => by cases e)
                · rename_i hm
                  split at h
                  · rename_i hb
                    rw [Bool.and_eq_true] at hb
                    cases g : compL (compE n cc) (e0 :: es) with
                    | none => rw [g] at h; cases h
                    | some cs =>
                      rw [g] at h
                      cases h
                      have hst := compL_star stars g
                      have hs1 := star_of (es := es) (env := X.env) (hst _ List.mem_cons_self)
                      have hs2 := noStar (pos := cpos) (env := X.env) fun e he => hst e (List.mem_cons_of_mem _ he)
                      have hbo := hb.2
                      unfold biOk at hbo
                      split at hbo
                      · rename_i id hv
                        exact .of (PE.imp (pe_callB (call_bi XO.calm hv) hg (XO.bn _ hb.1) hv (compL_ok stars g ih).1 n3 n1 hs1 hs2) rd_bi) (fun i e => by cases e)
                      · rename_i T hv
                        exact .of (PE.imp (pe_callTy (call_bi XO.calm hv) hg (XO.bn _ hb.1) hv (compL_ok stars g ih).1 n3 n1 hs1 hs2) rd_bi) (fun i e => by cases e)
                      · cases hbo
                  · cases h
        · cases h
      · rename_i o m apos
        split at h
        · rename_i hc
          rw [Bool.and_eq_true, Bool.and_eq_true, Bool.and_eq_true] at hc
          obtain ⟨hm, ho, hl, hf⟩ := hc
          have ho : isCall0 o = false := by simpa using ho
          split at h
          · rename_i x ys g1 g2
            cases h
            have hst := compL_star stars g2
            have pa := (compL_ok stars g2 ih).1
            have mth : ∀ {T id : String} {r : V → List V → Hp → VK → Prop}, PlainAttrs T → PySem.Slot T m id → typeOf (.builtin id) = pure (.type "method_descriptor") → MtR X id r → PE X (.Call (.Attribute o m apos) es [] cpos) (tBM X.K T r (tE X.K xg W F x) (tEs X.K xg W F ys)) := by
              intro T id r p1 p2 p3 p4
              cases es with
              | nil =>
                have := pe_bm0 (apos := apos) (cpos := cpos) p1 p2 p3 p4 (ih _ _ g1).pe (base_of ho) hl
                refine PE.imp this fun σ H Q q => ?_
                cases g2
                refine tE_mono q fun v H1 ⟨q1, q2⟩ => ⟨q1, rd_nil σ H1 _ q2⟩
              | cons e0 es =>
                refine pe_bm p1 p2 p3 p4 (ih _ _ g1).pe pa (base_of ho) ?_ hl (star_of (hst _ List.mem_cons_self)) (noStar fun e he => hst e (List.mem_cons_of_mem _ he))
                rw [Bool.and_eq_true, Bool.and_eq_true]
                refine ⟨⟨noStar2 hst, rfl⟩, ?_⟩
                simpa using hf
            unfold mthOk at hm
            rw [Bool.or_eq_true, Bool.or_eq_true] at hm
            rcases hm with hm | hm | hm
            · have hm := of_decide_eq_true hm
              subst hm
              exact .of (PE.imp (mth PySem.F.plainAttrs_str PySem.F.slot_str_join PySem.F.type_str_join mt_joinX) (rd_mth (by decide +kernel))) (fun i e => by cases e)
            · have hm := of_decide_eq_true hm
              subst hm
              exact .of (PE.imp (mth PySem.F.plainAttrs_list PySem.F.slot_list_append PySem.F.type_list_append mt_appendX) (rd_mut (by decide +kernel))) (fun i e => by cases e)
            · have hm := of_decide_eq_true hm
              subst hm
              exact .of (PE.imp (mth PySem.F.plainAttrs_list PySem.F.slot_list_pop PySem.F.type_list_pop mt_popX) (rd_mut (by decide +kernel))) (fun i e => by cases e)
          · cases h
        · cases h
      · cases h
    | ListComp elt gs scope p =>
      unfold compE at h
      dsimp only at h
      split at h
      · rename_i tg iter ifs
        split at h
        · rename_i hc
          rw [Bool.and_eq_true] at hc
          have hset : isSet iter = false := by simpa using hc.2
          split at h
          · rename_i t it cnd c0 g1 g2 g3 g4
            split at h
            · rename_i ht
              cases h
              have BO : BlkOk X.N X.env.scope scope (ownP cc.N scope) := by
                rw [XO.N, XO.sc]
                exact blkOk_by hc.1
              have ht : ∀ j ∈ tgN t, j ∈ (ownP cc.N scope).map (·.2) := fun j hj => by
                have := List.all_eq_true.mp ht j hj
                simpa using this
              refine .of (PE.imp (pe_lc XO.calm XO.nd (compI_ok XO g2 stars ih) BO (g := gT X.K t) (tt := tC1 X.K xg F cnd) (te := tE X.K xg NoW F c0) (fun s H C cl fp => ?_) (fun s H C cl fp => ?_) (fun s H C cl fp => ?_) (folded_of hset)) (rd_lc ht)) (fun i e => by cases e)
              · exact compT_ok (XO.blk s H scope cl C fp) g1
              · split at g3
                · cases g3; exact pts_nil
                · rename_i cx
                  cases g5 : compE n (cc.blk scope) cx with
                  | none => rw [g5] at g3; cases g3
                  | some y =>
                    rw [g5] at g3
                    cases g3
                    exact pts_one (compE_ok n (XO.blk s H scope cl C fp) g5).pt
                · cases g3
              · exact (compE_ok n (XO.blk s H scope cl C fp) g4).pe
            · cases h
          · cases h
        · cases h
      · cases h
    | Dict ks vs p =>
      cases ks with
      | nil =>
        cases vs with
        | nil =>
          unfold compE at h
          cases h
          exact .of (PE.imp pe_dnewK rd_dct0) (fun i e => by cases e)
        | cons _ _ => unfold compE at h; cases h
      | cons _ _ => unfold compE at h; cases h
    | _ => unfold compE at h; cases h
end
end Rw

set_option Elab.async false
set_option linter.all false
set_option maxRecDepth 100000
/-! RwQ: statements: from the text's trees to the core syntax; each keeps its reading. -/
namespace Rw
open PySem PySem.Spec PyProof.Rows L2
/-! ### an own error class, made without arguments -/
theorem pmk_own0 {X : Cx} {C : Addr} {bmB : List Value} {B newId initId : String} {x : Str} {p pos : Pos} (F : ExcBaseFacts B newId initId bmB) (q : PySem.W.excIn X.K C bmB newId = true) (gC : X.mg x = some (.ref C)) (kC : PySem.W.keepIn X.K (.ref C) = true) (r : Raises X (.ref C)) (hg : Gl X x)
    (hdb : (x == ("__debug__" : Str)) = false) : PMk X (.Call (.Name x p) [] [] pos) (fun _ H Q => Q (.ref C) none H) := by
  intro pins s σ H Q I h
  refine wpAny_Call_Name_kw (ld_glob I hg gC ?_ hdb)
  refine PySem.W.callWith_K0 I.kIn kC ?_
  obtain ⟨bm, N, nm, qn, bs, hdct, sn, sub, ab, col, dd, k0, k1, k2, k3, k5, mN, hC, hN, hni, T⟩ := exc_obj I.kIn q
  show wpAny _ _ (call (.ref C) []) _ _ _
  refine wpAny_call_exc_subT F T hC hN hni (fun h' e hm => ?_) (by show 0 ≤ sizeLine; omega)
  exact mk_of I hm r h (I.hok.gone hm.new)
/-! ### the compiler -/
def compR (n : Nat) (cc : CC) (e : Expr) : Option Ex := match e with
  | .Tuple es _ _ => (compL (compE n cc) es).map fun cs => .tup (mvLast cs)
  | .List es _ => (compL (compE n cc) es).map fun cs => .lst (mvLast cs)
  | e => (compE n cc e).map fun c => match c with
    | .var i => .mv i
    | c => c
def bkOf (sc : Scope) : ScopeKind := if sc.kind.isAnnotationScope then .function else sc.kind
def swN (sc : Scope) (ts : List Expr) : List Str := ts.filterMap fun
  | .Name id pos => if sc.names.lookup id == some .local && pos.line == (ts.head?.map (·.pos.line)).getD 0 then some id else none
  | _ => none
def swB1 (sc : Scope) (ts vs : List Expr) : Bool := !(ts.length == 2 || ts.length == 3) || vs.length != ts.length || bkOf sc != .function
def swB3 (sc : Scope) (ts : List Expr) : Bool := (swN sc ts).length != ts.length || (swN sc ts).eraseDups.length != (swN sc ts).length
/-- which names a display's items are stored to from the right -/
def swp (sc : Scope) (ts vs : List Expr) : Option (Option (List Str)) :=
  if swB1 sc ts vs then some none else if vs.any isStar then some none else if swB3 sc ts then some none else if vs.all (foldedForSure 8) then some none else if vs.all (constantsAlone 8) then none else some (some (swN sc ts))
def isLoc (cc : CC) (x : Str) : Bool := match cc.sc.names.lookup x with
  | some .local => true
  | _ => false
def compA (n : Nat) (cc : CC) (tg e : Expr) : Option St := match tg with
  | .Subscript o i _ => if isComp e || isSli i then none else (match compE n cc e, compE n cc o, compE n cc i with
    | some x, some y, some z => some (.sub y z x)
    | _, _, _ => none)
  | .Name y py => (match e with
    | .ListComp elt gs scope pos => if isLoc cc y && (py.line == pos.line && !(scope.names.any fun (n, k) => n == y && (k == .local || k == .cell))) then (match idx cc.N y, compE n cc (.ListComp elt gs scope pos) with
        | some i, some c => some (.asg (.nm i) c)
        | _, _ => none) else none
    | e => if isComp e then none else (match compT cc n (.Name y py), compE n cc e with
      | some t, some c => some (.asg t c)
      | _, _ => none))
  | .Tuple ts k pt => (match e with
    | .Tuple vs k2 pt2 => (match swp cc.sc ts vs with
      | some none => (match compT cc n (.Tuple ts k pt), compE n cc (.Tuple vs k2 pt2) with
        | some t, some c => some (.asg t c)
        | _, _ => none)
      | some (some nm) => (match ts, vs with
        | [.Name x _, .Name y _], [a, b] => if nm = [x, y] ∧ isLoc cc x ∧ isLoc cc y then (match idx cc.N x, idx cc.N y, compL (compE n cc) [a, b] with
            | some i, some j, some cs => if i ≠ j then some (.asg (.tp [.nm i, .nm j]) (.tup cs)) else none
            | _, _, _ => none) else none
        | [.Name x _, .Name y _, .Name z _], [a, b, c] => if nm = [x, y, z] ∧ isLoc cc x ∧ isLoc cc y ∧ isLoc cc z then (match idx cc.N x, idx cc.N y, idx cc.N z, compL (compE n cc) [a, b, c] with
            | some i, some j, some l, some cs => if i ≠ j ∧ i ≠ l ∧ j ≠ l then some (.asg (.tp [.nm i, .nm j, .nm l]) (.tup cs)) else none
            | _, _, _, _ => none) else none
        | _, _ => none)
      | none => none)
    | e => if isComp e then none else (match compT cc n (.Tuple ts k pt), compE n cc e with
      | some t, some c => some (.asg t c)
      | _, _ => none))
  | _ => none
/-- an except clause: name = constant -/
def compH (cc : CC) : ExceptHandler → Option (Str × Nat × D)
  | .ExceptHandler (some (.Name x _)) none [.Assign [.Name y _] (.Constant k _ _) _] _ => if okName x && (isGl cc x && (cc.xc x && isLoc cc y)) then (match idx cc.N y, litC k with
    | some i, some d => some (x, i, d)
    | _, _ => none) else none
  | _ => none
def compHs (cc : CC) : List ExceptHandler → Option (List (Str × Nat × D))
  | [] => some []
  | h :: hs => match compH cc h, compHs cc hs with
    | some x, some xs => some (x :: xs)
    | _, _ => none
def compSL (f : Stmt → Option St) : List Stmt → Option (List St)
  | [] => some []
  | s :: ss => match f s, compSL f ss with
    | some c, some cs => some (c :: cs)
    | _, _ => none
mutual
/-- without what is let go of -/
def strS : St → St
  | .whl _ c b => .whl [] c (strSs b)
  | .fr _ t it b => .fr [] t it (strSs b)
  | .ifs c a b => .ifs c (strSs a) (strSs b)
  | .tryx b hs => .tryx (strSs b) hs
  | s => s
def strSs : List St → List St
  | [] => []
  | s :: ss => strS s :: strSs ss
end
def leaf : St → Bool
  | .whl .. | .fr .. | .ifs .. | .tryx .. => false
  | _ => true
theorem strS_leaf {s c : St} (h : leaf c = true) (e : strS s = c) : s = c := by
  cases s <;> simp only [strS] at e <;> first | exact e | (subst e; cases h)
theorem strS_ifs {s : St} {c : Ex} {a b : List St} (e : strS s = .ifs c a b) : ∃ a' b', s = .ifs c a' b' ∧ strSs a' = a ∧ strSs b' = b := by
  cases s <;> simp [strS] at e
  obtain ⟨rfl, h1, h2⟩ := e
  exact ⟨_, _, rfl, h1, h2⟩
theorem strS_whl {s : St} {c : Ex} {b : List St} (e : strS s = .whl [] c b) : ∃ ks b', s = .whl ks c b' ∧ strSs b' = b := by
  cases s <;> simp [strS] at e
  obtain ⟨rfl, h1⟩ := e
  exact ⟨_, _, rfl, h1⟩
theorem strS_fr {s : St} {t : Tg} {it : It} {b : List St} (e : strS s = .fr [] t it b) : ∃ ks b', s = .fr ks t it b' ∧ strSs b' = b := by
  cases s <;> simp [strS] at e
  obtain ⟨rfl, rfl, h1⟩ := e
  exact ⟨_, _, rfl, h1⟩
theorem strS_try {s : St} {b : List St} {hs : List (Str × Nat × D)} (e : strS s = .tryx b hs) : ∃ b', s = .tryx b' hs ∧ strSs b' = b := by
  cases s <;> simp [strS] at e
  obtain ⟨h1, rfl⟩ := e
  exact ⟨_, rfl, h1⟩
def compS : Nat → CC → Stmt → Option St
  | 0, _, _ => none
  | n + 1, cc, s => match s with
    | .Pass _ => some .pass
    | .Break _ => some .brk
    | .Continue _ => some .cont
    | .Expr e _ => (match e with
      | .Constant (.str _) _ _ => some .pass
      | e => if isComp e then none else (compE n cc e).map .ex)
    | .Return v _ => (match v with
      | none => some .retN
      | some e => (compR n cc e).map .ret)
    | .If c a b _ => (match compE n cc c, compSL (compS n cc) a, compSL (compS n cc) b with
      | some x, some y, some z => some (.ifs x y z)
      | _, _, _ => none)
    | .While c b [] _ => (match compE n cc c, compSL (compS n cc) b with
      | some x, some y => some (.whl [] x y)
      | _, _ => none)
    | .For tg it b [] _ => if isSet it then none else (match compT cc n tg, compI cc (compE n cc) it, compSL (compS n cc) b with
      | some t, some i, some y => some (.fr [] t i y)
      | _, _, _ => none)
    | .Assign [tg] e _ => (match compA n cc tg e with
      | some c => if leaf c then some c else none
      | none => none)
    | .Raise (some (.Call (.Name x _) [] [] _)) none _ => if okName x && (isGl cc x && cc.xc x) then some (.rse x) else none
    | .Try b (h :: hs) [] [] _ => (match compSL (compS n cc) b, compHs cc (h :: hs) with
      | some x, some y => some (.tryx x y)
      | _, _ => none)
    | _ => none
/-- a context that statements may run in -/
structure XSk (xg : Str → Option Value) (F : Fn) (sub : Str → Str → Option Bool) (cc : CC) (X : Cx) (W : WX) : Prop where
  x : XOk xg F cc X W
  po : PassesOwn (model X.prog X.w) X.A X.env X.xe
  stk : X.stack = X.env :: X.outer
  fr : X.env.frame = some X.env.locals
  knd : cc.sc.kind = .function
  loc : ∀ y, cc.sc.names.lookup y = some .local → cc.st y = true
  xc : ∀ x, cc.xc x = true → ∃ (C : Addr) (bmB : List Value) (B newId initId : String), ExcBaseFacts B newId initId bmB ∧ PySem.W.excIn X.K C bmB newId = true ∧ X.mg x = some (.ref C) ∧ PySem.W.keepIn X.K (.ref C) = true ∧ Raises X (.ref C) ∧ xg x = some (.ref C)
  sub : ∀ c k r, sub c k = some r → ∀ cls ck, xg c = some cls → xg k = some ck → PySem.W.exmOne X.K cls ck = some r
section
variable {xg : Str → Option Value} {F : Fn} {sub : Str → Str → Option Bool} {cc : CC} {X : Cx} {W : WX} {N : Nat}
theorem XSk.tr (h : XSk xg F sub cc X W) {W' : WX} {pn : List (Addr × Obj)} {xe : Value → Shared → Prop} (tk : Takes (X.tr pn xe) W') (po : PassesOwn (model X.prog X.w) X.A X.env xe) : XSk xg F sub cc (X.tr pn xe) W' where
  x := ⟨h.x.N, h.x.nd, h.x.sc, h.x.calm, tk, h.x.un, h.x.st, h.x.gc, h.x.bn, h.x.fn⟩
  po := po
  stk := h.stk
  fr := h.fr
  knd := h.knd
  loc := h.loc
  xc := h.xc
  sub := h.sub
theorem isLoc_ok (XO : XOk xg F cc X W) {x : Str} (h : isLoc cc x = true) : X.env.scope.names.lookup x = some .local := by
  unfold isLoc at h
  rw [XO.sc]
  split at h
  · assumption
  · cases h
theorem sole_of {tg e : Expr} {l : Nat} {env : PySem.Env} (h : isComp e = false) : swapsWithSole [tg] e l env = pure false := by
  cases e <;> first | rfl | cases h
theorem swaps_of {e : Expr} {t : Option Expr} {l : Nat} {env : PySem.Env} (h : isComp e = false) : swapsWith e t l env = pure false := by
  cases e <;> first | rfl | cases h
theorem stores_sub {o i e : Expr} {p : Pos} {env : PySem.Env} : swappedStores [.Subscript o i p] e env = pure none := rfl
theorem stores_name {x : Str} {e : Expr} {p : Pos} {env : PySem.Env} : swappedStores [.Name x p] e env = pure none := rfl
def isTup : Expr → Bool
  | .Tuple .. => true
  | _ => false
theorem stores_tup {ts : List Expr} {e : Expr} {k : Nat} {p : Pos} {env : PySem.Env} (h : isTup e = false) : swappedStores [.Tuple ts k p] e env = pure none := by
  cases e <;> first | rfl | cases h
theorem compR_ok (XO : XOk xg F cc X W) {n : Nat} {e : Expr} {c : Ex} (h : compR n cc e = some c) : PE X e (tE X.K xg W F c) := by
  have ih : ∀ e c, compE n cc e = some c → Kp xg F X W e c := fun e c h => compE_ok n XO h
  have stars : ∀ e c, compE n cc e = some c → isStar e = false := fun e c h => compE_star h
  have dflt : ∀ {e : Expr}, (compE n cc e).map (fun c => match c with
    | .var i => Ex.mv i
    | c => c) = some c → PE X e (tE X.K xg W F c) := fun {e} h => by
    cases g : compE n cc e with
    | none => rw [g] at h; cases h
    | some y =>
      rw [g] at h
      have kk := ih e y g
      cases y <;> first | (cases h; exact kk.mv _ rfl) | (cases h; exact kk.pe)
  unfold compR at h
  split at h
  · rename_i es k p
    cases g : compL (compE n cc) es with
    | none => rw [g] at h; cases h
    | some cs =>
      rw [g] at h
      cases h
      exact PE.imp (pe_tup (compL_ok stars g ih).2) rd_tup
  · rename_i es p
    cases g : compL (compE n cc) es with
    | none => rw [g] at h; cases h
    | some cs =>
      rw [g] at h
      cases h
      exact PE.imp (pe_lst (compL_ok stars g ih).2) rd_lst
  · exact dflt h
theorem swp_ok {ts vs : List Expr} {r : Option (List Str)} {k k2 : Nat} {pt pt2 : Pos} {env : PySem.Env} (h : swp env.scope ts vs = some r) : swappedStores [.Tuple ts k pt] (.Tuple vs k2 pt2) env = pure r := by
  have es : (vs.any fun | .Starred .. => true | _ => false) = vs.any isStar := by
    congr 1
  unfold swp at h
  split at h
  · rename_i h1
    cases h
    exact if_pos h1
  · rename_i h1
    refine Eq.trans (if_neg h1) ?_
    split at h
    · rename_i h2
      cases h
      exact if_pos (es.trans h2)
    · rename_i h2
      refine Eq.trans (if_neg fun z => h2 (es.symm.trans z)) ?_
      split at h
      · rename_i h3
        cases h
        exact if_pos h3
      · rename_i h3
        refine Eq.trans (if_neg h3) ?_
        split at h
        · rename_i h4
          cases h
          exact if_pos h4
        · rename_i h4
          refine Eq.trans (if_neg h4) ?_
          split at h
          · cases h
          · rename_i h5
            cases h
            exact if_neg h5
/-- a display whose items are stored to names -/
theorem rs_disp {ts : List Tg} {es : List Ex} {K : PySem.W.Frag} : ∀ D σ H, tS K xg W F sub N (.asg (.tp ts) (.tup es)) D σ H → tEs K xg W F es σ H fun vs H1 => gTs K ts vs σ H1 D.nx := fun D σ H ⟨A₀, A, ρ, fp, S, h⟩ => by
  rw [evS, evE] at h
  have h : oAll K xg A₀ A fp σ H ρ W D ((evEs F es ρ).out fun os ρ1 => ((match if okPts os es then aliases ρ1 os else none with
    | some (ds, b, ρ2) => if ds.length ≤ line then Rr.ok (if b then Opd.fz (.tup ds) else .ow (.tup ds)) ρ2 else .stuck
    | none => .stuck).out fun o ρ1 => match alias_ ρ1 o with
      | some (o', ρ2) => (match asgT (.tp ts) o'.isFz o'.val ρ2 with | some ρ3 => .nx ρ3 | none => .stuck)
      | none => .stuck)) := by
    cases he : evEs F es ρ with
    | ok os ρ1 => rw [he] at h; exact h
    | exc x ρ1 => rw [he] at h; exact h
    | stuck => rw [he] at h; exact h
  refine ⟨A₀, A, ρ, fp, S, (out_all (evEs_pin F es ρ) h).imp (fun os ρ1 _ ⟨hp, h⟩ => ?_) fun _ _ h => h⟩
  split at h
  · rename_i ds b ρ2 ha
    obtain ⟨hk, ha⟩ := if_some ha
    refine ⟨hk, fun vs H1 A1 fp1 q g rs nd hq => ?_⟩
    obtain ⟨fp2, g2, l, hb, _⟩ := als g rs ha
    have pn := hp.trans (aliases_pin ha)
    split at h
    · rename_i hl
      have fin : ∀ {o : Opd}, alias_ ρ2 o = some (o, ρ2) → o.val = .tup ds → (o.isFz = true → q = []) → oAll K xg A₀ A fp σ H ρ W D ((Rr.ok o ρ2).out fun o ρ1 => match alias_ ρ1 o with
          | some (o', ρ2) => (match asgT (.tp ts) o'.isFz o'.val ρ2 with | some ρ3 => .nx ρ3 | none => .stuck)
          | none => .stuck) → gTs K ts vs σ H1 D.nx := fun {o} e1 e2 e3 h => by
        have h : oAll K xg A₀ A fp σ H ρ W D (match alias_ ρ2 o with
          | some (o', ρ2) => (match asgT (.tp ts) o'.isFz o'.val ρ2 with | some ρ3 => .nx ρ3 | none => .stuck)
          | none => .stuck) := h
        rw [e1] at h
        dsimp only at h
        rw [e2, asgT] at h
        split at h
        · rename_i ρ3 hg
          refine gTs_ok ts g2.si l nd (fun a z => ⟨(hq a z).1, fun y => (hq a z).2 (S.sub a y)⟩) e3 hg fun σ' fp3 T => h σ' H1 fp3 ⟨?_, ⟨fun _ h => h, g2.tr.k, fun a b => g2.tr.b a (T.b a ?_)⟩, fun j hj => T.pin j (pn.keep hj), pn.trans (asgTs_pin ts hg)⟩
          · exact T.si.drop S.sub fun a hA => ⟨g2.tr.a a hA, fun z => (hq a z).2 hA⟩
          · exact b.imp (fun hA => ⟨g2.tr.a a hA, fun z => (hq a z).2 hA⟩) id
        · exact h.elim
      cases b with
      | true => exact fin (o := .fz (.tup ds)) rfl rfl (fun _ => hb rfl) h
      | false => exact fin (o := .ow (.tup ds)) rfl rfl (fun z => by cases z) h
    · exact h.elim
  · exact h.elim
theorem rs_par {i j : Nat} {es : List Ex} {K : PySem.W.Frag} : ∀ D σ H, tS K xg W F sub N (.asg (.tp [.nm i, .nm j]) (.tup es)) D σ H → tPar i j (tEs K xg W F es) D σ H := fun D σ H q => by
  obtain ⟨A₀, A, ρ, fp, S, h⟩ := rs_disp D σ H q
  refine ⟨A₀, A, ρ, fp, S, h.imp (fun os ρ1 _ h => ⟨h.1, fun vs H' A' fp' q g r nd hq => ?_⟩) fun _ _ h => h⟩
  obtain ⟨v, r, rfl, w, r', rfl, rfl, k⟩ := h.2 vs H' A' fp' q g r nd hq
  exact ⟨v, w, rfl, k⟩
theorem rs_par3 {i j l : Nat} {es : List Ex} {K : PySem.W.Frag} : ∀ D σ H, tS K xg W F sub N (.asg (.tp [.nm i, .nm j, .nm l]) (.tup es)) D σ H → tPar3 i j l (tEs K xg W F es) D σ H := fun D σ H q => by
  obtain ⟨A₀, A, ρ, fp, S, h⟩ := rs_disp D σ H q
  refine ⟨A₀, A, ρ, fp, S, h.imp (fun os ρ1 _ h => ⟨h.1, fun vs H' A' fp' q g r nd hq => ?_⟩) fun _ _ h => h⟩
  obtain ⟨v, r, rfl, w, r', rfl, u, r'', rfl, rfl, k⟩ := h.2 vs H' A' fp' q g r nd hq
  exact ⟨v, w, u, rfl, k⟩
theorem PS.imp {X : Cx} {s : Stmt} {t t' : TS} (h : PS X s t) (i : ∀ D σ H, t' D σ H → t D σ H) : PS X s t' := ⟨fun pins s σ H D I q => h.run pins s σ H D I (i D σ H q)⟩
theorem PSs.imp {X : Cx} {s : List Stmt} {t t' : TS} (h : PSs X s t) (i : ∀ D σ H, t' D σ H → t D σ H) : PSs X s t' := ⟨fun pins s σ H D I q => h.run pins s σ H D I (i D σ H q)⟩
theorem compA_ok (XS : XSk xg F sub cc X W) {n : Nat} {tg e : Expr} {c : St} {p : Pos} (h : compA n cc tg e = some c) : PS X (.Assign [tg] e p) (tS X.K xg W F sub N c) := by
  have XO := XS.x
  have ih : ∀ e c, compE n cc e = some c → Kp xg F X W e c := fun e c h => compE_ok n XO h
  have stars : ∀ e c, compE n cc e = some c → isStar e = false := fun e c h => compE_star h
  cases tg with
  | Subscript o i p2 =>
    unfold compA at h
    dsimp only at h
    split at h
    · cases h
    · rename_i hc
      rw [Bool.or_eq_true, not_or] at hc
      have hc1 : isComp e = false := by simpa using hc.1
      have hc2 : isSli i = false := by simpa using hc.2
      split at h
      · rename_i x y z g1 g2 g3
        cases h
        have ha : ∀ v, assign (.Subscript o i p2) X.env v = (do
          let ov ← holding [v] (eval o X.env)
          let iv ← holding [v, ov] (eval i X.env)
          standAt p2
          holding [v, ov, iv] (setItem ov iv v)
          release [v, ov, iv] []) := fun v => by
            cases i <;> first | rfl | cases hc2
        exact PS.imp (ps_asg (ih _ _ g1).pe (pg_sub (ih _ _ g2).pe (ih _ _ g3).pe set_list ha) (sole_of hc1) stores_sub (by rw [asg_of rfl] <;> rfl)) rs_sub
      · cases h
  | Name y py =>
    have dflt : ∀ {e : Expr} {c : St}, (if isComp e then none else (match compT cc n (.Name y py), compE n cc e with
      | some t, some c => some (St.asg t c)
      | _, _ => none)) = some c → PS X (.Assign [.Name y py] e p) (tS X.K xg W F sub N c) := fun {e c} h => by
      split at h
      · cases h
      · rename_i hc
        have hc : isComp e = false := by simpa using hc
        split at h
        · rename_i t x g1 g2
          cases h
          exact PS.imp (ps_asg (ih _ _ g2).pe (compT_ok XO g1) (sole_of hc) stores_name (by rw [asg_of rfl] <;> rfl)) rs_asg
        · cases h
    cases e with
    | ListComp elt gs scope lpos =>
      unfold compA at h
      dsimp only at h
      split at h
      · rename_i hc
        rw [Bool.and_eq_true, Bool.and_eq_true] at hc
        have hl := isLoc_ok XO hc.1
        split at h
        · rename_i i cx g1 g2
          cases h
          have hN : X.N[i]? = some y := by rw [XO.N]; exact idx_get g1
          cases n with
          | zero => cases g2
          | succ n =>
            unfold compE at g2
            dsimp only at g2
            split at g2
            · rename_i tg iter ifs
              split at g2
              · rename_i hb
                rw [Bool.and_eq_true] at hb
                have hset : isSet iter = false := by simpa using hb.2
                split at g2
                · rename_i t it cnd c0 k1 k2 k3 k4
                  split at g2
                  · rename_i ht
                    cases g2
                    have BO : BlkOk X.N X.env.scope scope (ownP cc.N scope) := by
                      rw [XO.N, XO.sc]
                      exact blkOk_by hb.1
                    have ht : ∀ j ∈ tgN t, j ∈ (ownP cc.N scope).map (·.2) := fun j hj => by
                      have := List.all_eq_true.mp ht j hj
                      simpa using this
                    have sw : swapsWith (.ListComp elt [⟨tg, iter, ifs, 0⟩] scope lpos) (some (.Name y py)) p.line X.env = pure true :=
                      sw_true (by rw [XO.sc]; exact XS.knd) hl hc.2.1 (by simpa using hc.2.2)
                    refine PS.imp (ps_setLc XO.calm XO.nd hN hl sw (compI_ok XO k2 (fun e c h => compE_star h) (fun e c h => compE_ok n XO h)) BO (g := gT X.K t) (tt := tC1 X.K xg F cnd) (te := tE X.K xg NoW F c0) (fun s H C cl fp => ?_) (fun s H C cl fp => ?_) (fun s H C cl fp => ?_) (folded_of hset)) (fun D σ H q => rd_lc ht σ H _ (rs_asg D σ H q))
                    · exact compT_ok (XO.blk s H scope cl C fp) k1
                    · split at k3
                      · cases k3; exact pts_nil
                      · rename_i cx
                        cases g5 : compE n (cc.blk scope) cx with
                        | none => rw [g5] at k3; cases k3
                        | some y =>
                          rw [g5] at k3
                          cases k3
                          exact pts_one (compE_ok n (XO.blk s H scope cl C fp) g5).pt
                      · cases k3
                    · exact (compE_ok n (XO.blk s H scope cl C fp) k4).pe
                  · cases g2
                · cases g2
              · cases g2
            · cases g2
        · cases h
      · cases h
    | _ => exact dflt h
  | Tuple ts k pt =>
    have dflt : ∀ {e : Expr} {c : St}, isTup e = false → (if isComp e then none else (match compT cc n (.Tuple ts k pt), compE n cc e with
      | some t, some c => some (St.asg t c)
      | _, _ => none)) = some c → PS X (.Assign [.Tuple ts k pt] e p) (tS X.K xg W F sub N c) := fun {e c} ht h => by
      split at h
      · cases h
      · rename_i hc
        have hc : isComp e = false := by simpa using hc
        split at h
        · rename_i t x g1 g2
          cases h
          exact PS.imp (ps_asg (ih _ _ g2).pe (compT_ok XO g1) (sole_of hc) (stores_tup ht) (by rw [asg_of rfl] <;> rfl)) rs_asg
        · cases h
    cases e with
    | Tuple vs k2 pt2 =>
      unfold compA at h
      dsimp only at h
      split at h
      · rename_i hsw
        split at h
        · rename_i t x g1 g2
          cases h
          exact PS.imp (ps_asg (ih _ _ g2).pe (compT_ok XO g1) rfl (swp_ok (by rw [XO.sc]; exact hsw)) (by rw [asg_of rfl] <;> rfl)) rs_asg
        · cases h
      · rename_i nm hsw
        have hsw' : ∀ {k2 pt2}, swappedStores [.Tuple ts k pt] (.Tuple vs k2 pt2) X.env = pure (some nm) := swp_ok (by rw [XO.sc]; exact hsw)
        split at h
        · rename_i x px y py a b
          split at h
          · rename_i hc
            obtain ⟨rfl, hx, hy⟩ := hc
            split at h
            · rename_i i j cs g1 g2 g3
              split at h
              · rename_i hij
                cases h
                exact PS.imp (ps_par XO.calm XO.nd (by rw [XO.N]; exact idx_get g1) (by rw [XO.N]; exact idx_get g2) hij (isLoc_ok XO hx) (isLoc_ok XO hy) (compL_ok stars g3 ih).1 hsw' rfl) rs_par
              · cases h
            · cases h
          · cases h
        · rename_i x px y py z pz a b c'
          split at h
          · rename_i hc
            obtain ⟨rfl, hx, hy, hz⟩ := hc
            split at h
            · rename_i i j l cs g1 g2 g3 g4
              split at h
              · rename_i hij
                cases h
                exact PS.imp (ps_par3 XO.calm XO.nd (by rw [XO.N]; exact idx_get g1) (by rw [XO.N]; exact idx_get g2) (by rw [XO.N]; exact idx_get g3) hij.1 hij.2.1 hij.2.2 (isLoc_ok XO hx) (isLoc_ok XO hy) (isLoc_ok XO hz) (compL_ok stars g4 ih).1 hsw' rfl) rs_par3
              · cases h
            · cases h
          · cases h
        · cases h
      · cases h
    | _ => exact dflt rfl h
  | _ => unfold compA at h; cases h
theorem compHs_ok (XS : XSk xg F sub cc X W) : ∀ {hs : List ExceptHandler} {l : List (Str × Nat × D)}, compHs cc hs = some l → HdsOk X hs (hsL xg l) ∧ ∀ h ∈ l, flat h.2.2 = true ∧ ∃ c, xg h.1 = some c
  | [], l, h => by cases h; exact ⟨.nil, fun _ z => nomatch z⟩
  | hd :: hs, l, h => by
    unfold compHs at h
    cases g1 : compH cc hd with
    | none => rw [g1] at h; cases h
    | some x =>
      cases g2 : compHs cc hs with
      | none => rw [g1, g2] at h; cases h
      | some xs =>
        rw [g1, g2] at h
        cases h
        obtain ⟨i1, i2⟩ := compHs_ok XS g2
        unfold compH at g1
        split at g1
        · rename_i x p y py k kk pk pa ph
          split at g1
          · rename_i hc
            rw [Bool.and_eq_true, Bool.and_eq_true, Bool.and_eq_true] at hc
            obtain ⟨hn, hgl, hxc, hloc⟩ := hc
            obtain ⟨C, bmB, B, newId, initId, f1, f2, f3, f4, f5, f6⟩ := XS.xc x hxc
            split at g1
            · rename_i i d e1 e2
              cases g1
              obtain ⟨hf, _⟩ := litC_ok (X := X) e2 (k := 0) (p := pk)
              refine ⟨?_, fun h hh => ?_⟩
              · have e3 : (xg x).getD .none = .ref C := by rw [f6] <;> rfl
                show HdsOk X _ (((xg x).getD .none, fun _ _ _ => tAsg (tC (dV d)) (gName i)) :: hsL xg xs)
                rw [e3]
                refine .cons ⟨isGl_ok XS.x hgl, (okName_ok hn).1, .inl f3⟩ (fun a oe cls dd pn _ _ => ?_) i1
                have hl := isLoc_ok XS.x hloc
                refine pss_one (ps_set (X := X.suite a ((a, oe) :: pn)) XS.x.nd (by show X.N[i]? = _; rw [XS.x.N]; exact idx_get e1) (.inl hl) ?_ rfl (.inr hl))
                exact (litC_ok (X := X.suite a ((a, oe) :: pn)) e2).2
              · rcases List.mem_cons.mp hh with z | z
                · rw [z]; exact ⟨hf, _, f6⟩
                · exact i2 h z
            · cases g1
          · cases g1
        · cases g1
theorem compSL_ok {f : Stmt → Option St} (k : ∀ s c c1, f s = some c → strS c1 = c → PS X s (tS X.K xg W F sub N c1)) : ∀ {ss : List Stmt} {cs ds : List St}, compSL f ss = some cs → strSs ds = cs → PSs X ss (tSs X.K xg W F sub N ds)
  | [], cs, ds, h, e => by
    cases h
    cases ds with
    | nil => exact PSs.imp pss_nil rs_nil
    | cons d ds => rw [strSs] at e; cases e
  | s :: ss, cs, ds, h, e => by
    unfold compSL at h
    cases g1 : f s with
    | none => rw [g1] at h; cases h
    | some c =>
      cases g2 : compSL f ss with
      | none => rw [g1, g2] at h; cases h
      | some cs' =>
        rw [g1, g2] at h
        cases h
        cases ds with
        | nil => rw [strSs] at e; cases e
        | cons d ds =>
          rw [strSs] at e
          obtain ⟨e1, e2⟩ := List.cons.inj e
          exact PSs.imp (pss_cons (k s c d g1 e1) (compSL_ok k g2 e2)) rs_cons
theorem compS_ok : ∀ (n : Nat) {cc : CC} {X : Cx} {W : WX} {s : Stmt} {c c1 : St}, XSk xg F sub cc X W → compS n cc s = some c → strS c1 = c → PS X s (tS X.K xg W F sub N c1)
  | 0, cc, X, W, s, c, c1, XS, h, e0 => by cases h
  | n + 1, cc, X, W, s, c, c1, XS, h, e0 => by
    have XO := XS.x
    have ihE : ∀ e c, compE n cc e = some c → Kp xg F X W e c := fun e c h => compE_ok n XO h
    have stars : ∀ e c, compE n cc e = some c → isStar e = false := fun e c h => compE_star h
    have ih : ∀ s c c1, compS n cc s = some c → strS c1 = c → PS X s (tS X.K xg W F sub N c1) := fun s c c1 h e => compS_ok n XS h e
    unfold compS at h
    split at h
    · cases h; cases strS_leaf rfl e0; exact PS.imp ps_pass rs_pass
    · cases h; cases strS_leaf rfl e0; exact PS.imp ps_break rs_brk
    · cases h; cases strS_leaf rfl e0; exact PS.imp ps_continue rs_cont
    · rename_i e p
      split at h
      · cases h; cases strS_leaf rfl e0; exact PS.imp ps_doc rs_pass
      · split at h
        · cases h
        · rename_i hc
          cases g : compE n cc e with
          | none => rw [g] at h; cases h
          | some x =>
            rw [g] at h
            cases h
            cases strS_leaf rfl e0
            exact PS.imp (ps_expr (ihE _ _ g).pe (swaps_of (by simpa using hc))) rs_ex
    · rename_i v p
      split at h
      · cases h; cases strS_leaf rfl e0; exact PS.imp ps_retN rs_retN
      · rename_i e
        cases g : compR n cc e with
        | none => rw [g] at h; cases h
        | some x =>
          rw [g] at h
          cases h
          cases strS_leaf rfl e0
          exact PS.imp (ps_ret (compR_ok XO g)) rs_ret
    · split at h
      · rename_i x y z g1 g2 g3
        cases h
        obtain ⟨a', b', rfl, q1, q2⟩ := strS_ifs e0
        exact PS.imp (ps_if (ihE _ _ g1).pt (compSL_ok ih g2 q1) (compSL_ok ih g3 q2)) rs_ifs
      · cases h
    · split at h
      · rename_i x y g1 g2
        cases h
        obtain ⟨ks, b', rfl, q1⟩ := strS_whl e0
        exact PS.imp (ps_while XS.po (ihE _ _ g1).pt (compSL_ok ih g2 q1)) rs_whl
      · cases h
    · split at h
      · cases h
      · rename_i hset
        split at h
        · rename_i t i y g1 g2 g3
          cases h
          obtain ⟨ks, b', rfl, q1⟩ := strS_fr e0
          exact PS.imp (ps_for XS.po XO.calm (compI_ok XO g2 stars ihE) (compT_ok XO g1) (compSL_ok ih g3 q1) (folded_of (by simpa using hset))) rs_fr
        · cases h
    · split at h
      · rename_i c' hc
        split at h
        · rename_i hl
          cases h
          cases strS_leaf hl e0
          exact compA_ok XS hc
        · cases h
      · cases h
    · rename_i x p p2 p3
      split at h
      · rename_i hc
        rw [Bool.and_eq_true, Bool.and_eq_true] at hc
        cases h
        cases strS_leaf rfl e0
        obtain ⟨C, bmB, B, newId, initId, f1, f2, f3, f4, f5, f6⟩ := XS.xc x hc.2.2
        exact PS.imp (ps_raise XO.calm XO.tk (pmk_own0 f1 f2 f3 f4 f5 (isGl_ok XO hc.2.1) (okName_ok hc.1).1)) (rs_rse f6)
      · cases h
    · rename_i b hd hs p
      split at h
      · rename_i x y g1 g2
        cases h
        obtain ⟨b', rfl, q1⟩ := strS_try e0
        obtain ⟨k1, k2⟩ := compHs_ok XS g2
        have := ps_try_many (pos := p) (body := b) (tb := fun W' => tSs X.K xg W' F sub N b') XS.stk XS.fr XO.tk (fun W' pn xe tk po => compSL_ok (fun s c c1 h e => compS_ok n (XS.tr tk po) h e) g1 q1) k1
        exact PS.imp this (rs_try XS.sub k2)
      · cases h
    · cases h
end
end Rw

set_option Elab.async false
set_option linter.all false
set_option maxRecDepth 100000
/-! RwR: defs: each keeps the promise that the evaluator makes. -/
namespace Rw
open PySem PySem.Spec PyProof.Rows L2
/-- what the module's names mean -/
structure GG where
  gc : Str → Option D
  bn : Str → Bool
  xc : Str → Bool
def ccOf (G : GG) (tab : Tab) (N : List Str) (sc : Scope) : CC where
  N := N
  sc := sc
  st := fun y => match sc.names.lookup y with
    | some .local => true
    | some .cell => true
    | _ => false
  gc := G.gc
  fm := fun f => (tab f).map Def.modes
  bn := G.bn
  xc := G.xc
structure GOk (K : PySem.W.Frag) (mg xg : Str → Option Value) (sub : Str → Str → Option Bool) (G : GG) : Prop where
  gc : ∀ x d, G.gc x = some d → flat d = true ∧ ∃ u, mg x = some u ∧ RelV (dV d) u
  bn : ∀ x, G.bn x = true → mg x = none
  xc : ∀ x, G.xc x = true → ∃ (C : Addr) (bmB : List Value) (B newId initId : String), ExcBaseFacts B newId initId bmB ∧ PySem.W.excIn K C bmB newId = true ∧ mg x = some (.ref C) ∧ PySem.W.keepIn K (.ref C) = true ∧
    (PySem.W.subIn K (.ref C) (.type "BaseException") = some true ∧ PySem.W.typeIn K (.ref C) = some (.type "type")) ∧ xg x = some (.ref C)
  sub : ∀ c k r, sub c k = some r → ∀ cls ck, xg c = some cls → xg k = some ck → PySem.W.exmOne K cls ck = some r
section
variable {K : PySem.W.Frag} {A₀ A A' : Addr → Prop} {σ σ' : L2.St} {H H' : Hp} {ρ ρ' : Env} {fp fp' : Nat → List Addr}
theorem initE_eq {ms : List Mode} {ns : Nat} {ds : List Rw.D} (h : ds.length = ms.length) (hn : ms.length ≤ ns) : initE ms ns ds = some (argE ms ds ++ List.replicate (ns - ms.length) .un) := by
  unfold initE
  rw [if_pos ⟨h, hn⟩]
  congr 2
  unfold argE
  apply List.map_congr_left
  rintro ⟨m, d⟩ _
  cases m <;> rfl
/-- more names, that hold nothing -/
theorem SI.more (S : SI K A₀ A σ H ρ fp) (n : Nat) : SI K A₀ A (σ ++ List.replicate n none) H (ρ ++ List.replicate n .un) fp := by
  have hl : ∀ i, look (σ ++ List.replicate n none) i = look σ i := fun i => by
    unfold look
    by_cases h : i < σ.length
    · rw [List.getElem?_append_left h]
    · rw [List.getElem?_append_right (by omega), List.getElem?_eq_none_iff.mpr (show σ.length ≤ i by omega)]
      by_cases h2 : i - σ.length < n
      · simp [List.getElem?_replicate, h2]
      · simp [List.getElem?_replicate, h2]
  have hs : ∀ i, slot (ρ ++ List.replicate n .un) i = slot ρ i := fun i => by
    unfold slot
    by_cases h : i < ρ.length
    · rw [List.getElem?_append_left h]
    · rw [List.getElem?_append_right (by omega), List.getElem?_eq_none_iff.mpr (show ρ.length ≤ i by omega)]
      by_cases h2 : i - ρ.length < n
      · simp [List.getElem?_replicate, h2]
      · simp [List.getElem?_replicate, h2]
  exact ⟨by simp [S.len], S.sub, S.nd, S.dj, S.na, S.tr, fun i => by rw [hl, hs]; exact S.sl i⟩
theorem musOf_ret : ∀ {ms : List Mode} {ρ : Env} {mus : List Rw.D}, musOf ms ρ = some mus → ∀ j, ms[j]? = some .mu → ∃ d, slot ρ j = .mw d ∧ slot (retE ms mus) j = .mw d
  | [], _, _, _, j, hj => by simp at hj
  | m :: ms, [], mus, h, j, hj => by cases m <;> cases h
  | m :: ms, s :: ρ, mus, h, j, hj => by
    have tl : ∀ {mus' : List Rw.D} {s' : Slot}, musOf ms ρ = some mus' → (∀ k : Nat, j = k + 1 → ∃ d, slot (s :: ρ) j = .mw d ∧ slot (s' :: retE ms mus') j = .mw d) := fun {mus' s'} e k ej => by
      subst ej
      obtain ⟨d, h1, h2⟩ := musOf_ret e k (by simpa using hj)
      exact ⟨d, by simpa [slot] using h1, by simpa [slot] using h2⟩
    cases m with
    | mu =>
      unfold musOf at h
      cases s with
      | mw d =>
        dsimp only at h
        cases e : musOf ms ρ with
        | none => rw [e] at h; cases h
        | some mus' =>
          rw [e] at h
          cases h
          cases j with
          | zero => exact ⟨d, rfl, rfl⟩
          | succ k => exact tl e k rfl
      | _ => cases h
    | al =>
      have h : musOf ms ρ = some mus := h
      cases j with
      | zero => simp at hj
      | succ k =>
        obtain ⟨d, h1, h2⟩ := tl (s' := .un) h k rfl
        exact ⟨d, h1, by cases mus <;> exact h2⟩
    | bw =>
      have h : musOf ms ρ = some mus := h
      cases j with
      | zero => simp at hj
      | succ k =>
        obtain ⟨d, h1, h2⟩ := tl (s' := .un) h k rfl
        exact ⟨d, h1, by cases mus <;> exact h2⟩
def fpR (ms : List Mode) (fp : Nat → List Addr) (j : Nat) : List Addr := if ms[j]? = some .mu then fp j else []
/-- a def's end, seen by the caller -/
theorem ret_si {ms : List Mode} {vs : List V} {ds mus : List Rw.D} {n n' : Nat} (hv : vs.length = ms.length) (hd : ds.length = ms.length) (S : SI K A A (vs.map some) H (argE ms ds) fp)
    (g : SOk K A A fp (vs.map some ++ List.replicate n none) H (argE ms ds ++ List.replicate n' .un) ρ' σ' H' A' fp') (hm : musOf ms ρ' = some mus) :
    SI K A A' (vs.map some) H' (retE ms mus) (fpR ms fp') ∧ Tr A fp H A' (fpR ms fp') H' ∧ ∀ a, Bs A' (fpR ms fp') a → Bs A' fp' a := by
  have le : ∀ j a, a ∈ fpR ms fp' j → a ∈ fp' j := fun j a h => by
    unfold fpR at h
    split at h
    · exact h
    · cases h
  have sub : ∀ a, Bs A' (fpR ms fp') a → Bs A' fp' a := fun a b => b.imp id fun ⟨j, h⟩ => ⟨j, le j a h⟩
  refine ⟨⟨by rw [List.length_map, retE_len, hv], g.si.sub, fun j => ?_, fun i j a h1 h2 => g.si.dj i j a (le i a h1) (le j a h2), fun i a h => g.si.na i a (le i a h), g.si.tr, fun j => ?_⟩, ⟨g.tr.a, g.tr.k, fun a b => g.tr.b a (sub a b)⟩, sub⟩
  · unfold fpR; split
    · exact g.si.nd j
    · exact .nil
  · by_cases hj : ms[j]? = some .mu
    · obtain ⟨d, h1, h2⟩ := musOf_ret hm j hj
      have so := g.si.sl j
      rw [h1] at so
      obtain ⟨v, hl, r⟩ := so
      have hlt : j < ms.length := (List.getElem?_eq_some_iff.mp hj).1
      have sj : slot (argE ms ds ++ List.replicate n' .un) j = .mw ds[j] := by
        have : (argE ms ds)[j]? = some (argSlot .mu ds[j]) := by
          unfold argE
          rw [List.getElem?_map, List.getElem?_zip_eq_some (z := (Mode.mu, ds[j])) |>.mpr ⟨hj, List.getElem?_eq_getElem (by omega)⟩]
          rfl
        unfold slot
        rw [List.getElem?_append_left (lt_of_get this), this]
        rfl
      have hk := g.look j (by rw [sj] <;> rfl)
      have hl' : look (vs.map some) j = some v := by
        rw [← hl, hk]
        unfold look
        rw [List.getElem?_append_left (by rw [List.length_map]; omega)]
      rw [h2, hl']
      have ef : fpR ms fp' j = fp' j := if_pos hj
      rw [ef]
      exact ⟨v, rfl, r.mono (fun _ _ e _ => e) fun a b => .inl (sub a b)⟩
    · rw [slot_retE hj]
      exact if_neg hj
end
/-- THE DEF: its body's run is the evaluator's -/
theorem fn_step {P : Program} {w : World} {K : PySem.W.Frag} {mg xg : Str → Option Value} {base : Heap} {sub : Str → Str → Option Bool} {N : Nat} {G : GG} {tab : Tab} {k : Nat} (GO : GOk K mg xg sub G)
    (hf : ∀ f d, tab f = some d → ∃ a fd ps, FnOk P w K mg base (L2.CX P w) k a fd ps (spD K xg d.modes (run tab sub N k f)) ∧ mg f = some (.ref a) ∧ PySem.W.keepIn K (.ref a) = true ∧ Binds K fd ps [])
    {f x qual : Str} {params : Arguments} {body : List Stmt} {scope : Scope} {a : Addr} {fd : FuncData} {Nn ps : List Str} {d : Def} {m : Nat} (F : FunD K x qual params body scope [] [] a fd) (S : FnScope Nn ps scope) (hm : d.modes.length = ps.length) (hn : d.ns = Nn.length)
    (hc : compSL (compS m (ccOf G tab Nn scope)) body = some (strSs d.body)) (ht : tab f = some d) : FnOk P w K mg base (L2.CX P w) (k + 1) a fd ps (spD K xg d.modes (run tab sub N (k + 1) f)) := by
  have hpl : ps.length ≤ Nn.length := by have := congrArg List.length S.pre; rw [List.length_take] at this; omega
  refine F.ok S (fun vs H Q E ⟨A, ds, fp, h1, _⟩ => h1.trans hm) fun cdv A outer s H vs Q E hr hsp => ?_
  let X := cxOf (L2.CX P w) P w K mg base Nn qual scope a cdv A outer s H E
  have XS : XSk xg ⟨fun g => (tab g).map Def.modes, run tab sub N k⟩ sub (ccOf G tab Nn scope) X (fun cls d _ H => E cls d H) := by
    refine ⟨⟨rfl, S.nd, rfl, rfl, takes_of rfl rfl rfl rfl, hr.units, fun y hy => ?_, GO.gc, GO.bn, fun g ms hg => ?_⟩, passes_of rfl, rfl, rfl, S.kind, fun y hy => ?_, fun y hy => ?_, GO.sub⟩
    · unfold ccOf at hy
      dsimp only at hy
      refine ⟨?_, .inl rfl⟩
      split at hy
      · rename_i e; exact .inl e
      · rename_i e; exact .inr e
      · cases hy
    · have hg : (tab g).map Def.modes = some ms := hg
      cases e : tab g with
      | none => rw [e] at hg; cases hg
      | some d' =>
        rw [e] at hg
        cases hg
        obtain ⟨a', fd', ps', k1, k2, k3, k4⟩ := hf g d' e
        exact ⟨by show (tab g).map Def.modes = _; rw [e] <;> rfl, a', fd', ps', k, k1, hr, k2, k3, k4⟩
    · unfold ccOf
      dsimp only at hy ⊢
      rw [show scope.names.lookup y = some .local from hy]
    · obtain ⟨C, bmB, B, n1, n2, f1, f2, f3, f4, f5, f6⟩ := GO.xc y hy
      exact ⟨C, bmB, B, n1, n2, f1, f2, f3, f4, raises_own f5.1 f5.2, f6⟩
  refine ⟨_, compSL_ok (N := N) (fun s c c1 h e => compS_ok m XS h e) hc rfl, ?_⟩
  obtain ⟨A1, ds, fp, h1, h2, S1, h⟩ := hsp
  rw [run, ht] at h
  dsimp only at h
  unfold callD at h
  have hmn : d.modes.length ≤ d.ns := by omega
  rw [initE_eq h2 hmn] at h
  dsimp only at h
  have S2 := S1.more (d.ns - d.modes.length)
  have e0 : vs.map some ++ List.replicate (d.ns - d.modes.length) none = L2.start Nn vs := by
    unfold L2.start
    rw [hn, h1]
  refine ⟨A1, A1, _, fp, by rw [← e0]; exact S2, ?_⟩
  rw [← e0]
  generalize hev : evSs ⟨fun g => (tab g).map Def.modes, run tab sub N k⟩ sub N d.body (argE d.modes ds ++ List.replicate (d.ns - d.modes.length) .un) = o at h ⊢
  cases o with
  | nx ρ' =>
    intro σ' H' fp' g
    unfold finish at h
    dsimp only at h
    split at h
    · rename_i mus hm
      obtain ⟨k1, k2, k3⟩ := ret_si h1 h2 S1 g hm
      exact h .non H' A1 _ k1 k2 (.fz .non)
    · exact h.elim
  | rt dr ρ' =>
    intro v σ' H' A' fp' g ok
    unfold finish at h
    dsimp only at h
    split at h
    · rename_i mus hm
      obtain ⟨k1, k2, k3⟩ := ret_si h1 h2 S1 g hm
      refine h v H' A' _ k1 k2 ?_
      obtain ⟨q, r, nd, hq⟩ := ok
      refine ⟨q, ?_, nd, hq⟩
      unfold opd at r ⊢
      split
      · rename_i hf
        rw [if_pos hf] at r
        exact ⟨r.1, r.2.mono (fun _ _ e _ => e) fun a b => .inl (k3 a b)⟩
      · rename_i hf
        rw [if_neg hf] at r
        exact Rp.mono (fun _ _ e _ => e) (fun a b => .inl (k3 a b)) r
    · exact h.elim
  | exc xx ρ' =>
    intro cls dx σ' H' fp' g xa
    unfold finish at h
    dsimp only at h
    split at h
    · rename_i mus hm
      obtain ⟨k1, k2, k3⟩ := ret_si h1 h2 S1 g hm
      exact h cls dx H' _ k1 k2 xa
    · exact h.elim
  | bk ρ' => exact h.elim
  | ct ρ' => exact h.elim
  | stuck => exact h.elim
/-- one def of the table -/
structure Ent where
  d : He.DefD
  N : List Str
  df : Def
def Ent.ps (e : Ent) : List Str := e.d.params.args.map (·.arg)
structure EntOk (G : GG) (tab : Tab) (e : Ent) : Prop where
  dfl : e.d.dfl = []
  kwd : e.d.kwd = []
  sc : FnScope e.N e.ps e.d.scope
  ml : e.df.modes.length = e.ps.length
  nl : e.df.ns = e.N.length
  bd : compSL (compS 60 (ccOf G tab e.N e.d.scope)) e.d.body = some (strSs e.df.body)
  bi : ∀ (kV doc pm : Value) (an : Option Addr) (cdv ct : Value) (us : List Value), us.length = e.ps.length → bindArgs (PySem.W.fnOf e.d.name e.d.qual e.d.params e.d.body e.d.scope .none kV doc pm an cdv ct) ⟨us, []⟩ = pure (e.ps.zip us)
/-- ALL DEFS -/
theorem fn_all {P : Program} {w : World} {K : PySem.W.Frag} {mg xg : Str → Option Value} {base : Heap} {sub : Str → Str → Option Bool} {N : Nat} {G : GG} {ents : List (Str × Ent)} (GO : GOk K mg xg sub G)
    (hE : ∀ f e, ents.lookup f = some e → EntOk G (fun f => (ents.lookup f).map Ent.df) e)
    (hF : ∀ f e, ents.lookup f = some e → mg f = some (.ref (He.fAd K e.d.at_)) ∧ ∃ fd, FunD K e.d.name e.d.qual e.d.params e.d.body e.d.scope (e.d.dvs K) (e.d.kws K) (He.fAd K e.d.at_) fd) :
    ∀ k f e, ents.lookup f = some e → ∀ fd, FunD K e.d.name e.d.qual e.d.params e.d.body e.d.scope (e.d.dvs K) (e.d.kws K) (He.fAd K e.d.at_) fd →
      FnOk P w K mg base (L2.CX P w) k (He.fAd K e.d.at_) fd e.ps (spD K xg e.df.modes (run (fun f => (ents.lookup f).map Ent.df) sub N k f)) := by
  intro k
  induction k with
  | zero =>
    intro f e he fd F
    refine ⟨fun vs H Q E ⟨A, ds, fp, h1, _⟩ => h1.trans (hE f e he).ml, fun A outer s H args us vs Q E _ _ _ _ ⟨A1, ds, fp, _, _, _, h⟩ => ?_⟩
    rw [run] at h
    exact h.elim
  | succ k ih =>
    intro f e he fd F
    have EO := hE f e he
    have F' : FunD K e.d.name e.d.qual e.d.params e.d.body e.d.scope [] [] (He.fAd K e.d.at_) fd := by
      have h1 : e.d.dvs K = [] := by unfold He.DefD.dvs; rw [EO.dfl] <;> rfl
      have h2 : e.d.kws K = [] := by unfold He.DefD.kws; rw [EO.kwd] <;> rfl
      rw [h1, h2] at F
      exact F
    refine fn_step GO (fun g d hg => ?_) F' EO.sc EO.ml EO.nl EO.bd (by show (ents.lookup f).map Ent.df = _; rw [he] <;> rfl)
    cases e2 : ents.lookup g with
    | none => rw [e2] at hg; cases hg
    | some e' =>
      rw [e2] at hg
      cases hg
      obtain ⟨m1, fd', F2⟩ := hF g e' e2
      have EO2 := hE g e' e2
      refine ⟨_, fd', _, ih g e' e2 fd' F2, m1, F2.kp, ?_⟩
      have F2' : FunD K e'.d.name e'.d.qual e'.d.params e'.d.body e'.d.scope [] [] (He.fAd K e'.d.at_) fd' := by
        have h1 : e'.d.dvs K = [] := by unfold He.DefD.dvs; rw [EO2.dfl] <;> rfl
        have h2 : e'.d.kws K = [] := by unfold He.DefD.kws; rw [EO2.kwd] <;> rfl
        rw [h1, h2] at F2
        exact F2
      exact F2'.bindsN EO2.bi
end Rw

set_option Elab.async false
set_option linter.all false
set_option maxRecDepth 100000
/-! RwS: a whole program: facts of its names, its law. -/
namespace Rw
open PySem PySem.Spec PyProof.Rows L2
def gcF : List He.Fa → Str → Option D
  | [], _ => none
  | .int y i :: r, x => if y = x then some (.int i) else gcF r x
  | .str y z :: r, x => if y = x then some (.str z.cps.toList) else gcF r x
  | _ :: r, x => gcF r x
def hasFree : List He.Fa → Str → Bool
  | [], _ => false
  | .free y :: r, x => decide (y = x) || hasFree r x
  | _ :: r, x => hasFree r x
def hasGlo : List He.Fa → Str → Bool
  | [], _ => false
  | .glo y :: r, x => decide (y = x) || hasGlo r x
  | _ :: r, x => hasGlo r x
def hasExc : List He.Fa → Str → Bool
  | [], _ => false
  | .exc y :: r, x => decide (y = x) || hasExc r x
  | _ :: r, x => hasExc r x
def subF : List He.Fa → Str → Str → Option Bool
  | [], _, _ => none
  | .exm y z b :: r, c, k => if y = c ∧ z = k then some b else subF r c k
  | _ :: r, c, k => subF r c k
def ggF (fa : List He.Fa) : GG where
  gc := gcF fa
  bn := hasFree fa
  xc := fun x => hasExc fa x && hasGlo fa x
def xgF (fa : List He.Fa) (K : PySem.W.Frag) (x : Str) : Option Value := if hasGlo fa x then some (.ref (He.ga K x)) else none
section
variable {x : Str}
theorem free_mem : ∀ {fa : List He.Fa}, hasFree fa x = true → He.Fa.free x ∈ fa
  | [], h => by cases h
  | f :: r, h => by
    cases f <;> first
      | (have h : hasFree r x = true := h; exact List.mem_cons_of_mem _ (free_mem h))
      | (rename_i y
         have h : (decide (y = x) || hasFree r x) = true := h
         rw [Bool.or_eq_true] at h
         rcases h with h | h
         · rw [of_decide_eq_true h]; exact List.mem_cons_self
         · exact List.mem_cons_of_mem _ (free_mem h))
theorem glo_mem : ∀ {fa : List He.Fa}, hasGlo fa x = true → He.Fa.glo x ∈ fa
  | [], h => by cases h
  | f :: r, h => by
    cases f <;> first
      | (have h : hasGlo r x = true := h; exact List.mem_cons_of_mem _ (glo_mem h))
      | (rename_i y
         have h : (decide (y = x) || hasGlo r x) = true := h
         rw [Bool.or_eq_true] at h
         rcases h with h | h
         · rw [of_decide_eq_true h]; exact List.mem_cons_self
         · exact List.mem_cons_of_mem _ (glo_mem h))
theorem exc_mem : ∀ {fa : List He.Fa}, hasExc fa x = true → He.Fa.exc x ∈ fa
  | [], h => by cases h
  | f :: r, h => by
    cases f <;> first
      | (have h : hasExc r x = true := h; exact List.mem_cons_of_mem _ (exc_mem h))
      | (rename_i y
         have h : (decide (y = x) || hasExc r x) = true := h
         rw [Bool.or_eq_true] at h
         rcases h with h | h
         · rw [of_decide_eq_true h]; exact List.mem_cons_self
         · exact List.mem_cons_of_mem _ (exc_mem h))
theorem sub_mem {c k : Str} {b : Bool} : ∀ {fa : List He.Fa}, subF fa c k = some b → He.Fa.exm c k b ∈ fa
  | [], h => by cases h
  | f :: r, h => by
    cases f <;> first
      | (have h : subF r c k = some b := h; exact List.mem_cons_of_mem _ (sub_mem h))
      | (rename_i y z b'
         have h : (if y = c ∧ z = k then some b' else subF r c k) = some b := h
         split at h
         · rename_i e
           cases h
           rw [e.1, e.2]; exact List.mem_cons_self
         · exact List.mem_cons_of_mem _ (sub_mem h))
theorem gc_mem {d : D} : ∀ {fa : List He.Fa}, gcF fa x = some d → (∃ i, d = .int i ∧ He.Fa.int x i ∈ fa) ∨ ∃ z : Str, d = .str z.cps.toList ∧ He.Fa.str x z ∈ fa
  | [], h => by cases h
  | f :: r, h => by
    have up : ((∃ i, d = .int i ∧ He.Fa.int x i ∈ r) ∨ ∃ z : Str, d = .str z.cps.toList ∧ He.Fa.str x z ∈ r) → (∃ i, d = .int i ∧ He.Fa.int x i ∈ f :: r) ∨ ∃ z : Str, d = .str z.cps.toList ∧ He.Fa.str x z ∈ f :: r :=
      fun h => h.imp (fun ⟨i, a, b⟩ => ⟨i, a, List.mem_cons_of_mem _ b⟩) fun ⟨i, a, b⟩ => ⟨i, a, List.mem_cons_of_mem _ b⟩
    cases f with
    | int y i =>
      have h : (if y = x then some (D.int i) else gcF r x) = some d := h
      split at h
      · rename_i e; cases h; rw [e]; exact .inl ⟨i, rfl, List.mem_cons_self⟩
      · exact up (gc_mem h)
    | str y z =>
      have h : (if y = x then some (D.str z.cps.toList) else gcF r x) = some d := h
      split at h
      · rename_i e; cases h; rw [e]; exact .inr ⟨z, rfl, List.mem_cons_self⟩
      · exact up (gc_mem h)
    | _ => exact up (gc_mem (show gcF r x = some d from h))
end
theorem says_mem {fa : List He.Fa} {fn : List He.DefD} {K : PySem.W.Frag} (c : He.SaysD fa fn K) {f : He.Fa} (h : f ∈ fa) : f.ok K = true := by
  obtain ⟨i, hi, e⟩ := List.getElem_of_mem h
  exact c.fact i (by rw [List.getElem?_eq_getElem hi, e])
theorem gok_of {fa : List He.Fa} {fn : List He.DefD} {K : PySem.W.Frag} {h : Heap} {mg : Str → Option Value} (X : K.In h) (G : h.Ns mainGlobals mg) (c : He.SaysD fa fn K) : GOk K mg (xgF fa K) (subF fa) (ggF fa) where
  gc := fun x d hd => by
    rcases gc_mem hd with ⟨i, rfl, hm⟩ | ⟨z, rfl, hm⟩
    · obtain ⟨t, e⟩ := He.int_ok X G (says_mem c hm)
      exact ⟨rfl, _, e, ⟨t, rfl⟩⟩
    · obtain ⟨t, e⟩ := He.str_ok X G (says_mem c hm)
      exact ⟨rfl, _, e, ⟨t, rfl⟩⟩
  bn := fun x hx => He.free_ok X G (says_mem c (free_mem hx))
  xc := fun x hx => by
    have hx : (hasExc fa x && hasGlo fa x) = true := hx
    rw [Bool.and_eq_true] at hx
    obtain ⟨f1, f2, f3, f4⟩ := He.exc_ok (says_mem c (exc_mem hx.1))
    exact ⟨He.ga K x, _, _, _, _, PySem.F.excBase_ValueError, f1, He.glo_ok X G (says_mem c (glo_mem hx.2)), f2, ⟨f3, f4⟩, by unfold xgF; rw [if_pos hx.2]⟩
  sub := fun a b r hr cls ck h1 h2 => by
    have e := He.exm_ok (says_mem c (sub_mem hr))
    unfold xgF at h1 h2
    split at h1
    · split at h2
      · cases h1; cases h2; exact e
      · cases h2
    · cases h1
/-- the law's own call -/
theorem law_sp {K : PySem.W.Frag} {xg : Str → Option Value} {m : List D → FRes} {a : Addr} {ns : List Int} {H : Hp} {E : XK} (hm : m [.scr ns] = .rt (.bl true) []) (hS : SqL K H a (ns.map V.int)) : spD K xg [.al] m [.ref a] H (fun v _ => v = .bl true) E := by
  refine ⟨fun _ => False, [.scr ns], fun _ => [], rfl, rfl, ⟨rfl, fun _ h => h, fun _ => .nil, fun _ _ _ h => (nomatch h), fun _ _ h => (nomatch h), fun _ h => h.elim, fun i => ?_⟩, ?_⟩
  · cases i with
    | zero =>
      refine ⟨rfl, .ref a, rfl, .scr ?_⟩
      rcases hS with h | h
      · exact .inl ⟨h, fun b => b.elim id fun ⟨_, z⟩ => nomatch z⟩
      · exact .inr h
    | succ i =>
      have : slot (argE [.al] [.scr ns]) (i + 1) = .un := slot_out (by simp [argE])
      rw [this]
      exact rfl
  · rw [hm]
    intro v H' A' fp' _ _ ok
    obtain ⟨q, ⟨_, r⟩, _⟩ := ok
    cases r
    rfl
/-- THE PROGRAM: each def of the table has its entry; the law's entry ends True -/
theorem prog_ok {P : Program} {n k : Nat} {fa : List He.Fa} {ents : List (Str × Ent)} {el : Ent} {mo : Nat}
    (hE : ∀ f e, ents.lookup f = some e → EntOk (ggF fa) (fun f => (ents.lookup f).map Ent.df) e ∧ e.d.at_ = (f, none) ∧ hasGlo fa f = true ∧ e.d ∈ ents.map (·.2.d))
    (hl : ents.lookup ("law" : Str) = some el) (hps : el.ps = ([("script" : Str)])) (hmo : el.df.modes = [.al])
    (hlaw : ∀ ns : List Int, ns.length ≤ mo → ∃ N, run (fun f => (ents.lookup f).map Ent.df) (subF fa) N k "law" [.scr ns] = .rt (.bl true) []) :
    ∀ (w : World) (mg : Str → Option Value) (a : Addr) (h : Heap), (He.hookD n fa (ents.map (·.2.d))).says w h → h.Ns mainGlobals mg → mg "law" = some (.ref a) →
      ∃ (K : PySem.W.Frag) (fd : FuncData) (sp : Sp), K.In h ∧ (∀ (s : Shared) (u : Value), BindsTo s fd ⟨[u], []⟩ [("script", u)]) ∧
        (∀ (H : Hp) (a : Addr) (ns : List Int), ns.length ≤ mo → Only H → SqL K H a (ns.map V.int) → sp [.ref a] H (fun v _ => v = .bl true) fun _ _ _ => False) ∧
        ∀ base : Heap, K.In base → base.Ns mainGlobals mg → FnOk P w K mg base (L2.CX P w) k a fd ["script"] sp := by
  intro w mg a h Y G hmg
  obtain ⟨K, KX, c⟩ := Y
  have GO := gok_of KX G c
  have hF : ∀ f e, ents.lookup f = some e → mg f = some (.ref (He.fAd K e.d.at_)) ∧ ∃ fd, FunD K e.d.name e.d.qual e.d.params e.d.body e.d.scope (e.d.dvs K) (e.d.kws K) (He.fAd K e.d.at_) fd := fun f e he => by
    obtain ⟨_, h2, h3, h4⟩ := hE f e he
    obtain ⟨i, hi, ei⟩ := List.getElem_of_mem h4
    refine ⟨?_, c.def_ i (by rw [List.getElem?_eq_getElem hi, ei])⟩
    rw [h2]
    exact He.glo_ok KX G (says_mem c (glo_mem h3))
  obtain ⟨EL, hat, hgl, _⟩ := hE _ _ hl
  obtain ⟨m1, fd, Fd⟩ := hF _ _ hl
  have ea : He.fAd K el.d.at_ = a := by
    rw [hmg] at m1
    cases m1
    rfl
  have Fd' : FunD K el.d.name el.d.qual el.d.params el.d.body el.d.scope [] [] (He.fAd K el.d.at_) fd := by
    have h1 : el.d.dvs K = [] := by unfold He.DefD.dvs; rw [EL.dfl] <;> rfl
    have h2 : el.d.kws K = [] := by unfold He.DefD.kws; rw [EL.kwd] <;> rfl
    rw [h1, h2] at Fd
    exact Fd
  refine ⟨K, fd, fun vs H Q E => ∃ N, spD K (xgF fa K) el.df.modes (run (fun f => (ents.lookup f).map Ent.df) (subF fa) N k "law") vs H Q E, KX, fun s u => ?_, fun H a ns hns _ hS => ?_, fun base _ _ => ?_⟩
  · have := Fd'.bindsA EL.bi s [u] (by rw [hps] <;> rfl)
    rw [hps] at this
    exact this
  · obtain ⟨N, hN⟩ := hlaw ns hns
    refine ⟨N, ?_⟩
    rw [hmo]
    exact law_sp hN hS
  · have ok : ∀ N, FnOk P w K mg base (L2.CX P w) k (He.fAd K el.d.at_) fd el.ps (spD K (xgF fa K) el.df.modes (run (fun f => (ents.lookup f).map Ent.df) (subF fa) N k "law")) := fun N => fn_all GO (fun f e he => (hE f e he).1) hF k "law" el hl fd Fd
    rw [hps, ea] at ok
    exact ⟨fun vs H Q E ⟨N, q⟩ => (ok N).len vs H Q E q, fun A outer s H args us vs Q E r e b v ⟨N, q⟩ => (ok N).run A outer s H args us vs Q E r e b v q⟩
theorem cx_none {P : Program} {w : World} (H : Hp) (s : Shared) (e : Value) (s' : Shared) : L2.CX P w [] H s (fun _ _ _ => False) e s' → False := fun h => by
  obtain ⟨_, _, _, _, _, _, _, _, _, _, _, _, z⟩ := h
  exact z
/-- the law of a program, walked: errors lie as the world says -/
theorem walkX {l : PySem.W.OpenLaw} {n k : Nat} {q : Program} {loose : List Str}
    {XP : (Str → Option Value) → Heap → Prop} {YP : World → Heap → Prop}
    {d : PySem.DefRec} {x : Str}
    (hn : l.most = some n) (hz : n ≤ sizeLine) (hd0 : d.params.defaults = [])
    (hr : Room k callerA)
    (F : ∀ (w : World) (mg : Str → Option Value) (f : Addr) (h : Heap),
      YP w h → h.Ns mainGlobals mg → mg d.name = some (.ref f) →
      ∃ (K : PySem.W.Frag) (fd : FuncData) (sp : Sp), K.In h ∧
        (∀ (s : Shared) (u : Value), BindsTo s fd ⟨[u], []⟩ [(x, u)]) ∧
        (∀ (H : Hp) (b : Addr) (ns : List Int), ns.length ≤ n → Only H →
          SqL K H b (ns.map V.int) →
          sp [.ref b] H (fun v _ => v = .bl true) fun _ _ _ => False) ∧
        ∀ base : Heap, K.In base → base.Ns mainGlobals mg →
          FnOk l.prog w K mg base (L2.CX l.prog w) k f fd [x] sp) :
    PySem.W.WalkO q loose XP YP l.row.toRowW d [] (fun f vs => PySem.call f vs) := by
  refine Att.attach_call hn hd0 fun w t₀ t₁ mg mb f o pm cd doc b vs ns G Y u1 u2 u3 hm u4 u5 hl hg => ?_
  obtain ⟨K, fd, sp, k1, k2, k3, k4⟩ := F w mg f _ Y G.T.g hm
  exact law_call k1 G.T.g G.T.b G.T.builtins G.T.nolimit hg u4 u5 (Nat.le_trans hl hz) hr k4 k2
    (fun H hO hS => k3 H b ns hl hO hS) fun H e s' => cx_none H t₁ e s'
end Rw

set_option Elab.async false
set_option linter.all false
set_option maxRecDepth 100000
/-! RwT: rules for runs of the evaluator. -/
namespace Rw
open PySem
theorem bi_len (ds : List D) : biV "len" ds = (match ds with
    | [d] => (lenV d).map .int
    | _ => none) := by unfold biV; rw [if_pos rfl] <;> rfl
theorem bi_abs (ds : List D) : biV "abs" ds = (match ds with
    | [.int i] => some (.int (if i < 0 then -i else i))
    | _ => none) := by unfold biV; rw [if_neg (by decide +kernel), if_pos rfl] <;> rfl
theorem bi_int (ds : List D) : biV "int" ds = (match ds with
    | [.int i] => some (.int i)
    | [.bl b] => some (.int (if b then 1 else 0))
    | _ => none) := by unfold biV; rw [if_neg (by decide +kernel), if_neg (by decide +kernel), if_pos rfl] <;> rfl
theorem bi_sum (ds : List D) : biV "sum" ds = (match ds with
    | [.lst _ xs] => (intsOf xs).map fun ns => .int ns.sum
    | _ => none) := by unfold biV; rw [if_neg (by decide +kernel), if_neg (by decide +kernel), if_neg (by decide +kernel), if_pos rfl] <;> rfl
theorem bi_all (ds : List D) : biV "all" ds = (match ds with
    | [.lst _ xs] => (blsOf xs).map fun bs => .bl (bs.all id)
    | _ => none) := by unfold biV; rw [if_neg (by decide +kernel), if_neg (by decide +kernel), if_neg (by decide +kernel), if_neg (by decide +kernel), if_pos rfl] <;> rfl
theorem bi_any (ds : List D) : biV "any" ds = (match ds with
    | [.lst _ xs] => (blsOf xs).map fun bs => .bl (bs.any id)
    | _ => none) := by unfold biV; rw [if_neg (by decide +kernel), if_neg (by decide +kernel), if_neg (by decide +kernel), if_neg (by decide +kernel), if_neg (by decide +kernel), if_pos rfl] <;> rfl
theorem bi_tuple (ds : List D) : biV "tuple" ds = (match ds with
    | [.lst _ xs] => some (.tup xs)
    | [.tup xs] => some (.tup xs)
    | _ => none) := by unfold biV; rw [if_neg (by decide +kernel), if_neg (by decide +kernel), if_neg (by decide +kernel), if_neg (by decide +kernel), if_neg (by decide +kernel), if_neg (by decide +kernel), if_pos rfl] <;> rfl
theorem bi_list (ds : List D) : biV "list" ds = (match ds with
    | [.lst _ xs] => some (.lst true xs)
    | [.tup xs] => some (.lst true xs)
    | _ => none) := by unfold biV; rw [if_neg (by decide +kernel), if_neg (by decide +kernel), if_neg (by decide +kernel), if_neg (by decide +kernel), if_neg (by decide +kernel), if_neg (by decide +kernel), if_neg (by decide +kernel), if_pos rfl] <;> rfl
/-- it has a type that isinstance may be asked of -/
def tyd : D → Bool
  | .scr _ | .obj .. => false
  | _ => true
def isIntD : D → Bool
  | .int _ | .bl _ => true
  | _ => false
def isBlD : D → Bool
  | .bl _ => true
  | _ => false
def isStrD : D → Bool
  | .str _ => true
  | _ => false
def isTupD : D → Bool
  | .tup _ => true
  | _ => false
def isLstD : D → Bool
  | .lst .. => true
  | _ => false
theorem ii_int {d : D} (h : tyd d = true) : isInst d "int" = some (isIntD d) := by
  cases d <;> first | (exact Bool.noConfusion h) | (unfold isInst; refine (if_neg Bool.false_ne_true).trans ?_; rw [if_pos rfl] <;> rfl)
theorem ii_bool {d : D} (h : tyd d = true) : isInst d "bool" = some (isBlD d) := by
  cases d <;> first | (exact Bool.noConfusion h) | (unfold isInst; refine (if_neg Bool.false_ne_true).trans ?_; rw [if_neg (by decide +kernel), if_pos rfl] <;> rfl)
theorem ii_str {d : D} (h : tyd d = true) : isInst d "str" = some (isStrD d) := by
  cases d <;> first | (exact Bool.noConfusion h) | (unfold isInst; refine (if_neg Bool.false_ne_true).trans ?_; rw [if_neg (by decide +kernel), if_neg (by decide +kernel), if_pos rfl] <;> rfl)
theorem ii_tuple {d : D} (h : tyd d = true) : isInst d "tuple" = some (isTupD d) := by
  cases d <;> first | (exact Bool.noConfusion h) | (unfold isInst; refine (if_neg Bool.false_ne_true).trans ?_; rw [if_neg (by decide +kernel), if_neg (by decide +kernel), if_neg (by decide +kernel), if_pos rfl] <;> rfl)
theorem ii_list {d : D} (h : tyd d = true) : isInst d "list" = some (isLstD d) := by
  cases d <;> first | (exact Bool.noConfusion h) | (unfold isInst; refine (if_neg Bool.false_ne_true).trans ?_; rw [if_neg (by decide +kernel), if_neg (by decide +kernel), if_neg (by decide +kernel), if_neg (by decide +kernel), if_pos rfl] <;> rfl)
theorem mut_join : isMut "join" = false := by decide +kernel
theorem mut_append : isMut "append" = true := by decide +kernel
theorem mut_pop : isMut "pop" = true := by decide +kernel
theorem ty_join (d : D) : tyOk "join" d = isStrD d := by unfold tyOk; rw [mut_join]; cases d <;> rfl
theorem ty_pop (xs : List D) : tyOk "pop" (.lst true xs) = true := by unfold tyOk; rw [mut_pop] <;> rfl
theorem ty_append (xs : List D) : tyOk "append" (.lst true xs) = true := by unfold tyOk; rw [mut_append] <;> rfl
theorem mv_append (xs : List D) (x : D) (h : xs.length < line) : mutV "append" (.lst true xs) [x] = some (.non, .lst true (xs ++ [x])) := by
  unfold mutV; rw [if_pos rfl]; exact if_pos h
theorem mv_pop (xs : List D) : mutV "pop" (.lst true xs) [] = (xs[xs.length - 1]?).map fun y => (y, .lst true xs.dropLast) := by
  unfold mutV; rw [if_neg (by decide +kernel), if_pos rfl]
theorem mv_popi (xs : List D) (i : Int) : mutV "pop" (.lst true xs) [.int i] = if -(2 ^ 63) ≤ i ∧ i < 2 ^ 63 then (ixN xs.length i).bind fun k => (xs[k]?).map fun y => (y, .lst true (xs.eraseIdx k)) else none := by
  unfold mutV; rw [if_neg (by decide +kernel), if_pos rfl]
theorem mt_join (a : Sg) (o : Bool) (xs : List D) : mthV "join" (.str a) [.lst o xs] = (strsOf xs).bind fun ys => if (ys.map List.length).sum + ys.length * a.length ≤ line then some (.str (joinS a ys)) else none := by
  unfold mthV; rw [if_pos rfl]
theorem run_eq {tab : Tab} {sub : Str → Str → Option Bool} {N k : Nat} {f : Str} {d : Def} {ds : List D} (h : tab f = some d) : run tab sub N (k + 1) f ds = callD ⟨fun g => (tab g).map Def.modes, run tab sub N k⟩ sub N d ds := by
  rw [run, h]
theorem lookup_map {α β : Type} (g : α → β) : ∀ (l : List (Str × α)) (f : Str), (l.lookup f).map g = (l.map fun p => (p.1, g p.2)).lookup f
  | [], f => rfl
  | (x, a) :: l, f => by
    rw [List.map_cons, List.lookup_cons, List.lookup_cons]
    cases f == x
    · exact lookup_map g l f
    · rfl
/-- the defs that a def may call -/
def FFn (tab : Tab) (sub : Str → Str → Option Bool) (N k : Nat) : Fn := ⟨fun g => (tab g).map Def.modes, run tab sub N k⟩
theorem ff_run {tab : Tab} {sub : Str → Str → Option Bool} {N k : Nat} {f : Str} : (FFn tab sub N k).run f = run tab sub N k f := rfl
theorem ff_modes {tab : Tab} {sub : Str → Str → Option Bool} {N k : Nat} {f : Str} : (FFn tab sub N k).modes f = (tab f).map Def.modes := rfl
theorem run_u {tab : Tab} {sub : Str → Str → Option Bool} {N k : Nat} {f : Str} {d : Def} {ds : List D} (h : tab f = some d) : run tab sub N (k + 1) f ds = callD (FFn tab sub N k) sub N d ds := run_eq h
/-! ### loops -/
/-- a comprehension's turns by a word of the state -/
theorem lcL_inv {f : D → Env → Rr (Option D)} {own : List Nat} (P : Env → Prop) (E : D → Prop) : ∀ (xs acc : List D) (ρ : Env), P ρ → acc.length + xs.length ≤ line →
    (∀ x ∈ xs, ∀ ρ, P ρ → ∃ y ρ', f x (wipeE ρ own) = .ok (some y) ρ' ∧ P ρ' ∧ E y) → ∃ ys ρ', lcL f own xs acc ρ = .ok (acc ++ ys) ρ' ∧ P ρ' ∧ ys.length = xs.length ∧ ∀ y ∈ ys, E y
  | [], acc, ρ, hP, _, _ => ⟨[], ρ, by rw [lcL, List.append_nil], hP, rfl, fun _ h => nomatch h⟩
  | x :: xs, acc, ρ, hP, hl, h => by
    obtain ⟨y, ρ1, e1, P1, E1⟩ := h x List.mem_cons_self ρ hP
    rw [List.length_cons] at hl
    obtain ⟨ys, ρ2, e2, P2, l2, E2⟩ := lcL_inv P E xs (acc ++ [y]) ρ1 P1 (by rw [List.length_append, List.length_singleton]; omega) fun x hx => h x (List.mem_cons_of_mem _ hx)
    refine ⟨y :: ys, ρ2, ?_, P2, by rw [List.length_cons, List.length_cons, l2], fun z hz => ?_⟩
    · rw [lcL, e1]
      show (if acc.length < line then lcL f own xs (acc ++ [y]) ρ1 else .stuck) = _
      rw [if_pos (by omega), e2, List.append_assoc]
      rfl
    · rcases List.mem_cons.mp hz with e | e
      · rw [e]; exact E1
      · exact E2 z e
/-- a comprehension that changes nothing: g what it makes of an item -/
theorem lcL_pure {f : D → Env → Rr (Option D)} {own : List Nat} {ρ0 : Env} (g : D → Option D) : ∀ (xs acc : List D) (ρ : Env), wipeE ρ own = ρ0 → acc.length + xs.length ≤ line →
    (∀ x ∈ xs, ∃ ρ', f x ρ0 = .ok (g x) ρ' ∧ wipeE ρ' own = ρ0) → ∃ ρ', lcL f own xs acc ρ = .ok (acc ++ xs.filterMap g) ρ' ∧ wipeE ρ' own = ρ0
  | [], acc, ρ, hP, _, _ => ⟨ρ, by rw [lcL, List.filterMap_nil, List.append_nil], hP⟩
  | x :: xs, acc, ρ, hP, hl, h => by
    obtain ⟨ρ1, e1, P1⟩ := h x List.mem_cons_self
    rw [List.length_cons] at hl
    have h' : ∀ x ∈ xs, ∃ ρ', f x ρ0 = .ok (g x) ρ' ∧ wipeE ρ' own = ρ0 := fun x hx => h x (List.mem_cons_of_mem _ hx)
    rw [lcL, hP, e1]
    cases hg : g x with
    | none =>
      obtain ⟨ρ2, e2, P2⟩ := lcL_pure g xs acc ρ1 P1 (by omega) h'
      refine ⟨ρ2, ?_, P2⟩
      rw [List.filterMap_cons_none hg]
      exact e2
    | some y =>
      obtain ⟨ρ2, e2, P2⟩ := lcL_pure g xs (acc ++ [y]) ρ1 P1 (by rw [List.length_append, List.length_singleton]; omega) h'
      refine ⟨ρ2, ?_, P2⟩
      rw [List.filterMap_cons_some hg]
      show (if acc.length < line then lcL f own xs (acc ++ [y]) ρ1 else .stuck) = _
      rw [if_pos (by omega), e2, List.append_assoc]
      rfl
/-- a for's turns by a word of the state: all of them -/
theorem forL_inv {f : D → Env → Out} (P : Env → Prop) : ∀ (xs : List D) (ρ : Env), P ρ → (∀ x ∈ xs, ∀ ρ, P ρ → ∃ ρ', (f x ρ = .nx ρ' ∨ f x ρ = .ct ρ') ∧ P ρ') → ∃ ρ', forL f xs ρ = .nx ρ' ∧ P ρ'
  | [], ρ, hP, _ => ⟨ρ, by rw [forL], hP⟩
  | x :: xs, ρ, hP, h => by
    obtain ⟨ρ1, e1, P1⟩ := h x List.mem_cons_self ρ hP
    obtain ⟨ρ2, e2, P2⟩ := forL_inv P xs ρ1 P1 fun x hx => h x (List.mem_cons_of_mem _ hx)
    refine ⟨ρ2, ?_, P2⟩
    rw [forL]
    rcases e1 with e1 | e1 <;> rw [e1] <;> exact e2
/-- a for that may leave at the first item that p takes -/
theorem forL_find {f : D → Env → Out} {ρ0 : Env} {r : D} (p : D → Bool) (same : Env → Prop) (h0 : same ρ0) : ∀ (xs : List D) (ρ : Env), same ρ → (∀ x ∈ xs, ∀ ρ, same ρ → if p x then ∃ ρ', f x ρ = .rt r ρ' ∧ same ρ' else ∃ ρ', f x ρ = .nx ρ' ∧ same ρ') →
    if xs.any p then ∃ ρ', forL f xs ρ = .rt r ρ' ∧ same ρ' else ∃ ρ', forL f xs ρ = .nx ρ' ∧ same ρ'
  | [], ρ, hP, _ => ⟨ρ, by rw [forL], hP⟩
  | x :: xs, ρ, hP, h => by
    have hx := h x List.mem_cons_self ρ hP
    cases hp : p x with
    | true =>
      rw [hp] at hx
      obtain ⟨ρ1, e1, P1⟩ := hx
      rw [List.any_cons, hp, Bool.true_or, if_pos rfl, forL, e1]
      exact ⟨ρ1, rfl, P1⟩
    | false =>
      rw [hp] at hx
      obtain ⟨ρ1, e1, P1⟩ := hx
      rw [List.any_cons, hp, Bool.false_or, forL, e1]
      exact forL_find p same h0 xs ρ1 P1 fun x hx => h x (List.mem_cons_of_mem _ hx)
/-! ### the evaluator's steps, shape by shape -/
section
variable {α β : Type} {ρ ρ' : Env} {F : Fn} {sub : Str → Str → Option Bool} {N : Nat}
theorem b_ok {a : α} {f : α → Env → Rr β} : (Rr.ok a ρ).bind f = f a ρ := rfl
theorem b_exc {x : Exc} {f : α → Env → Rr β} : (Rr.exc x ρ).bind f = .exc x ρ := rfl
theorem o_ok {a : α} {f : α → Env → Out} : (Rr.ok a ρ).out f = f a ρ := rfl
theorem o_exc {x : Exc} {f : α → Env → Out} : (Rr.exc x ρ).out f = .exc x ρ := rfl
theorem th_nx {f : Env → Out} : (Out.nx ρ).then f = f ρ := rfl
theorem th_rt {d : D} {f : Env → Out} : (Out.rt d ρ).then f = .rt d ρ := rfl
theorem th_bk {f : Env → Out} : (Out.bk ρ).then f = .bk ρ := rfl
theorem th_ct {f : Env → Out} : (Out.ct ρ).then f = .ct ρ := rfl
theorem th_exc {x : Exc} {f : Env → Out} : (Out.exc x ρ).then f = .exc x ρ := rfl
theorem c_fz {d : D} : con ρ (.fz d) = some d := rfl
theorem c_ow {d : D} : con ρ (.ow d) = some d := rfl
theorem c_pt {i : Nat} {p : List Stp} : con ρ (.pt i p) = getP ρ i p := rfl
theorem al_fz {d : D} : alias_ ρ (.fz d) = some (.fz d, ρ) := rfl
theorem al_ow {d : D} : alias_ ρ (.ow d) = some (.ow d, ρ) := rfl
theorem v_fz {d : D} : (Opd.fz d).val = d := rfl
theorem v_ow {d : D} : (Opd.ow d).val = d := rfl
theorem z_fz {d : D} : (Opd.fz d).isFz = true := rfl
theorem z_ow {d : D} : (Opd.ow d).isFz = false := rfl
theorem k_fz {d : D} {e : Ex} : okPt (.fz d) e = true := rfl
theorem k_ow {d : D} {e : Ex} : okPt (.ow d) e = true := rfl
theorem k_pt0 {i : Nat} {e : Ex} : okPt (.pt i []) e = true := rfl
theorem k_pt {i : Nat} {s : Stp} {p : List Stp} {e : Ex} : okPt (.pt i (s :: p)) e = pureE e := rfl
theorem ko_fz {d : D} {e : Option Ex} : okPtO (.fz d) e = true := rfl
theorem ko_ow {d : D} {e : Option Ex} : okPtO (.ow d) e = true := rfl
theorem ko_pt0 {i : Nat} {e : Option Ex} : okPtO (.pt i []) e = true := rfl
theorem ko_pt {i : Nat} {s : Stp} {p : List Stp} {e : Option Ex} : okPtO (.pt i (s :: p)) e = pureO e := rfl
theorem n_fz {d : D} : (Opd.fz d).noPlB = true := rfl
theorem n_ow {d : D} : (Opd.ow d).noPlB = true := rfl
theorem n_pt0 {i : Nat} : (Opd.pt i []).noPlB = true := rfl
theorem n_pt {i : Nat} {s : Stp} {p : List Stp} : (Opd.pt i (s :: p)).noPlB = false := rfl
theorem p_un : Slot.un.pin = false := rfl
theorem p_fz {d : D} : (Slot.fz d).pin = false := rfl
theorem p_ow {d : D} : (Slot.ow d).pin = false := rfl
theorem sc_fz {d : D} : (Slot.fz d).con = some d := rfl
theorem sc_ow {d : D} : (Slot.ow d).con = some d := rfl
theorem sc_bw {d : D} : (Slot.bw d).con = some d := rfl
theorem sc_mw {d : D} : (Slot.mw d).con = some d := rfl
theorem p_bw {d : D} : (Slot.bw d).pin = true := rfl
theorem p_mw {d : D} : (Slot.mw d).pin = true := rfl
theorem z_pt {i : Nat} {p : List Stp} : (Opd.pt i p).isFz = false := rfl
theorem calm_ok {a : α} : (Rr.ok a ρ).calm = .ok a ρ := rfl
theorem al_pt0 {i : Nat} : alias_ ρ (.pt i []) = (match ρ[i]? with
      | some (.ow d) => some (.fz (freeze d), ρ.set i (.fz (freeze d)))
      | _ => none) := rfl
theorem pd_tup {xs : List D} : opd (.tup xs) = if isFrL xs then .fz (.tup xs) else .ow (.tup xs) := rfl
theorem so_tup {b : Bool} {xs : List D} : slotOf b (.tup xs) = if b || isFrL xs then .fz (.tup xs) else .ow (.tup xs) := rfl
theorem cm_isb {a b : Bool} : cmpV .is (.bl a) (.bl b) = some (decide (a = b)) := by simp [cmpV, Bool.beq_eq_decide_eq]
theorem cm_isnb {a b : Bool} : cmpV .isnot (.bl a) (.bl b) = some (!decide (a = b)) := by simp [cmpV, Bool.beq_eq_decide_eq]
theorem cm_isn {a : D} : cmpV .is a .non = some (match a with | .non => true | _ => false) := by cases a <;> rfl
theorem cm_isnn {a : D} : cmpV .isnot a .non = some (match a with | .non => false | _ => true) := by cases a <;> rfl
theorem eo_bb {x y : Bool} : eqOk (.bl x) (.bl y) = true := rfl
theorem ed_bb {x y : Bool} : eqD (.bl x) (.bl y) = decide (x = y) := by simp [eqD, Bool.beq_eq_decide_eq]
theorem bp_at {xs ys : List D} (h : xs.length + ys.length ≤ line) : bop .Add (.tup xs) (.tup ys) = some (.tup (xs ++ ys)) := if_pos h
/-- a length that is small -/
theorem line_le {n : Nat} (h : n ≤ 16777216) : n ≤ line := h
theorem line_s {n : Nat} : n ≤ line ↔ n ≤ 16777216 := .rfl
theorem line_t {n : Nat} : n < line ↔ n < 16777216 := .rfl
theorem as_nm {i : Nat} {b : Bool} {d : D} : asgT (.nm i) b d ρ = (match ρ[i]? with
    | some s => if s.pin then none else some (ρ.set i (slotOf b d))
    | none => none) := by rw [asgT] <;> rfl
theorem as_tp {ts : List Tg} {b : Bool} {xs : List D} : asgT (.tp ts) b (.tup xs) ρ = asgTs ts b xs ρ := by rw [asgT] <;> rfl
theorem as_0 {b : Bool} : asgTs [] b [] ρ = some ρ := by rw [asgTs] <;> rfl
theorem as_1 {t : Tg} {ts : List Tg} {b : Bool} {x : D} {xs : List D} : asgTs (t :: ts) b (x :: xs) ρ = (match asgT t b x ρ with
    | some ρ' => asgTs ts b xs ρ'
    | none => none) := by rw [asgTs] <;> rfl
theorem s_fz {d : D} {x : D} : shr (.fz d) x = true := rfl
theorem s_ow {d : D} {x : D} : shr (.ow d) x = sub1 x := rfl
theorem s_pt {i : Nat} {p : List Stp} {x : D} : shr (.pt i p) x = sub1 x := rfl
theorem pd_non : opd .non = .fz .non := rfl
theorem pd_bl {b : Bool} : opd (.bl b) = .fz (.bl b) := rfl
theorem pd_int {b : Int} : opd (.int b) = .fz (.int b) := rfl
theorem pd_str {b : Sg} : opd (.str b) = .fz (.str b) := rfl
theorem pd_lst {xs : List D} : opd (.lst true xs) = .ow (.lst true xs) := rfl
theorem pd_fr {d : D} (h : isFr d = true) : opd d = .fz d := if_pos h
theorem so_t {d : D} : slotOf true d = .fz d := rfl
theorem so_non {b : Bool} : slotOf b .non = .fz .non := by cases b <;> rfl
theorem so_bl {b c : Bool} : slotOf b (.bl c) = .fz (.bl c) := by cases b <;> rfl
theorem so_int {b : Bool} {c : Int} : slotOf b (.int c) = .fz (.int c) := by cases b <;> rfl
theorem so_str {b : Bool} {c : Sg} : slotOf b (.str c) = .fz (.str c) := by cases b <;> rfl
theorem so_lst {xs : List D} : slotOf false (.lst true xs) = .ow (.lst true xs) := rfl
theorem so_fr {b : Bool} {d : D} (h : isFr d = true) : slotOf b d = .fz d := by unfold slotOf; rw [h, Bool.or_true, if_pos rfl]
theorem tr_bl {b : Bool} : tru (.bl b) = some b := rfl
theorem tr_non : tru .non = some false := rfl
theorem tr_int {i : Int} : tru (.int i) = some (!decide (i = 0)) := by simp [tru, bne, Bool.beq_eq_decide_eq]
theorem f_nx {ms : List Mode} : finish ms (.nx ρ) = (match musOf ms ρ with | some mus => .rt .non mus | none => .stuck) := rfl
theorem f_rt {ms : List Mode} {d : D} : finish ms (.rt d ρ) = (match musOf ms ρ with | some mus => .rt d mus | none => .stuck) := rfl
theorem f_exc {ms : List Mode} {d : Exc} : finish ms (.exc d ρ) = (match musOf ms ρ with | some mus => .exc d mus | none => .stuck) := rfl
theorem ad_pt {m : Mode} {i : Nat} {p : List Stp} : argD ρ m (.pt i p) = getP ρ i p := by cases m <;> rfl
theorem ad_fz {d : D} : argD ρ .al (.fz d) = some d := rfl
theorem ad_ow {d : D} : argD ρ .al (.ow d) = some (freeze d) := rfl
theorem ad_bfz {d : D} : argD ρ .bw (.fz d) = some d := rfl
theorem ad_bow {d : D} : argD ρ .bw (.ow d) = some (freeze d) := rfl
theorem cm_eq {a b : D} : cmpV .eq a b = if eqOk a b then some (eqD a b) else none := rfl
theorem cm_ne {a b : D} : cmpV .ne a b = if eqOk a b then some (!eqD a b) else none := rfl
theorem cm_lt {a b : Int} : cmpV .lt (.int a) (.int b) = some (decide (a < b)) := rfl
theorem cm_le {a b : Int} : cmpV .le (.int a) (.int b) = some (decide (a ≤ b)) := rfl
theorem cm_gt {a b : Int} : cmpV .gt (.int a) (.int b) = some (decide (b < a)) := rfl
theorem cm_ge {a b : Int} : cmpV .ge (.int a) (.int b) = some (decide (b ≤ a)) := rfl
theorem cm_in {a b : D} : cmpV .isin a b = isIn a b := rfl
theorem cm_ni {a b : D} : cmpV .notin a b = (isIn a b).map (!·) := rfl
theorem is_in {c : Nat} {z : Sg} : isIn (.str [c]) (.str z) = some (decide (c ∈ z)) := rfl
theorem eo_ss {x y : Sg} : eqOk (.str x) (.str y) = true := rfl
theorem eo_ii {x y : Int} : eqOk (.int x) (.int y) = true := rfl
theorem ed_ss {x y : Sg} : eqD (.str x) (.str y) = decide (x = y) := by simp [eqD, Bool.beq_eq_decide_eq]
theorem ed_ii {x y : Int} : eqD (.int x) (.int y) = decide (x = y) := by simp [eqD, Bool.beq_eq_decide_eq]
theorem bp_ai {i j : Int} : bop .Add (.int i) (.int j) = some (.int (i + j)) := rfl
theorem bp_si {i j : Int} : bop .Sub (.int i) (.int j) = some (.int (i - j)) := rfl
theorem bp_mi {i j : Int} (h : (small i || small j) = true) : bop .Mult (.int i) (.int j) = some (.int (i * j)) := if_pos h
theorem bp_fi {i j : Int} (h : 0 < j ∧ j < 1073741824) : bop .FloorDiv (.int i) (.int j) = some (.int (i / j)) := if_pos h
theorem bp_ri {i j : Int} (h : 0 < j) : bop .Mod (.int i) (.int j) = some (.int (i % j)) := if_pos h
theorem bp_pi {i j : Int} (h : 0 ≤ j ∧ j ≤ 1000 ∧ small i = true) : bop .Pow (.int i) (.int j) = some (.int (i ^ j.toNat)) := if_pos h
theorem bp_as {x y : Sg} (h : x.length + y.length ≤ line) : bop .Add (.str x) (.str y) = some (.str (x ++ y)) := if_pos h
theorem bp_ms {x : Sg} {k : Int} (h : x.length * k.toNat ≤ line ∧ k < 1000000 ∧ -1000000 < k) : bop .Mult (.str x) (.int k) = some (.str (List.replicate k.toNat x).flatten) := if_pos h
theorem bp_al {o o' : Bool} {xs ys : List D} (h : xs.length + ys.length ≤ line) : bop .Add (.lst o xs) (.lst o' ys) = some (.lst true (xs ++ ys)) := if_pos h
theorem ln_str {x : Sg} (h : x.length ≤ line) : lenV (.str x) = some (x.length : Int) := if_pos h
theorem ln_tup {xs : List D} : lenV (.tup xs) = some (xs.length : Int) := rfl
theorem ln_lst {o : Bool} {xs : List D} : lenV (.lst o xs) = some (xs.length : Int) := rfl
theorem iv_lst {o : Bool} {xs : List D} {i : Int} : ixVal (.lst o xs) (.int i) = (ixN xs.length i).bind fun j => xs[j]? := rfl
theorem iv_tup {xs : List D} {i : Int} : ixVal (.tup xs) (.int i) = (ixN xs.length i).bind fun j => xs[j]? := rfl
theorem iv_str {x : Sg} {i : Int} (h : x.length ≤ line) : ixVal (.str x) (.int i) = ((ixN x.length i).bind fun j => x[j]?).map fun c => .str [c] := if_pos h
theorem is_lst {o : Bool} {xs : List D} {i : Int} : ixStp (.lst o xs) (.int i) = (ixN xs.length i).map Stp.ix := rfl
theorem ixN_nat {n j : Nat} : ixN n (j : Int) = if j < n then some j else none := by
  unfold ixN
  rw [if_pos (by omega)]
  by_cases h : j < n
  · rw [if_pos (by omega), if_pos h]; simp
  · rw [if_neg (by omega), if_neg h]
theorem ixN_0 {n : Nat} : ixN (n + 1) 0 = some 0 := by
  have := ixN_nat (n := n + 1) (j := 0)
  simpa using this
theorem sl_str {x : Sg} {lo hi : Option Int} (h : x.length ≤ line) : slice (.str x) lo hi = some (.str (cut x lo hi)) := if_pos h
theorem sl_lst {o : Bool} {xs : List D} {lo hi : Option Int} : slice (.lst o xs) lo hi = some (.lst true (cut xs lo hi)) := rfl
theorem sl_tup {xs : List D} {lo hi : Option Int} : slice (.tup xs) lo hi = some (.tup (cut xs lo hi)) := rfl
theorem sl_scr {xs : List Int} {lo hi : Option Int} : slice (.scr xs) lo hi = some (.lst true ((cut xs lo hi).map .int)) := rfl
theorem it_str {x : Sg} : items (.str x) = some (x.map fun c => .str [c]) := rfl
theorem it_lst {o : Bool} {xs : List D} : items (.lst o xs) = some xs := rfl
theorem it_tup {xs : List D} : items (.tup xs) = some xs := rfl
theorem ipt_fz {d : D} : isPt (.fz d) = none := rfl
theorem ipt_ow {d : D} : isPt (.ow d) = none := rfl
theorem ipt_pt {i : Nat} {p : List Stp} : isPt (.pt i p) = some i := rfl
theorem lk_n : lock ρ none = ρ := rfl
theorem ul_n : unlock ρ' none ρ = some ρ := rfl
theorem st_str {x : Sg} : isStr (.str x) = true := rfl
theorem st_lst {o : Bool} {xs : List D} : isStr (.lst o xs) = false := rfl
theorem st_tup {xs : List D} : isStr (.tup xs) = false := rfl
theorem u1_lst {o : Bool} {xs : List D} : sub1 (.lst o xs) = isFrL xs := rfl
theorem u1_tup {xs : List D} : sub1 (.tup xs) = isFrL xs := rfl
theorem u1_str {x : Sg} : sub1 (.str x) = true := rfl
theorem fl_int {i : Int} : flat (.int i) = true := rfl
theorem fl_bl {i : Bool} : flat (.bl i) = true := rfl
theorem fl_str {i : Sg} : flat (.str i) = true := rfl
theorem uo_nx : unlockO ρ' none (.nx ρ) = .nx ρ := rfl
theorem uo_rt {d : D} : unlockO ρ' none (.rt d ρ) = .rt d ρ := rfl
theorem uo_exc {d : Exc} : unlockO ρ' none (.exc d ρ) = .exc d ρ := rfl
theorem oo_s {a : α} : ofOpt ρ (some a) = .ok a ρ := rfl
theorem cr_0 {ms : List Mode} {os : List Opd} {m : List D → FRes} {ds : List D} {d : D} (h1 : argV ρ ms os = some ds) (h2 : muPl ms os = []) (h3 : m ds = .rt d []) : callR ρ ms os m = .ok (opd d) ρ := by
  unfold callR; rw [h1]; dsimp only; rw [h2]; dsimp only; rw [h3]
/-- a for's turn -/
def frB (F : Fn) (sub : Str → Str → Option Bool) (N : Nat) (ks : List Bool) (t : Tg) (bz : Bool) (b : List St) (x : D) (ρ : Env) : Out := match asgT t bz x ρ with
  | some ρ' => (evSs F sub N b ρ').mp ks
  | none => .stuck
/-- a comprehension's turn -/
def lcB (F : Fn) (t : Tg) (bz : Bool) (c : Option Ex) (e : Ex) (x : D) (ρ : Env) : Rr (Option D) := lcT t bz (fun ρ => evC F c ρ) (fun ρ => evE F e ρ) x ρ
def whC (F : Fn) (c : Ex) (ρ : Env) : Rr Bool := tst (evE F c ρ)
def whB (F : Fn) (sub : Str → Str → Option Bool) (N : Nat) (ks : List Bool) (b : List St) (ρ : Env) : Out := (evSs F sub N b ρ).mp ks
theorem fr_ap {ks : List Bool} {t : Tg} {bz : Bool} {b : List St} {x : D} : frB F sub N ks t bz b x ρ = (match asgT t bz x ρ with
  | some ρ' => (evSs F sub N b ρ').mp ks
  | none => .stuck) := rfl
theorem lc_ap {t : Tg} {bz : Bool} {c : Option Ex} {e : Ex} {x : D} : lcB F t bz c e x ρ = (match asgT t bz x ρ with
  | none => .stuck
  | some ρ' => (evC F c ρ').bind fun b ρ2 => if b then (evE F e ρ2).bind fun o ρ3 => (match alias_ ρ3 o with
    | some (o', ρ4) => .ok (some o'.val) ρ4
    | none => .stuck) else .ok none ρ2) := rfl
theorem wc_ap {c : Ex} : whC F c ρ = tst (evE F c ρ) := rfl
theorem wb_ap {ks : List Bool} {b : List St} : whB F sub N ks b ρ = (evSs F sub N b ρ).mp ks := rfl
theorem e_asg {t : Tg} {e : Ex} : evS F sub N (.asg t e) ρ = (evE F e ρ).out fun o ρ1 => match alias_ ρ1 o with
    | some (o', ρ2) => (match asgT t o'.isFz o'.val ρ2 with | some ρ3 => .nx ρ3 | none => .stuck)
    | none => .stuck := by rw [evS] <;> rfl
theorem e_sub {a i e : Ex} : evS F sub N (.sub a i e) ρ = (evE F e ρ).out fun o ρ1 => match alias_ ρ1 o with
    | some (o', ρ2) => (evE F a ρ2).out fun x ρ3 => (evE F i ρ3).out fun y ρ4 => (match x, con ρ4 x, con ρ4 y with
      | .pt j p, some d, some k => if okPt x i then (match ixStp d k with
        | some st => (match setP ρ4 j (p ++ [st]) o'.val with
          | some ρ5 => .nx ρ5
          | none => .stuck)
        | none => .stuck) else .stuck
      | _, _, _ => .stuck)
    | none => .stuck := by rw [evS] <;> rfl
theorem e_ret {e : Ex} : evS F sub N (.ret e) ρ = (evE F e ρ).out fun o ρ1 => match alias_ ρ1 o with
    | some (o', ρ2) => .rt o'.val ρ2
    | none => .stuck := by rw [evS] <;> rfl
theorem e_retN : evS F sub N .retN ρ = .rt .non ρ := by rw [evS]
theorem e_ifs {c : Ex} {a b : List St} : evS F sub N (.ifs c a b) ρ = (tst (evE F c ρ)).out fun t ρ1 => if t then evSs F sub N a ρ1 else evSs F sub N b ρ1 := by rw [evS]
theorem e_whl {ks : List Bool} {c : Ex} {b : List St} : evS F sub N (.whl ks c b) ρ = whlL (whC F c) (whB F sub N ks b) N (killE ks ρ) := by rw [evS] <;> rfl
theorem e_fr {ks : List Bool} {t : Tg} {it : It} {b : List St} : evS F sub N (.fr ks t it b) ρ = (evI F it ρ).out fun x ρ1 => unlockO ρ1 x.2.2 (forL (frB F sub N ks t x.2.1 b) x.1 (killE ks (lock ρ1 x.2.2))) := by rw [evS] <;> rfl
theorem e_ex {e : Ex} : evS F sub N (.ex e) ρ = (evE F e ρ).out fun _ ρ1 => .nx ρ1 := by rw [evS]
theorem e_rse {c : Str} : evS F sub N (.rse c) ρ = .exc ⟨c, []⟩ ρ := by rw [evS]
theorem e_try {b : List St} {hs : List (Str × Nat × D)} : evS F sub N (.tryx b hs) ρ = (match evSs F sub N b ρ with
    | .exc x ρ1 => (match pick sub x.cls hs with
      | some (some (i, d)) => (match asgT (.nm i) true d ρ1 with | some ρ2 => .nx ρ2 | none => .stuck)
      | some none => .exc x ρ1
      | none => .stuck)
    | o => o) := by rw [evS] <;> rfl
theorem e_brk : evS F sub N .brk ρ = .bk ρ := by rw [evS]
theorem e_cont : evS F sub N .cont ρ = .ct ρ := by rw [evS]
theorem e_pass : evS F sub N .pass ρ = .nx ρ := by rw [evS]
theorem e_lc {own : List Nat} {t : Tg} {it : It} {c : Option Ex} {e : Ex} : evE F (.lc own t it c e) ρ = (evI F it ρ).bind fun x ρ1 =>
    (lcL (lcB F t x.2.1 c e) own x.1 [] (lock ρ1 x.2.2)).calm.bind fun ys ρ2 =>
    match (backE ρ1 ρ2 own).bind (unlock ρ1 x.2.2) with
    | some ρ3 => .ok (.ow (.lst true ys)) ρ3
    | none => .stuck := by rw [evE] <;> rfl
theorem x_var {i : Nat} : evE F (.var i) ρ = (match ρ[i]? with
    | some (.fz d) => .ok (.fz d) ρ
    | some (.ow _) => .ok (.pt i []) ρ
    | some (.bw _) => .ok (.pt i []) ρ
    | some (.mw _) => .ok (.pt i []) ρ
    | _ => .stuck) := by rw [evE] <;> rfl
theorem x_mv {i : Nat} : evE F (.mv i) ρ = (match ρ[i]? with
    | some (.fz d) => .ok (.fz d) ρ
    | some (.ow d) => .ok (.ow d) (ρ.set i .un)
    | _ => .stuck) := by rw [evE] <;> rfl
theorem x_lit {d : D} : evE F (.lit d) ρ = .ok (.fz d) ρ := by rw [evE]
theorem x_dct0 : evE F .dct0 ρ = .ok (.fz (.dct false [])) ρ := by rw [evE]
theorem x_bop {op : Operator} {a b : Ex} : evE F (.bop op a b) ρ = (evE F a ρ).bind fun x ρ1 => (evE F b ρ1).bind fun y ρ2 =>
    match con ρ2 x, con ρ2 y with
    | some d, some e => if okPt x b && (shr x d && shr y e) then ofOpt ρ2 ((bop op d e).map opd) else .stuck
    | _, _ => .stuck := by rw [evE] <;> rfl
theorem x_neg {a : Ex} : evE F (.neg a) ρ = (evE F a ρ).bind fun x ρ1 => match x with
    | .fz (.int i) => .ok (.fz (.int (-i))) ρ1
    | _ => .stuck := by rw [evE] <;> rfl
theorem x_cmp {op : Cop} {a b : Ex} : evE F (.cmp op a b) ρ = (evE F a ρ).bind fun x ρ1 => (evE F b ρ1).bind fun y ρ2 =>
    match con ρ2 x, con ρ2 y with
    | some d, some e => if okPt x b then ofOpt ρ2 ((cmpV op d e).map fun c => .fz (.bl c)) else .stuck
    | _, _ => .stuck := by rw [evE] <;> rfl
theorem x_cmp2 {op op' : Cop} {a b c : Ex} : evE F (.cmp2 op op' a b c) ρ = (evE F a ρ).bind fun x ρ1 => (evE F b ρ1).bind fun y ρ2 =>
    match con ρ2 x, con ρ2 y with
    | some d, some e => if okPt x b && okPt y c then (match cmpV op d e with
      | some true => (evE F c ρ2).bind fun z ρ3 => (match con ρ3 y, con ρ3 z with
        | some e', some g => ofOpt ρ3 ((cmpV op' e' g).map fun k => .fz (.bl k))
        | _, _ => .stuck)
      | some false => .ok (.fz (.bl false)) ρ2
      | none => .stuck) else .stuck
    | _, _ => .stuck := by rw [evE] <;> rfl
theorem x_band {a b : Ex} : evE F (.band a b) ρ = (evE F a ρ).bind fun x ρ1 => match (con ρ1 x).bind tru with
    | some true => evE F b ρ1
    | some false => .ok x ρ1
    | none => .stuck := by rw [evE] <;> rfl
theorem x_bor {a b : Ex} : evE F (.bor a b) ρ = (evE F a ρ).bind fun x ρ1 => match (con ρ1 x).bind tru with
    | some true => .ok x ρ1
    | some false => evE F b ρ1
    | none => .stuck := by rw [evE] <;> rfl
theorem x_bnot {a : Ex} : evE F (.bnot a) ρ = (evE F a ρ).bind fun x ρ1 => match (con ρ1 x).bind tru with
    | some c => .ok (.fz (.bl (!c))) ρ1
    | none => .stuck := by rw [evE] <;> rfl
theorem x_ife {c a b : Ex} : evE F (.ife c a b) ρ = (tst (evE F c ρ)).bind fun t ρ1 => if t then evE F a ρ1 else evE F b ρ1 := by rw [evE]
theorem x_tup {es : List Ex} : evE F (.tup es) ρ = (evEs F es ρ).bind fun os ρ1 => match if okPts os es then aliases ρ1 os else none with
    | some (ds, b, ρ2) => if ds.length ≤ line then .ok (if b then .fz (.tup ds) else .ow (.tup ds)) ρ2 else .stuck
    | none => .stuck := by rw [evE] <;> rfl
theorem x_lst {es : List Ex} : evE F (.lst es) ρ = (evEs F es ρ).bind fun os ρ1 => match if okPts os es then aliases ρ1 os else none with
    | some (ds, _, ρ2) => if ds.length ≤ line then .ok (.ow (.lst true ds)) ρ2 else .stuck
    | none => .stuck := by rw [evE] <;> rfl
theorem x_sub {a i : Ex} : evE F (.sub a i) ρ = (evE F a ρ).bind fun x ρ1 => (evE F i ρ1).bind fun y ρ2 =>
    match con ρ2 x, con ρ2 y with
    | some d, some k => if okPt x i then (match ixVal d k with
      | some e => (match x with
        | .fz _ => .ok (.fz e) ρ2
        | .ow _ => if isFr e then .ok (.fz e) ρ2 else .stuck
        | .pt j p => if isFr e then .ok (.fz e) ρ2 else (match ixStp d k with
          | some st => .ok (.pt j (p ++ [st])) ρ2
          | none => .stuck))
      | none => .stuck) else .stuck
    | _, _ => .stuck := by rw [evE] <;> rfl
theorem x_slc {a : Ex} {lo hi : Option Ex} : evE F (.slc a lo hi) ρ = (evE F a ρ).bind fun x ρ1 => (evO F lo ρ1).bind fun l ρ2 => (evO F hi ρ2).bind fun h ρ3 =>
    match con ρ3 x with
    | some d => if okPtO x lo && (okPtO x hi && shr x d) then ofOpt ρ3 ((slice d l h).map opd) else .stuck
    | none => .stuck := by rw [evE] <;> rfl
theorem x_call {f : Str} {es : List Ex} : evE F (.call f es) ρ = (evEs F es ρ).bind fun os ρ1 => match F.modes f with
    | none => .stuck
    | some ms => match if okPts os es then alPass ρ1 ms os else none with
      | none => .stuck
      | some (os', ρ2) => callR ρ2 ms os' (F.run f) := by rw [evE] <;> rfl
theorem x_bi {f : Str} {es : List Ex} : evE F (.bi f es) ρ = (evEs F es ρ).bind fun os ρ1 => match cons_ ρ1 os with
    | some ds => if okPts os es then (match biV f ds with
      | some r => if flat r || shrs os ds then .ok (opd r) ρ1 else .stuck
      | none => .stuck) else .stuck
    | none => .stuck := by rw [evE] <;> rfl
theorem x_isi {a : Ex} {t : Str} : evE F (.isi a t) ρ = (evE F a ρ).bind fun x ρ1 => match con ρ1 x with
    | some d => ofOpt ρ1 ((isInst d t).map fun b => .fz (.bl b))
    | none => .stuck := by rw [evE] <;> rfl
theorem x_mth {m : Str} {o : Ex} {es : List Ex} : evE F (.mth m o es) ρ = (evE F o ρ).bind fun x ρ1 => if ((con ρ1 x).map (tyOk m)).getD false then (evEs F es ρ1).bind fun os ρ2 =>
    if okPt x (.tup es) && okPts os es then (if isMut m then (match x with
      | .pt i p => (match aliases ρ2 os with
        | some (ds, _, ρ3) => (match getP ρ3 i p with
          | some d => (match mutV m d ds with
            | some (r, d') => (match setP ρ3 i p d' with
              | some ρ4 => .ok (opd r) ρ4
              | none => .stuck)
            | none => .stuck)
          | none => .stuck)
        | none => .stuck)
      | _ => .stuck)
    else (match con ρ2 x, cons_ ρ2 os with
      | some d, some ds => (match mthV m d ds with
        | some r => if flat r || (shr x d && shrs os ds) then .ok (opd r) ρ2 else .stuck
        | none => .stuck)
      | _, _ => .stuck)) else .stuck
    else .stuck := by rw [evE] <;> rfl
end
end Rw

set_option Elab.async false
set_option linter.all false
set_option maxRecDepth 100000
/-! RwU: what laws draw. -/
namespace Rw
open PySem
local macro_rules
  | `(tactic| trivial) => `(tactic| simp [callD, freeze, freezeL, freezeP, isFrP, calm_ok, z_pt, al_pt0, lock, unlock, backE, wipeE, killE, Slot.kl, Out.mp, pureE, pureEs, pureO, pureI, mv_popi, mv_append, mv_pop, ty_pop, ty_append, ty_join, mut_pop, mut_join, mut_append, isStrD, initE, musOf, evSs, evEs, evO, evI, evC, tst, getP, getAt, setP, setAt,
    isFr, isFrL, aliases, alPass, argV, callR, muPl, bwRoots, okPts, shrs, as_nm, as_tp, as_0, as_1, cons_, ff_run, ff_modes, bi_len, bi_int, bi_abs, bi_sum,
    fr_ap, lc_ap, wc_ap, wb_ap, e_asg, e_sub, e_ret, e_retN, e_ifs, e_whl, e_fr, e_ex, e_rse, e_try, e_brk, e_cont, e_pass, e_lc,
    x_var, x_mv, x_lit, x_dct0, x_bop, x_neg, x_cmp, x_cmp2, x_band, x_bor, x_bnot, x_ife, x_tup, x_lst, x_sub, x_slc, x_call, x_bi, x_isi, x_mth,
    b_ok, b_exc, o_ok, o_exc, th_nx, th_rt, th_bk, th_ct, th_exc, c_fz, c_ow, c_pt, al_fz, al_ow, v_fz, v_ow, z_fz, z_ow,
    k_fz, k_ow, k_pt0, k_pt, ko_fz, ko_ow, ko_pt0, ko_pt, n_fz, n_ow, n_pt0, n_pt, p_un, p_fz, p_ow, p_bw, p_mw, sc_fz, sc_ow, sc_bw, sc_mw,
    s_fz, s_ow, s_pt, pd_non, pd_bl, pd_int, pd_str, pd_lst, pd_tup, so_t, so_non, so_bl, so_int, so_str, so_lst, so_tup, tr_bl, tr_non, tr_int,
    f_nx, f_rt, f_exc, ad_pt, ad_fz, ad_ow, cm_eq, cm_ne, cm_lt, cm_le, cm_gt, cm_ge, cm_in, cm_ni, cm_isb, cm_isnb, cm_isn, cm_isnn, is_in, eo_ss, eo_ii, eo_bb, ed_ss, ed_ii, ed_bb,
    bp_ai, bp_si, bp_mi, bp_fi, bp_ri, bp_pi, bp_as, bp_ms, bp_al, bp_at, ln_str, ln_tup, ln_lst, iv_lst, iv_tup, iv_str, is_lst,
    sl_str, sl_lst, sl_tup, sl_scr, it_str, it_lst, it_tup, ipt_fz, ipt_ow, ipt_pt, lk_n, ul_n, st_str, st_lst, st_tup,
    u1_lst, u1_tup, u1_str, fl_int, fl_bl, fl_str, uo_nx, uo_rt, uo_exc, oo_s, ixN_0, line_s, line_t, *])
def C__law_pot_0 : Ex := (.lc [2] (.nm 2) (.seq (.slc (.var 0) none (some (.lit (.int (63)))))) none (.bi "int" [(.var 2)]))
def C__law_pot_1 : Ex := (.lc [2] (.nm 2) (.seq (.var 1)) (some (.cmp .ge (.bi "abs" [(.var 2)]) (.bop .Pow (.lit (.int (10))) (.lit (.int (18)))))) (.bi "abs" [(.var 2)]))
def C__law_pot_2 : Ex := (.lc [2] (.nm 2) (.seq (.var 1)) (some (.cmp .lt (.bi "abs" [(.var 2)]) (.bop .Pow (.lit (.int (10))) (.lit (.int (18)))))) (.bop .Mod (.bi "int" [(.var 2)]) (.lit (.int (1000000007)))))
/-- _law_pot: 0=script 1=cells 2=item 3=greats 4=smalls -/
def c__law_pot : Def where
  modes := [.al]
  ns := 5
  body := [
  (.asg (.nm 1) C__law_pot_0),
  (.asg (.nm 3) C__law_pot_1),
  (.asg (.nm 4) (.bop .Add C__law_pot_2 (.lst [(.bop .Add (.bi "len" [(.var 1)]) (.lit (.int (1))))]))),
  (.ret (.lst [(.mv 3), (.var 4), (.lit (.int (0))), (.bop .Mod (.bi "int" [(.bi "sum" [(.var 4)])]) (.lit (.int (999983))))]))]
@[reducible] def V__law_pot (v_script v_cells v_item v_greats v_smalls : Rw.Slot := .un) : Rw.Env := [v_script, v_cells, v_item, v_greats, v_smalls]
/-- _law_draw: 0=pot 1=many 2=turn 3=number 4=seed -/
def c__law_draw : Def where
  modes := [.mu, .al]
  ns := 5
  body := [
  (.asg (.nm 2) (.sub (.var 0) (.lit (.int (2))))),
  (.sub (.var 0) (.lit (.int (2))) (.bop .Add (.var 2) (.lit (.int (1))))),
  (.ifs (.cmp .gt (.bi "len" [(.sub (.var 0) (.lit (.int (0))))]) (.lit (.int (0)))) [(.asg (.nm 3) (.sub (.sub (.var 0) (.lit (.int (0)))) (.lit (.int (0))))), (.sub (.sub (.var 0) (.lit (.int (0)))) (.lit (.int (0))) (.bop .FloorDiv (.var 3) (.var 1))), (.ifs (.cmp .lt (.var 3) (.var 1)) [(.ex (.mth "pop" (.sub (.var 0) (.lit (.int (0)))) [(.lit (.int (0)))]))] []), (.ret (.bop .Mod (.bi "int" [(.var 3)]) (.var 1)))] []),
  (.asg (.nm 4) (.bop .Add (.bop .Add (.bop .Mult (.sub (.sub (.var 0) (.lit (.int (1)))) (.bop .Mod (.bi "int" [(.var 2)]) (.bi "len" [(.sub (.var 0) (.lit (.int (1))))]))) (.lit (.int (7919)))) (.bop .Mult (.lit (.int (104729))) (.var 2))) (.bop .Mult (.sub (.var 0) (.lit (.int (3)))) (.lit (.int (31)))))),
  (.asg (.nm 3) (.bop .Mod (.bi "int" [(.bop .Add (.bop .Mult (.var 4) (.lit (.int (48271)))) (.lit (.int (11))))]) (.lit (.int (2147483647))))),
  (.asg (.nm 3) (.bop .Mod (.bi "int" [(.bop .Mult (.var 3) (.bop .Add (.bop .FloorDiv (.var 3) (.lit (.int (1009)))) (.lit (.int (69621)))))]) (.lit (.int (2147483629))))),
  (.asg (.nm 3) (.bop .Mod (.bi "int" [(.bop .Add (.bop .Mult (.var 3) (.bop .Add (.bop .FloorDiv (.var 3) (.lit (.int (2003)))) (.lit (.int (40692))))) (.var 2))]) (.lit (.int (2147483399))))),
  (.ret (.bop .Mod (.bi "int" [(.bop .FloorDiv (.var 3) (.lit (.int (64))))]) (.var 1)))]
@[reducible] def V__law_draw (v_pot v_many v_turn v_number v_seed : Rw.Slot := .un) : Rw.Env := [v_pot, v_many, v_turn, v_number, v_seed]
def C__law_string_0 : Ex := (.lc [3] (.nm 3) (.rng (.call "_law_draw" [(.var 0), (.bop .Add (.var 2) (.lit (.int (1))))])) none (.sub (.lit (.str [97, 98, 99])) (.call "_law_draw" [(.var 0), (.var 1)])))
/-- _law_string: 0=pot 1=letters 2=most 3=k -/
def c__law_string : Def where
  modes := [.mu, .al, .al]
  ns := 4
  body := [
  (.ret (.mth "join" (.lit (.str [])) [C__law_string_0]))]
@[reducible] def V__law_string (v_pot v_letters v_most v_k : Rw.Slot := .un) : Rw.Env := [v_pot, v_letters, v_most, v_k]
/-- _law_any: 0=pot 1=items -/
def c__law_any : Def where
  modes := [.mu, .al]
  ns := 2
  body := [
  (.ret (.sub (.var 1) (.call "_law_draw" [(.var 0), (.bi "len" [(.var 1)])])))]
@[reducible] def V__law_any (v_pot v_items : Rw.Slot := .un) : Rw.Env := [v_pot, v_items]

theorem frL_ints (xs : List Int) : isFrL (xs.map D.int) = true := by
  induction xs with
  | nil => rfl
  | cons x xs ih => simp [isFrL, isFr, ih]
theorem frzL_ints (xs : List Int) : freezeL (xs.map D.int) = xs.map D.int := by
  induction xs with
  | nil => rfl
  | cons x xs ih => simp [freezeL, freeze, ih]
theorem intsOf_ints (xs : List Int) : intsOf (xs.map D.int) = some xs := by
  induction xs with
  | nil => rfl
  | cons x xs ih => simp [intsOf, ih]
theorem i_rng {F : Fn} {a : Ex} {n : Int} {ρ ρ1 : Rw.Env} (h : evE F a ρ = .ok (.fz (.int n)) ρ1) (hr : rOk n = true) : evI F (.rng a) ρ = .ok (rangeD 0 n, true, none) ρ1 := by
  rw [evI, h]
  exact if_pos hr
theorem i_rng2 {F : Fn} {a b : Ex} {m n : Int} {ρ ρ1 ρ2 : Rw.Env} (h : evE F a ρ = .ok (.fz (.int m)) ρ1) (h2 : evE F b ρ1 = .ok (.fz (.int n)) ρ2) (hm : rOk m = true) (hr : rOk n = true) : evI F (.rng2 a b) ρ = .ok (rangeD m n, true, none) ρ2 := by
  rw [evI, h, b_ok, h2, b_ok]
  exact if_pos (by rw [hm, hr]; rfl)
theorem rOk_small {i : Int} (h : -1000000 ≤ i) (h2 : i ≤ 1000000) : rOk i = true := by
  unfold rOk
  exact decide_eq_true ⟨by omega, by omega⟩
/-- a for, run -/
theorem fr_run {F : Fn} {sub : Str → Str → Option Bool} {N : Nat} {ks : List Bool} {t : Tg} {it : It} {b : List St} {ρ ρ1 : Env} {xs : List D} {bz : Bool} {o : Out}
    (h : evI F it ρ = .ok (xs, bz, none) ρ1) (h2 : forL (frB F sub N ks t bz b) xs (killE ks ρ1) = o) : evS F sub N (.fr ks t it b) ρ = unlockO ρ1 none o := by
  rw [e_fr, h]
  show unlockO ρ1 none (forL _ xs (killE ks (lock ρ1 none))) = _
  rw [lk_n, h2]
theorem uo_id {ρ : Env} {o : Out} : unlockO ρ none o = o := by cases o <;> rfl
theorem mem_rangeD {x : D} {lo hi : Int} (h : x ∈ rangeD lo hi) : ∃ i : Int, x = .int i ∧ lo ≤ i ∧ i < hi := by
  obtain ⟨k, hk, rfl⟩ := List.mem_map.mp h
  have : k < (hi - lo).toNat := by simpa using hk
  exact ⟨lo + k, rfl, by omega, by omega⟩
/-- a while's turns over states -/
theorem whlL_st {σ : Type} (E : σ → Env) {c : Env → Rr Bool} {f : Env → Out} (I : σ → Prop) (Dn : σ → Prop) (μ : σ → Nat)
    (step : ∀ s, I s → (c (E s) = .ok false (E s) ∧ Dn s) ∨ (c (E s) = .ok true (E s) ∧ ∃ s', f (E s) = .nx (E s') ∧ I s' ∧ μ s' < μ s)) : ∀ (N : Nat) (s : σ), I s → μ s < N → ∃ s', whlL c f N (E s) = .nx (E s') ∧ I s' ∧ Dn s'
  | 0, s, _, h => by omega
  | N + 1, s, hi, h => by
    rcases step s hi with ⟨h1, h2⟩ | ⟨h1, s', h2, h3, h4⟩
    · exact ⟨s, by rw [whlL, h1]; rfl, hi, h2⟩
    · obtain ⟨s2, g1, g2⟩ := whlL_st E I Dn μ step N s' h3 (by omega)
      refine ⟨s2, ?_, g2⟩
      rw [whlL, h1]
      show (match f (E s) with
        | .nx ρ' => whlL c f N ρ'
        | .ct ρ' => whlL c f N ρ'
        | .bk ρ' => .nx ρ'
        | o => o) = _
      rw [h2]
      exact g1
/-- a for's turns over states: g what a turn makes of the state -/
theorem forL_st {σ : Type} (E : σ → Env) {f : D → Env → Out} (I : σ → Prop) : ∀ (xs : List D) (s : σ), I s → (∀ x ∈ xs, ∀ s, I s → ∃ s', f x (E s) = .nx (E s') ∧ I s') → ∃ s', forL f xs (E s) = .nx (E s') ∧ I s'
  | [], s, h, _ => ⟨s, by rw [forL], h⟩
  | x :: xs, s, h, k => by
    obtain ⟨s1, e1, h1⟩ := k x List.mem_cons_self s h
    obtain ⟨s2, e2, h2⟩ := forL_st E I xs s1 h1 fun x hx => k x (List.mem_cons_of_mem _ hx)
    exact ⟨s2, by rw [forL, e1]; exact e2, h2⟩
/-- a for's turns over a range, the state told by the turn's number -/
theorem forL_rng {σ : Type} (E : σ → Env) {f : D → Env → Out} (I : Int → σ → Prop) {hi : Int} : ∀ (n : Nat) (lo : Int) (s : σ), (hi - lo).toNat = n → lo ≤ hi → I lo s → (∀ i s, lo ≤ i → i < hi → I i s → ∃ s', f (.int i) (E s) = .nx (E s') ∧ I (i + 1) s') → ∃ s', forL f (rangeD lo hi) (E s) = .nx (E s') ∧ I hi s'
  | 0, lo, s, hn, hl, h, _ => by
    have : hi = lo := by omega
    subst this
    exact ⟨s, by simp [rangeD, forL], h⟩
  | n + 1, lo, s, hn, hl, h, k => by
    obtain ⟨s1, e1, h1⟩ := k lo s (Int.le_refl _) (by omega) h
    obtain ⟨s2, e2, h2⟩ := forL_rng E I n (lo + 1) s1 (by omega) (by omega) h1 fun i s a b c => k i s (by omega) b c
    refine ⟨s2, ?_, h2⟩
    have : rangeD lo hi = .int lo :: rangeD (lo + 1) hi := by
      unfold rangeD
      rw [hn, show (hi - (lo + 1)).toNat = n by omega, List.range_succ_eq_map, List.map_cons, List.map_map]
      congr 1
      · simp
      · apply List.map_congr_left
        intro a _
        simp only [Function.comp]
        congr 1
        push_cast
        omega
    rw [this, forL, e1]
    exact e2
/-- a for over a range that returns at the first number that p takes -/
theorem forL_ret {f : D → Env → Out} {E : Env} {r : Int → D} {E' : Int → Env} (p : Int → Bool) {hi : Int} : ∀ (n : Nat) (lo : Int), (hi - lo).toNat = n → (∀ i, lo ≤ i → i < hi → f (.int i) E = if p i then .rt (r i) (E' i) else .nx E) →
    (∃ i, lo ≤ i ∧ i < hi ∧ p i = true ∧ (∀ j, lo ≤ j → j < i → p j = false) ∧ forL f (rangeD lo hi) E = .rt (r i) (E' i)) ∨ ((∀ j, lo ≤ j → j < hi → p j = false) ∧ forL f (rangeD lo hi) E = .nx E)
  | 0, lo, hn, _ => by
    refine .inr ⟨fun j a b => by omega, ?_⟩
    have : rangeD lo hi = [] := by simp [rangeD, hn]
    rw [this, forL]
  | n + 1, lo, hn, k => by
    have e : rangeD lo hi = .int lo :: rangeD (lo + 1) hi := by
      unfold rangeD
      rw [hn, show (hi - (lo + 1)).toNat = n by omega, List.range_succ_eq_map, List.map_cons, List.map_map]
      congr 1
      · simp
      · apply List.map_congr_left
        intro a _
        simp only [Function.comp]
        congr 1
        push_cast
        omega
    have k0 := k lo (Int.le_refl _) (by omega)
    rw [e]
    cases hp : p lo with
    | true =>
      rw [hp, if_pos rfl] at k0
      exact .inl ⟨lo, Int.le_refl _, by omega, hp, fun j a b => by omega, by rw [forL, k0]⟩
    | false =>
      rw [hp] at k0
      have k0 : f (.int lo) E = .nx E := k0
      rcases forL_ret p n (lo + 1) (by omega) (fun i a b => k i (by omega) b) with ⟨i, a, b, c, d, g⟩ | ⟨d, g⟩
      · refine .inl ⟨i, by omega, b, c, fun j x y => ?_, by rw [forL, k0]; exact g⟩
        by_cases hj : j = lo
        · rw [hj]; exact hp
        · exact d j (by omega) y
      · refine .inr ⟨fun j x y => ?_, by rw [forL, k0]; exact g⟩
        by_cases hj : j = lo
        · rw [hj]; exact hp
        · exact d j (by omega) y
def pot (gs ss : List Int) (t s : Int) : D := .lst true [.lst true (gs.map .int), .lst false (ss.map .int), .int t, .int s]
def PotOk (d : D) : Prop := ∃ gs ss t s, d = pot gs ss t s ∧ (∀ g ∈ gs, 0 ≤ g) ∧ ss ≠ []
theorem pot_fr {p : D} (h : PotOk p) : isFr p = false := by
  obtain ⟨gs, ss, t, s, rfl, _⟩ := h
  rfl
theorem pot_opd {p : D} (h : PotOk p) : opd p = .ow p := by unfold opd; rw [pot_fr h] <;> rfl
theorem pot_slot {p : D} (h : PotOk p) : slotOf false p = .ow p := by unfold slotOf; rw [pot_fr h] <;> rfl
section
variable {tab : Tab} {sub : Str → Str → Option Bool} (N k : Nat)
theorem draw_g (td : tab "_law_draw" = some c__law_draw) {g : Int} {gs ss : List Int} {t s m : Int} (h1 : 0 < m) (h2 : m < 1073741824) :
    run tab sub N (k + 1) "_law_draw" [pot (g :: gs) ss t s, .int m] = .rt (.int (g % m)) [pot (if g < m then gs else g / m :: gs) ss (t + 1) s] := by
  rw [run_u td, c__law_draw]
  have e0 : ixN 4 0 = some 0 := rfl
  have e2 : ixN 4 2 = some 2 := rfl
  have e3 : ixN (gs.length + 1) 0 = some 0 := ixN_0
  have e4 := mut_pop
  have e5 := fun xs => ty_pop xs
  unfold pot
  clear td
  by_cases c : g < m
  · trivial
  · trivial
theorem small_mod {m : Int} (h : 0 < m) (h2 : m < 2 ^ 64) (x : Int) : small (x % m) = true := by
  unfold small
  have h3 := Int.emod_nonneg x (show m ≠ 0 by omega)
  have h4 := Int.emod_lt_of_pos x h
  exact decide_eq_true ⟨by omega, by omega⟩
theorem draw_s (td : tab "_law_draw" = some c__law_draw) {ss : List Int} {t s m : Int} (h0 : ss ≠ []) (h1 : 0 < m) (h2 : m < 1073741824) :
    ∃ n, run tab sub N (k + 1) "_law_draw" [pot [] ss t s, .int m] = .rt (.int (n % m)) [pot [] ss (t + 1) s] := by
  have hl : 0 < ss.length := List.length_pos_iff.mpr h0
  have r1 := Int.emod_nonneg t (show (ss.length : Int) ≠ 0 by omega)
  have r2 := Int.emod_lt_of_pos t (show (0 : Int) < ss.length by omega)
  obtain ⟨j, hj⟩ := Int.eq_ofNat_of_zero_le r1
  have hj2 : j < ss.length := by omega
  have e5 : ixN ss.length (j : Int) = some j := by rw [ixN_nat, if_pos hj2]
  have e6 : ss[j]? = some ss[j] := List.getElem?_eq_getElem hj2
  have s1 := fun x => small_mod (m := 2147483647) (by omega) (by omega) x
  have s2 := fun x => small_mod (m := 2147483629) (by omega) (by omega) x
  have s3 : small 7919 = true := by decide
  have s4 : small 104729 = true := by decide
  have s5 : small 31 = true := by decide
  have s6 : small 48271 = true := by decide
  have e0 : ixN 4 0 = some 0 := rfl
  have e1 : ixN 4 1 = some 1 := rfl
  have e2 : ixN 4 2 = some 2 := rfl
  have e3 : ixN 4 3 = some 3 := rfl
  have e7 := frL_ints ss
  rw [run_u td, c__law_draw]
  unfold pot
  clear td
  refine ⟨?_, ?_⟩
  rotate_left
  · trivial
    rfl
theorem r_draw (td : tab "_law_draw" = some c__law_draw) {p : D} {m : Int} (hp : PotOk p) (h1 : 0 < m) (h2 : m < 1073741824) :
    ∃ n p', run tab sub N (k + 1) "_law_draw" [p, .int m] = .rt (.int n) [p'] ∧ 0 ≤ n ∧ n < m ∧ PotOk p' := by
  obtain ⟨gs, ss, t, s, rfl, hg, hs⟩ := hp
  cases gs with
  | nil =>
    obtain ⟨n, hn⟩ := draw_s (sub := sub) N k td (t := t) (s := s) hs h1 h2
    exact ⟨_, _, hn, Int.emod_nonneg _ (by omega), Int.emod_lt_of_pos _ h1, [], ss, t + 1, s, rfl, (fun _ h => nomatch h), hs⟩
  | cons g gs =>
    refine ⟨_, _, draw_g N k td h1 h2, Int.emod_nonneg _ (by omega), Int.emod_lt_of_pos _ h1, _, ss, t + 1, s, rfl, ?_, hs⟩
    intro x hx
    split at hx
    · exact hg x (List.mem_cons_of_mem _ hx)
    · rcases List.mem_cons.mp hx with e | e
      · rw [e]; exact Int.ediv_nonneg (hg g List.mem_cons_self) (by omega)
      · exact hg x (List.mem_cons_of_mem _ e)
def bigI (i : Int) : Bool := decide (10 ^ 18 ≤ (if i < 0 then -i else i))
def absI (i : Int) : Int := if i < 0 then -i else i
/-- a comprehension of ints over ints -/
theorem lc_ints {F : Fn} {bz : Bool} {c : Option Ex} {e : Ex} {ρ0 : Rw.Env} (g : Int → Option Int) (xs : List Int) (hl : xs.length ≤ line) (hw : wipeE ρ0 [2] = ρ0)
    (h : ∀ i ∈ xs, ∃ ρ', lcB F (.nm 2) bz c e (.int i) ρ0 = .ok ((g i).map .int) ρ' ∧ wipeE ρ' [2] = ρ0) :
    ∃ ρ', lcL (lcB F (.nm 2) bz c e) [2] (xs.map .int) [] ρ0 = .ok ((xs.filterMap g).map .int) ρ' ∧ ρ'.set 2 .un = ρ0 := by
  obtain ⟨ρ', e1, e2⟩ := lcL_pure (f := lcB F (.nm 2) bz c e) (own := [2]) (ρ0 := ρ0) (fun d => match d with
    | .int i => (g i).map .int
    | _ => none) (xs.map .int) [] ρ0 hw (by simpa using hl) (fun x hx => by
      obtain ⟨i, hi, rfl⟩ := List.mem_map.mp hx
      exact h i hi)
  refine ⟨ρ', ?_, e2⟩
  rw [e1]
  congr 1
  rw [List.nil_append, List.filterMap_map, List.map_filterMap]
  rfl
theorem r_pot (tp : tab "_law_pot" = some c__law_pot) (ns : List Int) (hn : ns.length ≤ 63) : ∃ p, run tab sub N (k + 1) "_law_pot" [.scr ns] = .rt p [] ∧ PotOk p := by
  have hc : cut ns none (some 63) = ns := by
    have e : sIx ns.length ns.length (some 63) = ns.length := by
      unfold sIx
      dsimp only
      rw [if_neg (by omega)]
      exact Nat.min_eq_right hn
    unfold cut
    rw [e]
    simp [sIx]
  have hl : ns.length ≤ 16777216 := by omega
  obtain ⟨ρ1, a1, b1⟩ := lc_ints (F := FFn tab sub N k) (bz := false) (c := none) (e := .bi "int" [(.var 2)]) (ρ0 := [.fz (.scr ns), .un, .un, .un, .un]) (fun i => some i) ns hl rfl (fun i _ => ⟨[.fz (.scr ns), .un, .fz (.int i), .un, .un], by clear tp; trivial, rfl⟩)
  rw [List.filterMap_some] at a1
  have s10 : small 10 = true := by decide
  have fr1 := frL_ints ns
  have fz1 := frzL_ints ns
  obtain ⟨ρ2, a2, b2⟩ := lc_ints (F := FFn tab sub N k) (bz := false) (c := some (.cmp .ge (.bi "abs" [(.var 2)]) (.bop .Pow (.lit (.int (10))) (.lit (.int (18)))))) (e := .bi "abs" [(.var 2)])
    (ρ0 := [.fz (.scr ns), .bw (.lst true (ns.map .int)), .un, .un, .un]) (fun i => if bigI i then some (absI i) else none) ns hl rfl (fun i _ => by
      refine ⟨[.fz (.scr ns), .bw (.lst true (ns.map .int)), .fz (.int i), .un, .un], ?_, rfl⟩
      unfold bigI absI
      clear tp
      trivial
      by_cases h : 1000000000000000000 ≤ (if i < 0 then -i else i)
      · rw [if_pos h, if_pos h]
      · rw [if_neg h, if_neg h])
  obtain ⟨ρ3, a3, b3⟩ := lc_ints (F := FFn tab sub N k) (bz := false) (c := some (.cmp .lt (.bi "abs" [(.var 2)]) (.bop .Pow (.lit (.int (10))) (.lit (.int (18)))))) (e := .bop .Mod (.bi "int" [(.var 2)]) (.lit (.int (1000000007))))
    (ρ0 := [.fz (.scr ns), .bw (.lst true (ns.map .int)), .un, .ow (.lst true ((ns.filterMap fun i => if bigI i then some (absI i) else none).map .int)), .un]) (fun i => if bigI i then none else some (i % 1000000007)) ns hl rfl (fun i _ => by
      refine ⟨[.fz (.scr ns), .bw (.lst true (ns.map .int)), .fz (.int i), .ow (.lst true ((ns.filterMap fun i => if bigI i then some (absI i) else none).map .int)), .un], ?_, rfl⟩
      unfold bigI
      clear tp
      trivial
      by_cases h : (if i < 0 then -i else i) < 1000000000000000000
      · rw [if_pos h, if_neg (by omega)]; rfl
      · rw [if_neg h, if_pos (by omega)]; rfl)
  have l2 : (ns.filterMap fun i => if bigI i then some (absI i) else none).length ≤ ns.length := List.length_filterMap_le _ _
  have l3 : (ns.filterMap fun i => if bigI i then none else some (i % 1000000007)).length ≤ ns.length := List.length_filterMap_le _ _
  have gn : ∀ g ∈ (ns.filterMap fun i => if bigI i then some (absI i) else none), 0 ≤ g := by
    intro g hg
    obtain ⟨i, _, hi⟩ := List.mem_filterMap.mp hg
    split at hi
    · cases hi
      unfold absI
      split <;> omega
    · cases hi
  generalize (ns.filterMap fun i => if bigI i then some (absI i) else none) = gs at *
  generalize (ns.filterMap fun i => if bigI i then none else some (i % 1000000007)) = ss at *
  have m2 : intsOf (List.map D.int ss ++ [D.int ((ns.length : Int) + 1)]) = some (ss ++ [(ns.length : Int) + 1]) := by
    have := intsOf_ints (ss ++ [(ns.length : Int) + 1])
    simpa using this
  have m3 : freezeL (List.map D.int ss ++ [D.int ((ns.length : Int) + 1)]) = List.map D.int ss ++ [D.int ((ns.length : Int) + 1)] := by
    have := frzL_ints (ss ++ [(ns.length : Int) + 1])
    simpa using this
  have m4 := frL_ints ss
  have m5 : ss.length + 1 ≤ 16777216 := by omega
  refine ⟨pot gs (ss ++ [(ns.length : Int) + 1]) 0 ((ss ++ [(ns.length : Int) + 1]).sum % 999983), ?_, gs, _, _, _, rfl, gn, by simp⟩
  rw [run_u tp, c__law_pot, C__law_pot_0, C__law_pot_1, C__law_pot_2]
  unfold pot
  clear tp gn
  trivial
theorem r_any (td : tab "_law_draw" = some c__law_draw) (ta : tab "_law_any" = some c__law_any) {p : D} {xs : List D} (hp : PotOk p) (h0 : xs ≠ []) (h1 : xs.length < 1000) : ∃ x p', run tab sub N (k + 2) "_law_any" [p, .tup xs] = .rt x [p'] ∧ x ∈ xs ∧ PotOk p' := by
  have hl : 0 < xs.length := List.length_pos_iff.mpr h0
  obtain ⟨n, p', d1, d2, d3, d4⟩ := r_draw (sub := sub) N k td hp (m := xs.length) (by omega) (by omega)
  obtain ⟨j, rfl⟩ := Int.eq_ofNat_of_zero_le d2
  have hj : j < xs.length := by omega
  have e1 : ixN xs.length (j : Int) = some j := by rw [ixN_nat, if_pos hj]
  have e2 : xs[j]? = some xs[j] := List.getElem?_eq_getElem hj
  refine ⟨xs[j], p', ?_, List.getElem_mem _, d4⟩
  rw [run_u ta, c__law_any]
  have mo : c__law_draw.modes = [.mu, .al] := rfl
  clear ta
  trivial
/-! ### texts -/
theorem strs_of {S : Sg} : ∀ {ys : List D}, (∀ y ∈ ys, ∃ c, y = D.str [c] ∧ c ∈ S) → ∃ x : Sg, ys = x.map (fun c => D.str [c]) ∧ ∀ c ∈ x, c ∈ S
  | [], _ => ⟨[], rfl, fun _ h => nomatch h⟩
  | y :: ys, h => by
    obtain ⟨c, rfl, hc⟩ := h y List.mem_cons_self
    obtain ⟨x, rfl, hx⟩ := strs_of fun y hy => h y (List.mem_cons_of_mem _ hy)
    refine ⟨c :: x, rfl, fun a ha => ?_⟩
    rcases List.mem_cons.mp ha with e | e
    · rw [e]; exact hc
    · exact hx a e
theorem strsOf_map (x : Sg) : strsOf (x.map fun c => D.str [c]) = some (x.map fun c => [c]) := by
  induction x with
  | nil => rfl
  | cons c x ih => simp [strsOf, ih]
theorem join_map : ∀ (x : Sg), joinS [] (x.map fun c => [c]) = x
  | [] => rfl
  | [c] => rfl
  | c :: d :: x => by
    have ih := join_map (d :: x)
    simp [joinS] at ih ⊢
    exact ih
theorem sum_map (x : Sg) : ((x.map fun c => [c]).map List.length).sum = x.length := by
  induction x with
  | nil => rfl
  | cons c x ih => simp at ih ⊢; omega
/-- "".join of single signs -/
theorem join1 {x : Sg} {o : Bool} (h : x.length ≤ line) : mthV "join" (.str []) [.lst o (x.map fun c => D.str [c])] = some (.str x) := by
  rw [mt_join, strsOf_map x]
  show (if ((x.map fun c => [c]).map List.length).sum + (x.map fun c => [c]).length * ([] : Sg).length ≤ line then some (D.str (joinS [] (x.map fun c => [c]))) else none) = _
  rw [join_map, if_pos]
  rw [sum_map]
  simpa using h
def abc : Sg := [97, 98, 99]
theorem r_string (td : tab "_law_draw" = some c__law_draw) (ts : tab "_law_string" = some c__law_string) {p : D} {l m : Int} (hp : PotOk p) (h1 : 0 < l) (h2 : l ≤ 3) (h3 : 0 ≤ m) (h4 : m ≤ 100) :
    ∃ x p', run tab sub N (k + 2) "_law_string" [p, .int l, .int m] = .rt (.str x) [p'] ∧ PotOk p' ∧ x.length ≤ m ∧ ∀ c ∈ x, c ∈ abc.take l.toNat := by
  obtain ⟨n, p1, d1, d2, d3, d4⟩ := r_draw (sub := sub) N k td hp (m := m + 1) (by omega) (by omega)
  obtain ⟨j, rfl⟩ := Int.eq_ofNat_of_zero_le d2
  have mo : c__law_draw.modes = [.mu, .al] := rfl
  have hlen : (rangeD 0 (j : Int)).length = j := by simp [rangeD]
  have jl : j ≤ 16777216 := by omega
  obtain ⟨ys, ρ', e1, ⟨p2, s, hp2, rfl⟩, e3, e4⟩ := lcL_inv (f := lcB (FFn tab sub N (k + 1)) (.nm 3) true none (.sub (.lit (.str [97, 98, 99])) (.call "_law_draw" [(.var 0), (.var 1)]))) (own := [3])
    (fun ρ => ∃ p s, PotOk p ∧ ρ = [.mw p, .fz (.int l), .fz (.int m), s]) (fun y => ∃ c, y = .str [c] ∧ c ∈ abc.take l.toNat) (rangeD 0 (j : Int)) [] [.mw p1, .fz (.int l), .fz (.int m), .un] ⟨p1, .un, d4, rfl⟩ (by rw [hlen, List.length_nil, Nat.zero_add]; exact jl) (by
      rintro x hx ρ ⟨p2, s, hp2, rfl⟩
      obtain ⟨i, hi, rfl⟩ := List.mem_map.mp hx
      obtain ⟨n, p3, f1, f2, f3, f4⟩ := r_draw (sub := sub) N k td hp2 (m := l) h1 (by omega)
      obtain ⟨q, rfl⟩ := Int.eq_ofNat_of_zero_le f2
      have hq : q < 3 := by omega
      have g1 : ixN 3 (q : Int) = some q := by rw [ixN_nat, if_pos hq]
      have g2 : ([97, 98, 99] : Sg)[q]? = some ([97, 98, 99] : Sg)[q] := List.getElem?_eq_getElem hq
      refine ⟨.str [([97, 98, 99] : Sg)[q]], [.mw p3, .fz (.int l), .fz (.int m), .fz (.int (0 + (i : Int)))], ?_, ⟨p3, _, f4, rfl⟩, _, rfl, ?_⟩
      · clear ts d1
        trivial
      · rw [List.mem_iff_getElem?]
        exact ⟨q, by rw [List.getElem?_take, if_pos (by omega)]; exact g2⟩)
  obtain ⟨x, rfl, hx⟩ := strs_of e4
  have hxl : x.length = j := by rw [List.length_map, hlen] at e3; exact e3
  have j4 : x.length ≤ 16777216 := by omega
  rw [List.nil_append] at e1
  have jj := join1 (o := true) j4
  have g1 : evE (FFn tab sub N (k + 1)) C__law_string_0 [.mw p, .fz (.int l), .fz (.int m), .un] = .ok (.ow (.lst true (x.map fun c => D.str [c]))) [.mw p2, .fz (.int l), .fz (.int m), .un] := by
    have hcall : evE (FFn tab sub N (k + 1)) (.call "_law_draw" [(.var 0), (.bop .Add (.var 2) (.lit (.int (1))))]) [.mw p, .fz (.int l), .fz (.int m), .un] = .ok (.fz (.int (j : Int))) [.mw p1, .fz (.int l), .fz (.int m), .un] := by
      clear jj e1 ts
      trivial
    have hi := i_rng hcall (rOk_small (by omega) (by omega))
    rw [C__law_string_0]
    clear jj hcall ts d1
    generalize (It.rng (.call "_law_draw" [(.var 0), (.bop .Add (.var 2) (.lit (.int (1))))])) = I at hi ⊢
    trivial
  clear e1
  refine ⟨x, p2, ?_, hp2, by omega, hx⟩
  rw [run_u ts, c__law_string]
  clear ts d1
  trivial
end
end Rw

set_option Elab.async false
set_option linter.all false
set_option maxRecDepth 100000
/-! RwV: the package's checks, contents. -/
namespace Rw
open PySem
local macro_rules
  | `(tactic| trivial) => `(tactic| simp [callD, freeze, freezeL, freezeP, isFrP, calm_ok, z_pt, al_pt0, lock, unlock, backE, wipeE, killE, Slot.kl, Out.mp, pureE, pureEs, pureO, pureI, mv_popi, mv_append, mv_pop, ty_pop, ty_append, ty_join, mut_pop, mut_join, mut_append, isStrD, initE, musOf, evSs, evEs, evO, evI, evC, tst, getP, getAt, setP, setAt,
    isFr, isFrL, aliases, alPass, argV, callR, muPl, bwRoots, okPts, shrs, as_nm, as_tp, as_0, as_1, cons_, ff_run, ff_modes, bi_len, bi_int, bi_abs, bi_sum,
    fr_ap, lc_ap, wc_ap, wb_ap, e_asg, e_sub, e_ret, e_retN, e_ifs, e_whl, e_fr, e_ex, e_rse, e_try, e_brk, e_cont, e_pass, e_lc,
    x_var, x_mv, x_lit, x_dct0, x_bop, x_neg, x_cmp, x_cmp2, x_band, x_bor, x_bnot, x_ife, x_tup, x_lst, x_sub, x_slc, x_call, x_bi, x_isi, x_mth,
    b_ok, b_exc, o_ok, o_exc, th_nx, th_rt, th_bk, th_ct, th_exc, c_fz, c_ow, c_pt, al_fz, al_ow, v_fz, v_ow, z_fz, z_ow,
    k_fz, k_ow, k_pt0, k_pt, ko_fz, ko_ow, ko_pt0, ko_pt, n_fz, n_ow, n_pt0, n_pt, p_un, p_fz, p_ow, p_bw, p_mw, sc_fz, sc_ow, sc_bw, sc_mw,
    s_fz, s_ow, s_pt, pd_non, pd_bl, pd_int, pd_str, pd_lst, pd_tup, so_t, so_non, so_bl, so_int, so_str, so_lst, so_tup, tr_bl, tr_non, tr_int,
    f_nx, f_rt, f_exc, ad_pt, ad_fz, ad_ow, cm_eq, cm_ne, cm_lt, cm_le, cm_gt, cm_ge, cm_in, cm_ni, cm_isb, cm_isnb, cm_isn, cm_isnn, is_in, eo_ss, eo_ii, eo_bb, ed_ss, ed_ii, ed_bb,
    bp_ai, bp_si, bp_mi, bp_fi, bp_ri, bp_pi, bp_as, bp_ms, bp_al, bp_at, ln_str, ln_tup, ln_lst, iv_lst, iv_tup, iv_str, is_lst,
    sl_str, sl_lst, sl_tup, sl_scr, it_str, it_lst, it_tup, ipt_fz, ipt_ow, ipt_pt, lk_n, ul_n, st_str, st_lst, st_tup,
    u1_lst, u1_tup, u1_str, fl_int, fl_bl, fl_str, uo_nx, uo_rt, uo_exc, oo_s, ixN_0, line_s, line_t, *])
/-- is_integer: 0=thing -/
def c_is_integer : Def where
  modes := [.al]
  ns := 1
  body := [
  (.ret (.band (.isi (.var 0) "int") (.bnot (.isi (.var 0) "bool"))))]
@[reducible] def V_is_integer (v_thing : Rw.Slot := .un) : Rw.Env := [v_thing]
/-- is_from: 0=thing 1=least -/
def c_is_from : Def where
  modes := [.al, .al]
  ns := 2
  body := [
  (.ret (.band (.call "is_integer" [(.var 0)]) (.cmp .ge (.var 0) (.var 1))))]
@[reducible] def V_is_from (v_thing v_least : Rw.Slot := .un) : Rw.Env := [v_thing, v_least]
/-- is_pair: 0=thing -/
def c_is_pair : Def where
  modes := [.al]
  ns := 1
  body := [
  (.ret (.band (.isi (.var 0) "tuple") (.cmp .eq (.bi "len" [(.var 0)]) (.lit (.int (2))))))]
@[reducible] def V_is_pair (v_thing : Rw.Slot := .un) : Rw.Env := [v_thing]
def B_is_string_of_0 : List Rw.St := [(.ifs (.cmp .notin (.var 2) (.var 1)) [(.ret (.lit (.bl false)))] [])]
def S_is_string_of_0 : Rw.St := (.fr [true, false, true] (.nm 2) (.seq (.var 0)) B_is_string_of_0)
/-- is_string_of: 0=thing 1=signs 2=sign -/
def c_is_string_of : Def where
  modes := [.al, .al]
  ns := 3
  body := [
  (.ifs (.bnot (.isi (.var 0) "str")) [(.ret (.lit (.bl false)))] []),
  S_is_string_of_0,
  (.ret (.lit (.bl true)))]
@[reducible] def V_is_string_of (v_thing v_signs v_sign : Rw.Slot := .un) : Rw.Env := [v_thing, v_signs, v_sign]
/-- is_letters: 0=thing 1=letters -/
def c_is_letters : Def where
  modes := [.al, .al]
  ns := 2
  body := [
  (.ret (.call "is_string_of" [(.var 0), (.slc (.lit (.str [97, 98, 99])) none (some (.var 1)))]))]
@[reducible] def V_is_letters (v_thing v_letters : Rw.Slot := .un) : Rw.Env := [v_thing, v_letters]
/-- is_content_of: 0=thing 1=letters -/
def c_is_content_of : Def where
  modes := [.al, .al]
  ns := 2
  body := [
  (.ret (.band (.call "is_pair" [(.var 0)]) (.band (.call "is_letters" [(.sub (.var 0) (.lit (.int (0)))), (.var 1)]) (.call "is_letters" [(.sub (.var 0) (.lit (.int (1)))), (.var 1)]))))]
@[reducible] def V_is_content_of (v_thing v_letters : Rw.Slot := .un) : Rw.Env := [v_thing, v_letters]
/-- is_content: 0=thing -/
def c_is_content : Def where
  modes := [.al]
  ns := 1
  body := [
  (.ret (.call "is_content_of" [(.var 0), (.bi "len" [(.lit (.str [97, 98, 99]))])]))]
@[reducible] def V_is_content (v_thing : Rw.Slot := .un) : Rw.Env := [v_thing]
/-- check_content: 0=thing -/
def c_check_content : Def where
  modes := [.al]
  ns := 1
  body := [
  (.ifs (.bnot (.call "is_content" [(.var 0)])) [(.rse "NoContent")] [])]
@[reducible] def V_check_content (v_thing : Rw.Slot := .un) : Rw.Env := [v_thing]
/-- place_in: 0=content 1=place 2=head 3=again -/
def c_place_in : Def where
  modes := [.al, .al]
  ns := 4
  body := [
  (.asg (.tp [(.nm 2), (.nm 3)]) (.var 0)),
  (.ifs (.cmp .lt (.var 1) (.bi "len" [(.var 2)])) [(.ret (.mv 1))] []),
  (.ifs (.cmp .eq (.bi "len" [(.var 3)]) (.lit (.int (0)))) [(.ret (.bi "len" [(.var 2)]))] []),
  (.ret (.bop .Add (.bi "len" [(.var 2)]) (.bop .Mod (.bi "int" [(.bop .Sub (.var 1) (.bi "len" [(.var 2)]))]) (.bi "len" [(.var 3)]))))]
@[reducible] def V_place_in (v_content v_place v_head v_again : Rw.Slot := .un) : Rw.Env := [v_content, v_place, v_head, v_again]
/-- sign_of: 0=content 1=place 2=whole 3=at -/
def c_sign_of : Def where
  modes := [.al, .al]
  ns := 4
  body := [
  (.asg (.nm 2) (.bop .Add (.sub (.var 0) (.lit (.int (0)))) (.sub (.var 0) (.lit (.int (1)))))),
  (.asg (.nm 3) (.call "place_in" [(.var 0), (.var 1)])),
  (.ret (.ife (.cmp .lt (.var 3) (.bi "len" [(.var 2)])) (.sub (.var 2) (.var 3)) (.lit (.str [101, 110, 100]))))]
@[reducible] def V_sign_of (v_content v_place v_whole v_at : Rw.Slot := .un) : Rw.Env := [v_content, v_place, v_whole, v_at]
/-- sign: 0=content 1=place -/
def c_sign : Def where
  modes := [.al, .al]
  ns := 2
  body := [
  (.ex (.call "check_content" [(.var 0)])),
  (.ifs (.bnot (.call "is_from" [(.var 1), (.lit (.int (0)))])) [(.rse "NoPlace")] []),
  (.ret (.call "sign_of" [(.var 0), (.var 1)]))]
@[reducible] def V_sign (v_content v_place : Rw.Slot := .un) : Rw.Env := [v_content, v_place]

section
variable {tab : Tab} {sub : Str → Str → Option Bool} (N k : Nat)
theorem r_is_integer (t1 : tab "is_integer" = some c_is_integer) {d : D} (h : tyd d = true) (hf : isFr d = true) : run tab sub N (k + 1) "is_integer" [d] = .rt (.bl (isIntD d && !isBlD d)) [] := by
  rw [run_u t1, c_is_integer]
  have h1 := ii_int h
  have h2 := ii_bool h
  clear t1
  cases hb : isIntD d <;> trivial
def isFrom : D → Int → Bool
  | .int i, l => decide (l ≤ i)
  | _, _ => false
theorem r_is_from (t1 : tab "is_integer" = some c_is_integer) (t2 : tab "is_from" = some c_is_from) {d : D} {l : Int} (h : tyd d = true) (hf : isFr d = true) : run tab sub N (k + 2) "is_from" [d, .int l] = .rt (.bl (isFrom d l)) [] := by
  have h1 := r_is_integer (sub := sub) N k t1 h hf
  have mo : c_is_integer.modes = [.al] := rfl
  rw [run_u t2, c_is_from]
  clear t2
  cases d <;> first | (exact Bool.noConfusion h) | (simp [isIntD, isBlD] at h1; trivial; try simp [isFrom])
def isPair : D → Bool
  | .tup [_, _] => true
  | _ => false
theorem r_is_pair (t1 : tab "is_pair" = some c_is_pair) {d : D} (h : tyd d = true) : run tab sub N (k + 1) "is_pair" [d] = .rt (.bl (isPair d)) [] := by
  rw [run_u t1, c_is_pair]
  have h2 := ii_tuple h
  clear t1
  cases d with
  | tup xs =>
    simp [isTupD] at h2
    match xs with
    | [] => trivial; rfl
    | [a] => trivial; rfl
    | [a, b] => trivial; rfl
    | a :: b :: c :: r =>
      trivial
      have : ¬ ((r.length : Int) + 1 + 1 + 1 = 2) := by omega
      simp [this, isPair]
  | scr _ => cases h
  | obj _ _ _ => cases h
  | _ => simp [isTupD] at h2; trivial; rfl
def strOf (z : Sg) : D → Bool
  | .str x => x.all fun c => decide (c ∈ z)
  | _ => false
theorem r_is_string_of (t1 : tab "is_string_of" = some c_is_string_of) {d : D} {z : Sg} (h : tyd d = true) (hf : isFr d = true) : run tab sub N (k + 1) "is_string_of" [d, .str z] = .rt (.bl (strOf z d)) [] := by
  rw [run_u t1, c_is_string_of]
  have h2 := ii_str h
  clear t1
  cases d with
  | str x =>
    simp [isStrD] at h2
    have hl := forL_find (f := frB (FFn tab sub N k) sub N [true, false, true] (.nm 2) true B_is_string_of_0) (ρ0 := [.fz (.str x), .fz (.str z), .un]) (r := .bl false) (fun e => match e with
        | .str [c] => !decide (c ∈ z)
        | _ => false) (fun ρ => ∃ s : Slot, s.pin = false ∧ ∃ s0, ρ = [s0, .fz (.str z), s]) ⟨.un, rfl, _, rfl⟩ (x.map fun c => .str [c]) [.un, .fz (.str z), .un] ⟨.un, rfl, _, rfl⟩ (by
          intro e he ρ hρ
          obtain ⟨s, hs, s0, rfl⟩ := hρ
          obtain ⟨c, _, rfl⟩ := List.mem_map.mp he
          by_cases hc : c ∈ z
          · simp [hc]
            refine ⟨[s0.kl, .fz (.str z), .un], ?_, .un, rfl, _, rfl⟩
            rw [B_is_string_of_0]
            cases s0 <;> trivial
          · simp [hc]
            refine ⟨[s0, .fz (.str z), .fz (.str [c])], ?_, _, rfl, _, rfl⟩
            rw [B_is_string_of_0]
            trivial)
    have hs : strOf z (.str x) = !((x.map fun c => D.str [c]).any fun e => match e with
        | .str [c] => !decide (c ∈ z)
        | _ => false) := by
      simp [strOf, List.any_map, List.all_eq_not_any_not, Function.comp_def]
    rw [hs, S_is_string_of_0]
    split at hl
    · rename_i h3
      obtain ⟨ρ', e1, s, _, s0, rfl⟩ := hl
      rw [h3]
      trivial
    · rename_i h3
      obtain ⟨ρ', e1, s, _, s0, rfl⟩ := hl
      rw [Bool.not_eq_true] at h3
      rw [h3]
      trivial
  | scr _ => cases h
  | obj _ _ _ => cases h
  | _ => simp [isStrD] at h2; trivial; try rfl
theorem cut_abc : cut ([97, 98, 99] : Sg) none (some 3) = [97, 98, 99] := by decide
theorem r_is_letters (t1 : tab "is_string_of" = some c_is_string_of) (t2 : tab "is_letters" = some c_is_letters) {d : D} {l : Int} (h0 : 0 ≤ l) (h9 : l ≤ 3) (h : tyd d = true) (hf : isFr d = true) : run tab sub N (k + 2) "is_letters" [d, .int l] = .rt (.bl (strOf (abc.take l.toNat) d)) [] := by
  have h1 := r_is_string_of (sub := sub) N k (z := abc.take l.toNat) t1 h hf
  have mo : c_is_string_of.modes = [.al, .al] := rfl
  have h5 : cut ([97, 98, 99] : Sg) none (some l) = abc.take l.toNat := by
    have : l = 0 ∨ l = 1 ∨ l = 2 ∨ l = 3 := by omega
    rcases this with rfl | rfl | rfl | rfl <;> decide
  rw [run_u t2, c_is_letters]
  clear t2
  trivial
def contB (l : Int) : D → Bool
  | .tup [a, b] => strOf (abc.take l.toNat) a && strOf (abc.take l.toNat) b
  | _ => false
def okC (d : D) : Bool := tyd d && (isFr d && (match d with
  | .tup xs => xs.all tyd
  | _ => true))
theorem r_is_content_of (t1 : tab "is_string_of" = some c_is_string_of) (t2 : tab "is_letters" = some c_is_letters) (t3 : tab "is_pair" = some c_is_pair) (t4 : tab "is_content_of" = some c_is_content_of) {d : D} {l : Int} (h0 : 0 ≤ l) (h9 : l ≤ 3) (h : okC d = true) : run tab sub N (k + 3) "is_content_of" [d, .int l] = .rt (.bl (contB l d)) [] := by
  unfold okC at h
  rw [Bool.and_eq_true, Bool.and_eq_true] at h
  obtain ⟨ht, hf, hx⟩ := h
  have h1 := r_is_pair (sub := sub) N (k + 1) t3 ht
  have mo1 : c_is_pair.modes = [.al] := rfl
  have mo2 : c_is_letters.modes = [.al, .al] := rfl
  rw [run_u t4, c_is_content_of]
  clear t4
  by_cases hp : ∃ a b, d = .tup [a, b]
  · obtain ⟨a, b, rfl⟩ := hp
    simp at hx
    simp [isFr, isFrL] at hf
    have ha := r_is_letters (sub := sub) N k t1 t2 h0 h9 hx.1 hf.1
    have hb := r_is_letters (sub := sub) N k t1 t2 h0 h9 hx.2 hf.2
    simp [isPair] at h1
    have e1 : ixN 2 0 = some 0 := rfl
    have e2 : ixN 2 1 = some 1 := rfl
    obtain ⟨f1, f2⟩ := hf
    clear h0 h9 t1
    cases hs : strOf (abc.take l.toNat) a <;> trivial <;> simp [contB, hs]
  · have hp' : isPair d = false := by
      cases d with
      | tup xs =>
        match xs, hp with
        | [], _ => rfl
        | [_], _ => rfl
        | [a, b], hp => exact (hp ⟨a, b, rfl⟩).elim
        | _ :: _ :: _ :: _, _ => rfl
      | _ => rfl
    have hc : contB l d = false := by
      cases d with
      | tup xs =>
        match xs, hp with
        | [], _ => rfl
        | [_], _ => rfl
        | [a, b], hp => exact (hp ⟨a, b, rfl⟩).elim
        | _ :: _ :: _ :: _, _ => rfl
      | _ => rfl
    clear h0 h9 t1
    trivial
theorem r_is_content (t1 : tab "is_string_of" = some c_is_string_of) (t2 : tab "is_letters" = some c_is_letters) (t3 : tab "is_pair" = some c_is_pair) (t4 : tab "is_content_of" = some c_is_content_of) (t5 : tab "is_content" = some c_is_content)
    {d : D} (h : okC d = true) : run tab sub N (k + 4) "is_content" [d] = .rt (.bl (contB 3 d)) [] := by
  have h1 := r_is_content_of (sub := sub) N k t1 t2 t3 t4 (l := 3) (by omega) (by omega) h
  have mo : c_is_content_of.modes = [.al, .al] := rfl
  rw [run_u t5, c_is_content]
  clear t5 t1 t2 t3
  trivial
theorem r_check_content (t1 : tab "is_string_of" = some c_is_string_of) (t2 : tab "is_letters" = some c_is_letters) (t3 : tab "is_pair" = some c_is_pair) (t4 : tab "is_content_of" = some c_is_content_of) (t5 : tab "is_content" = some c_is_content) (t6 : tab "check_content" = some c_check_content)
    {d : D} (h : okC d = true) : run tab sub N (k + 5) "check_content" [d] = if contB 3 d then .rt .non [] else .exc ⟨"NoContent", []⟩ [] := by
  have h1 := r_is_content (sub := sub) N k t1 t2 t3 t4 t5 h
  have mo : c_is_content.modes = [.al] := rfl
  rw [run_u t6, c_check_content]
  clear t6 t1 t2 t3 t4
  cases hc : contB 3 d <;> trivial
theorem contB_of {x y : Sg} (h1 : ∀ c ∈ x, c ∈ abc) (h2 : ∀ c ∈ y, c ∈ abc) : contB 3 (.tup [.str x, .str y]) = true := by
  simp only [contB, strOf, Bool.and_eq_true, List.all_eq_true, decide_eq_true_eq]
  exact ⟨h1, h2⟩
end
end Rw

set_option Elab.async false
set_option linter.all false
set_option maxRecDepth 100000
/-! P_k02: contents, their signs, the least ones. -/
namespace Kk02
open PySem Rw
/-- the sign at a place; none: the end -/
def sqf (h a : Sg) (i : Nat) : Option Nat := if i < h.length then h[i]? else if a.length = 0 then none else a[(i - h.length) % a.length]?
def Per (s : Nat → Option Nat) (n p : Nat) : Prop := 0 < p ∧ ∀ i, n ≤ i → s (i + p) = s i
theorem Per.mul {s : Nat → Option Nat} {n p : Nat} (h : Per s n p) : ∀ (k i : Nat), n ≤ i → s (i + k * p) = s i
  | 0, i, hi => by simp
  | k + 1, i, hi => by
    rw [Nat.add_mul, Nat.one_mul, ← Nat.add_assoc, h.2 _ (by omega), h.mul k i hi]
theorem Per.mono {s : Nat → Option Nat} {n m p : Nat} (h : Per s n p) (hm : n ≤ m) : Per s m p := ⟨h.1, fun i hi => h.2 i (by omega)⟩
/-- a period somewhere is one from where on there is any -/
theorem Per.back {s : Nat → Option Nat} {n m p q : Nat} (h : Per s m p) (g : Per s n q) : Per s m q := by
  refine ⟨g.1, fun i hi => ?_⟩
  have e1 := h.mul n i hi
  have e2 := h.mul n (i + q) (by omega)
  have hp := h.1
  have hn : n ≤ i + n * p := by
    have : n * 1 ≤ n * p := Nat.mul_le_mul_left n hp
    omega
  have e3 := g.2 (i + n * p) hn
  rw [← e2, ← e1, ← e3]
  congr 1
  omega
theorem Per.sub {s : Nat → Option Nat} {n p q : Nat} (h : Per s n p) (g : Per s n q) (hlt : p < q) : Per s n (q - p) := by
  refine ⟨by omega, fun i hi => ?_⟩
  have e1 := h.2 (i + (q - p)) (by omega)
  have e2 := g.2 i hi
  rw [← e1, ← e2]
  congr 1
  omega
theorem Per.dvd {s : Nat → Option Nat} {n p : Nat} (h : Per s n p) (hmin : ∀ q, Per s n q → p ≤ q) : ∀ (q : Nat), Per s n q → p ∣ q := by
  intro q
  induction q using Nat.strongRecOn with
  | ind q ih =>
    intro g
    have := hmin q g
    by_cases e : q = p
    · rw [e]; exact Nat.dvd_refl p
    · have d := ih (q - p) (by have := h.1; omega) (h.sub g (by omega))
      have : q = (q - p) + p := by omega
      rw [this]
      exact (Nat.dvd_add_iff_left (Nat.dvd_refl p)).mp d
theorem sqf_lt {h a : Sg} {i : Nat} (hi : i < h.length) : sqf h a i = h[i]? := if_pos hi
theorem sqf_ge {h a : Sg} {i : Nat} (hi : h.length ≤ i) (ha : a ≠ []) : sqf h a i = a[(i - h.length) % a.length]? := by
  unfold sqf
  have : ¬ a.length = 0 := fun e => ha (List.eq_nil_of_length_eq_zero e)
  rw [if_neg (by omega), if_neg this]
theorem sqf_end {h : Sg} {i : Nat} (hi : h.length ≤ i) : sqf h [] i = none := by
  unfold sqf
  rw [if_neg (by omega)]
  rfl
theorem len_pos {a : Sg} (ha : a ≠ []) : 0 < a.length := List.length_pos_iff.mpr ha
theorem sqf_some {h a : Sg} (ha : a ≠ []) (i : Nat) : ∃ c, sqf h a i = some c ∧ (c ∈ h ∨ c ∈ a) := by
  by_cases hi : i < h.length
  · rw [sqf_lt hi, List.getElem?_eq_getElem hi]
    exact ⟨_, rfl, .inl (List.getElem_mem _)⟩
  · have : (i - h.length) % a.length < a.length := Nat.mod_lt _ (len_pos ha)
    rw [sqf_ge (by omega) ha, List.getElem?_eq_getElem this]
    exact ⟨_, rfl, .inr (List.getElem_mem _)⟩
theorem sqf_per {h a : Sg} (ha : a ≠ []) : Per (sqf h a) h.length a.length := by
  refine ⟨len_pos ha, fun i hi => ?_⟩
  rw [sqf_ge (by omega) ha, sqf_ge hi ha]
  congr 1
  rw [show i + a.length - h.length = (i - h.length) + a.length by omega, Nat.add_mod_right]
/-- read off a sequence -/
def firsts (s : Nat → Option Nat) (n m : Nat) : Sg := (List.range m).filterMap fun i => s (n + i)
theorem sqf_of {s : Nat → Option Nat} {n p : Nat} {h a : Sg} (hp : Per s n p) (hn : h.length = n) (ha : a.length = p) (e1 : ∀ i, i < n → h[i]? = s i) (e2 : ∀ i, i < p → a[i]? = s (n + i)) : sqf h a = s := by
  funext i
  have hne : a ≠ [] := fun e => by
    have := hp.1
    rw [e] at ha
    simp at ha
    omega
  by_cases hi : i < n
  · rw [sqf_lt (by omega), e1 i hi]
  · rw [sqf_ge (by omega) hne, hn, ha, e2 _ (Nat.mod_lt _ hp.1)]
    have := hp.mul ((i - n) / p) (n + (i - n) % p) (by omega)
    rw [← this]
    congr 1
    have := Nat.mod_add_div (i - n) p
    rw [Nat.mul_comm] at this
    omega
/-- the least content of its signs -/
def Canon (h a : Sg) : Prop := a ≠ [] ∧ ∀ n q, Per (sqf h a) n q → a.length ≤ q ∧ h.length ≤ n
theorem canon_eq {h a h' a' : Sg} (c : Canon h a) (c' : Canon h' a') (e : sqf h a = sqf h' a') : h = h' ∧ a = a' := by
  have p := sqf_per (h := h) c.1
  have p' := sqf_per (h := h') c'.1
  have l1 := c.2 _ _ (by rw [e]; exact p')
  have l2 := c'.2 _ _ (by rw [← e]; exact p)
  have eh : h.length = h'.length := by omega
  have ea : a.length = a'.length := by omega
  constructor
  · apply List.ext_getElem?
    intro i
    by_cases hi : i < h.length
    · have := congrFun e i
      rw [sqf_lt hi, sqf_lt (by omega)] at this
      exact this
    · rw [List.getElem?_eq_none_iff.mpr (by omega), List.getElem?_eq_none_iff.mpr (by omega)]
  · apply List.ext_getElem?
    intro i
    by_cases hi : i < a.length
    · have := congrFun e (h.length + i)
      rw [sqf_ge (by omega) c.1, sqf_ge (by omega) c'.1] at this
      rw [show h.length + i - h.length = i by omega, show h.length + i - h'.length = i by omega, Nat.mod_eq_of_lt hi, Nat.mod_eq_of_lt (by omega)] at this
      exact this
    · rw [List.getElem?_eq_none_iff.mpr (by omega), List.getElem?_eq_none_iff.mpr (by omega)]
/-- what shortest makes of a content -/
structure Sh (h a h' a' : Sg) : Prop where
  sq : sqf h' a' = sqf h a
  en : a = [] → h' = h ∧ a' = []
  cn : a ≠ [] → Canon h' a'
  lh : h'.length ≤ h.length
  la : a'.length ≤ a.length
theorem sqf_nil {h a : Sg} (e : ∀ h', sqf h a ≠ sqf h' []) : a ≠ [] := fun z => e h (by rw [z])
theorem ended {h h' a' : Sg} (e : sqf h [] = sqf h' a') : a' = [] := by
  by_cases z : a' = []
  · exact z
  · obtain ⟨c, hc, _⟩ := sqf_some (h := h') z h.length
    rw [← e, sqf_end (Nat.le_refl _)] at hc
    cases hc
theorem ended_eq {h h' : Sg} (e : sqf h [] = sqf h' []) : h = h' := by
  have l : ∀ {h h' : Sg}, sqf h [] = sqf h' [] → h.length ≤ h'.length := fun {h h'} e => by
    by_cases z : h.length ≤ h'.length
    · exact z
    · have := congrFun e h'.length
      rw [sqf_end (Nat.le_refl _), sqf_lt (by omega), List.getElem?_eq_getElem (by omega)] at this
      cases this
  have l1 := l e
  have l2 := l e.symm
  apply List.ext_getElem?
  intro i
  by_cases hi : i < h.length
  · have := congrFun e i
    rw [sqf_lt hi, sqf_lt (by omega)] at this
    exact this
  · rw [List.getElem?_eq_none_iff.mpr (by omega), List.getElem?_eq_none_iff.mpr (by omega)]
/-- told alike just for the same signs -/
theorem sh_eq {h a h' a' k b k' b' : Sg} (s : Sh h a h' a') (t : Sh k b k' b') : (h' = k' ∧ a' = b') ↔ sqf h a = sqf k b := by
  constructor
  · rintro ⟨rfl, rfl⟩
    rw [← s.sq, ← t.sq]
  · intro e
    by_cases ha : a = []
    · obtain ⟨rfl, rfl⟩ := s.en ha
      subst ha
      have hb := ended e
      subst hb
      obtain ⟨rfl, rfl⟩ := t.en rfl
      exact ⟨ended_eq e, rfl⟩
    · have hb : b ≠ [] := fun z => by
        subst z
        exact ha (ended e.symm)
      exact canon_eq (s.cn ha) (t.cn hb) (by rw [s.sq, t.sq, e])
theorem sh_idem {h a h' a' : Sg} (s : Sh h a h' a') : Sh h' a' h' a' := by
  refine ⟨rfl, fun z => ⟨rfl, z⟩, fun z => ?_, Nat.le_refl _, Nat.le_refl _⟩
  by_cases ha : a = []
  · exact (z (s.en ha).2).elim
  · exact s.cn ha
/-- agreeing far enough -/
theorem agree {s t : Nat → Option Nat} {n p m q M B : Nat} (hs : Per s n p) (ht : Per t m q) (hn : n ≤ M) (hm : m ≤ M) (hB : M + p + q ≤ B) (h : ∀ i, i < B → s i = t i) : s = t := by
  funext i
  induction i using Nat.strongRecOn with
  | ind i ih =>
    by_cases hi : i < B
    · exact h i hi
    · have e1 := hs.2 (i - p) (by omega)
      have e2 := ht.2 (i - q) (by omega)
      have e3 := hs.2 (i - p - q) (by omega)
      have e4 := ht.2 (i - p - q) (by omega)
      have hp := hs.1
      have hq := ht.1
      rw [show i - p + p = i by omega] at e1
      rw [show i - q + q = i by omega] at e2
      rw [show i - p - q + p = i - q by omega] at e3
      rw [show i - p - q + q = i - p by omega] at e4
      rw [e1, e2, ih (i - p) (by omega), e4, ← ih (i - q) (by omega), e3, ih (i - p - q) (by omega)]
theorem agree_c {h a k b : Sg} {B : Nat} (ha : a ≠ []) (hb : b ≠ []) (l : max h.length k.length + a.length + b.length ≤ B) : (∀ i, i < B → sqf h a i = sqf k b i) ↔ sqf h a = sqf k b :=
  ⟨agree (sqf_per ha) (sqf_per hb) (Nat.le_max_left _ _) (Nat.le_max_right _ _) l, fun e i _ => by rw [e]⟩
theorem agree_all {h a k b : Sg} {B : Nat} (l : max h.length k.length + a.length + b.length < B) : (∀ i, i < B → sqf h a i = sqf k b i) ↔ sqf h a = sqf k b := by
  refine ⟨fun e => ?_, fun e i _ => by rw [e]⟩
  by_cases ha : a = []
  · by_cases hb : b = []
    · subst ha hb
      funext i
      by_cases hi : i < B
      · exact e i hi
      · rw [sqf_end (by omega), sqf_end (by omega)]
    · subst ha
      obtain ⟨c, hc, _⟩ := sqf_some (h := k) hb h.length
      rw [← e _ (by omega), sqf_end (Nat.le_refl _)] at hc
      cases hc
  · by_cases hb : b = []
    · subst hb
      obtain ⟨c, hc, _⟩ := sqf_some (h := h) ha k.length
      rw [e _ (by omega), sqf_end (Nat.le_refl _)] at hc
      cases hc
    · exact (agree_c ha hb (Nat.le_of_lt l)).mp e
/-! ### the least round -/
theorem rep_get {y : Sg} : ∀ (n i : Nat), i < n * y.length → (List.replicate n y).flatten[i]? = y[i % y.length]?
  | 0, i, h => by simp at h
  | n + 1, i, h => by
    rw [List.replicate_succ, List.flatten_cons]
    by_cases c : i < y.length
    · rw [List.getElem?_append_left c, Nat.mod_eq_of_lt c]
    · rw [List.getElem?_append_right (by omega), rep_get n (i - y.length) (by rw [Nat.add_mul] at h; omega)]
      congr 1
      exact (Nat.mod_eq_sub_mod (by omega)).symm
theorem rep_len {n : Nat} {y : Sg} : (List.replicate n y).flatten.length = n * y.length := by simp
/-- a round that repeated gives a -/
def Rd (a : Sg) (m : Nat) : Prop := 0 < m ∧ a.length % m = 0 ∧ (List.replicate (a.length / m) (a.take m)).flatten = a
theorem rd_per {a : Sg} {m : Nat} (ha : a ≠ []) (hm : m ≤ a.length) : Rd a m ↔ m ∣ a.length ∧ Per (sqf [] a) 0 m := by
  have hl := len_pos ha
  have cyc : ∀ i, sqf [] a i = a[i % a.length]? := fun i => by rw [sqf_ge (by simp) ha]; simp
  constructor
  · rintro ⟨h0, h1, h2⟩
    have hd : m ∣ a.length := Nat.dvd_of_mod_eq_zero h1
    have tl : (a.take m).length = m := by rw [List.length_take]; omega
    have key : ∀ j, j < a.length → a[j]? = a[j % m]? := fun j hj => by
      have := rep_get (y := a.take m) (a.length / m) j (by rw [tl, Nat.div_mul_cancel hd]; exact hj)
      rw [h2, tl, List.getElem?_take, if_pos (Nat.mod_lt _ h0)] at this
      exact this
    refine ⟨hd, h0, fun i _ => ?_⟩
    rw [cyc, cyc, key _ (Nat.mod_lt _ hl), key (i % a.length) (Nat.mod_lt _ hl), Nat.mod_mod_of_dvd _ hd, Nat.mod_mod_of_dvd _ hd, Nat.add_mod_right]
  · rintro ⟨hd, h0, hp⟩
    refine ⟨h0, Nat.mod_eq_zero_of_dvd hd, ?_⟩
    have tl : (a.take m).length = m := by rw [List.length_take]; omega
    apply List.ext_getElem?
    intro i
    by_cases hi : i < a.length
    · rw [rep_get _ _ (by rw [tl, Nat.div_mul_cancel hd]; exact hi), tl, List.getElem?_take, if_pos (Nat.mod_lt _ h0)]
      have hpp : Per (sqf [] a) 0 m := ⟨h0, hp⟩
      have := hpp.mul (i / m) (i % m) (Nat.zero_le _)
      rw [cyc, cyc] at this
      have e1 : i % m + i / m * m = i := by rw [Nat.mul_comm]; exact Nat.mod_add_div i m
      rw [e1, Nat.mod_eq_of_lt hi, Nat.mod_eq_of_lt (Nat.lt_of_le_of_lt (Nat.mod_le _ _) hi)] at this
      exact this.symm
    · rw [List.getElem?_eq_none_iff.mpr (by rw [rep_len, tl, Nat.div_mul_cancel hd]; omega), List.getElem?_eq_none_iff.mpr (by omega)]
/-- m is the least round's length -/
def LR (a : Sg) (m : Nat) : Prop := m ≤ a.length ∧ (m < a.length → Rd a m) ∧ ∀ j, 0 < j → j < m → ¬ Rd a j
theorem lr_ok {a : Sg} {m : Nat} (ha : a ≠ []) (h : LR a m) (h0 : 0 < m) : sqf [] (a.take m) = sqf [] a ∧ (a.take m).length = m ∧ ∀ n q, Per (sqf [] a) n q → m ≤ q := by
  obtain ⟨hm, h1, h2⟩ := h
  have hl := len_pos ha
  have tl : (a.take m).length = m := by rw [List.length_take]; omega
  have pl : Per (sqf [] a) 0 a.length := sqf_per (h := []) ha
  have pm : Per (sqf [] a) 0 m := by
    by_cases e : m < a.length
    · exact ((rd_per ha hm).mp (h1 e)).2
    · rw [show m = a.length by omega]; exact pl
  have hmin : ∀ n q, Per (sqf [] a) n q → m ≤ q := fun n q g => by
    have g0 := pl.back g
    -- the least period
    have ⟨p, hp, hpm⟩ : ∃ p, Per (sqf [] a) 0 p ∧ ∀ q, Per (sqf [] a) 0 q → p ≤ q := by
      have : ∀ q, Per (sqf [] a) 0 q → ∃ p, Per (sqf [] a) 0 p ∧ ∀ q, Per (sqf [] a) 0 q → p ≤ q := by
        intro q
        induction q using Nat.strongRecOn with
        | ind q ih =>
          intro g
          by_cases e : ∃ r, r < q ∧ Per (sqf [] a) 0 r
          · obtain ⟨r, h3, h4⟩ := e
            exact ih r h3 h4
          · exact ⟨q, g, fun r hr => by
              by_cases z : q ≤ r
              · exact z
              · exact (e ⟨r, by omega, hr⟩).elim⟩
      exact this q g0
    have hd := hp.dvd hpm _ pl
    have hle : p ≤ a.length := Nat.le_of_dvd hl hd
    have rp := (rd_per ha hle).mpr ⟨hd, hp⟩
    have : m ≤ p := by
      by_cases z : m ≤ p
      · exact z
      · exact (h2 p hp.1 (by omega) rp).elim
    exact Nat.le_trans this (hpm q g0)
  refine ⟨?_, tl, hmin⟩
  refine sqf_of pm rfl tl (fun i hi => by omega) fun i hi => ?_
  rw [List.getElem?_take, if_pos hi, Nat.zero_add, sqf_ge (by simp) ha]
  simp [Nat.mod_eq_of_lt (show i < a.length by omega)]
theorem sqf_shift {h a : Sg} (i : Nat) : sqf [] a i = sqf h a (h.length + i) := by
  unfold sqf
  have : ¬ h.length + i < h.length := by omega
  by_cases z : a.length = 0
  · simp [z]
  · simp [z, this]
/-- the rounds' periods do not hang on the head -/
theorem per_shift {h a : Sg} {n q : Nat} (g : Per (sqf h a) n q) : Per (sqf [] a) n q := ⟨g.1, fun i hi => by
  rw [sqf_shift (h := h), sqf_shift (h := h), ← Nat.add_assoc]
  exact g.2 _ (by omega)⟩
theorem sqf_head {h a b : Sg} (e : sqf [] a = sqf [] b) : sqf h a = sqf h b := by
  funext i
  by_cases hi : i < h.length
  · rw [sqf_lt hi, sqf_lt hi]
  · have := congrFun e (i - h.length)
    rw [sqf_shift (h := h), sqf_shift (h := h) (a := b), show h.length + (i - h.length) = i by omega] at this
    exact this
/-- one letter of the head goes round -/
theorem sqf_rot {h a : Sg} {c : Nat} : sqf (h ++ [c]) (a ++ [c]) = sqf h (c :: a) := by
  have hp : Per (sqf (h ++ [c]) (a ++ [c])) (h.length + 1) (a.length + 1) := by
    have := sqf_per (h := h ++ [c]) (a := a ++ [c]) (by simp)
    simpa using this
  symm
  have e0 : sqf (h ++ [c]) (a ++ [c]) h.length = some c := by rw [sqf_lt (by simp)]; simp
  refine sqf_of (n := h.length) (p := a.length + 1) ⟨by omega, fun i hi => ?_⟩ rfl (by simp) (fun i hi => ?_) fun i hi => ?_
  · by_cases e : i = h.length
    · rw [e, e0, sqf_ge (by simp <;> omega) (by simp)]
      simp [show h.length + (a.length + 1) - (h.length + 1) = a.length by omega]
    · exact hp.2 i (by omega)
  · rw [sqf_lt (by simp <;> omega), List.getElem?_append_left hi]
  · cases i with
    | zero => simp [e0]
    | succ i =>
      rw [sqf_ge (by simp <;> omega) (by simp)]
      simp [show h.length + (i + 1) - (h.length + 1) = i by omega, Nat.mod_eq_of_lt (show i < a.length + 1 by omega), List.getElem?_append_left (show i < a.length by omega)]
/-- where the head can be made no shorter -/
theorem canon_of {h a : Sg} (ha : a ≠ []) (hmin : ∀ n q, Per (sqf h a) n q → a.length ≤ q) (hl : ∀ k c, h = k ++ [c] → ∀ b, a ≠ b ++ [c]) : Canon h a := by
  refine ⟨ha, fun n q g => ⟨hmin n q g, ?_⟩⟩
  by_cases z : h.length ≤ n
  · exact z
  · exfalso
    have g2 : Per (sqf h a) n a.length := g.back (sqf_per ha)
    have hh : h ≠ [] := fun e => by rw [e] at z; simp at z
    obtain ⟨k, c, rfl⟩ : ∃ k c, h = k ++ [c] := ⟨h.dropLast, h.getLast hh, (List.dropLast_concat_getLast hh).symm⟩
    obtain ⟨b, d, rfl⟩ : ∃ b d, a = b ++ [d] := ⟨a.dropLast, a.getLast ha, (List.dropLast_concat_getLast ha).symm⟩
    rw [List.length_append, List.length_singleton] at z
    have e := g2.2 k.length (by omega)
    have e1 : sqf (k ++ [c]) (b ++ [d]) k.length = some c := by
      rw [sqf_lt (by simp)]
      simp
    have e2 : sqf (k ++ [c]) (b ++ [d]) (k.length + (b ++ [d]).length) = some d := by
      rw [sqf_ge (by simp <;> omega) (by simp)]
      simp [show k.length + (b.length + 1) - (k.length + 1) = b.length by omega]
    rw [e1, e2] at e
    cases e
    exact hl k _ rfl b rfl
end Kk02

set_option Elab.async false
set_option linter.all false
set_option maxRecDepth 100000
namespace Kk02
open PySem Rw
def fa : List He.Fa := [
  .glo "is_pair",
  .glo "is_string_of",
  .glo "is_letters",
  .glo "is_content_of",
  .glo "is_content",
  .glo "check_content",
  .glo "least_round",
  .glo "shortest",
  .glo "least_content",
  .glo "same_signs",
  .glo "_law_pot",
  .glo "_law_draw",
  .glo "_law_string",
  .glo "_law_sign",
  .glo "_law_first",
  .glo "_law_least",
  .glo "_law_written",
  .glo "_law_long_right",
  .glo "law",
  .glo "NoContent",
  .exc "NoContent",
  .str "LETTERS" "abc",
  .free "ValueError",
  .free "abs",
  .free "bool",
  .free "int",
  .free "isinstance",
  .free "len",
  .free "range",
  .free "str",
  .free "sum",
  .free "tuple"]
/-- is_pair: 0=thing -/
def c_is_pair : Def where
  modes := [.al]
  ns := 1
  body := [
  (.ret (.band (.isi (.var 0) "tuple") (.cmp .eq (.bi "len" [(.var 0)]) (.lit (.int (2))))))]
@[reducible] def V_is_pair (v_thing : Rw.Slot := .un) : Rw.Env := [v_thing]
def B_is_string_of_0 : List Rw.St := [(.ifs (.cmp .notin (.var 2) (.var 1)) [(.ret (.lit (.bl false)))] [])]
def S_is_string_of_0 : Rw.St := (.fr [true, false, true] (.nm 2) (.seq (.var 0)) B_is_string_of_0)
/-- is_string_of: 0=thing 1=signs 2=sign -/
def c_is_string_of : Def where
  modes := [.al, .al]
  ns := 3
  body := [
  (.ifs (.bnot (.isi (.var 0) "str")) [(.ret (.lit (.bl false)))] []),
  S_is_string_of_0,
  (.ret (.lit (.bl true)))]
@[reducible] def V_is_string_of (v_thing v_signs v_sign : Rw.Slot := .un) : Rw.Env := [v_thing, v_signs, v_sign]
/-- is_letters: 0=thing 1=letters -/
def c_is_letters : Def where
  modes := [.al, .al]
  ns := 2
  body := [
  (.ret (.call "is_string_of" [(.var 0), (.slc (.lit (.str [97, 98, 99])) none (some (.var 1)))]))]
@[reducible] def V_is_letters (v_thing v_letters : Rw.Slot := .un) : Rw.Env := [v_thing, v_letters]
/-- is_content_of: 0=thing 1=letters -/
def c_is_content_of : Def where
  modes := [.al, .al]
  ns := 2
  body := [
  (.ret (.band (.call "is_pair" [(.var 0)]) (.band (.call "is_letters" [(.sub (.var 0) (.lit (.int (0)))), (.var 1)]) (.call "is_letters" [(.sub (.var 0) (.lit (.int (1)))), (.var 1)]))))]
@[reducible] def V_is_content_of (v_thing v_letters : Rw.Slot := .un) : Rw.Env := [v_thing, v_letters]
/-- is_content: 0=thing -/
def c_is_content : Def where
  modes := [.al]
  ns := 1
  body := [
  (.ret (.call "is_content_of" [(.var 0), (.bi "len" [(.lit (.str [97, 98, 99]))])]))]
@[reducible] def V_is_content (v_thing : Rw.Slot := .un) : Rw.Env := [v_thing]
/-- check_content: 0=thing -/
def c_check_content : Def where
  modes := [.al]
  ns := 1
  body := [
  (.ifs (.bnot (.call "is_content" [(.var 0)])) [(.rse "NoContent")] [])]
@[reducible] def V_check_content (v_thing : Rw.Slot := .un) : Rw.Env := [v_thing]
def B_least_round_0 : List Rw.St := [(.ifs (.band (.cmp .eq (.bop .Mod (.bi "len" [(.var 0)]) (.var 1)) (.lit (.int (0)))) (.cmp .eq (.bop .Mult (.slc (.var 0) none (some (.var 1))) (.bop .FloorDiv (.bi "len" [(.var 0)]) (.var 1))) (.var 0))) [(.ret (.slc (.var 0) none (some (.var 1))))] [])]
def S_least_round_0 : Rw.St := (.fr [false, true] (.nm 1) (.rng2 (.lit (.int (1))) (.bi "len" [(.var 0)])) B_least_round_0)
/-- least_round: 0=again 1=many -/
def c_least_round : Def where
  modes := [.al]
  ns := 2
  body := [
  S_least_round_0,
  (.ret (.mv 0))]
@[reducible] def V_least_round (v_again v_many : Rw.Slot := .un) : Rw.Env := [v_again, v_many]
def B_shortest_0 : List Rw.St := [(.asg (.nm 0) (.slc (.var 0) none (some (.neg (.lit (.int (1))))))), (.asg (.nm 1) (.bop .Add (.slc (.var 1) (some (.neg (.lit (.int (1))))) none) (.slc (.var 1) none (some (.neg (.lit (.int (1))))))))]
def S_shortest_0 : Rw.St := (.whl [false, false] (.band (.cmp .gt (.bi "len" [(.var 0)]) (.lit (.int (0)))) (.band (.cmp .gt (.bi "len" [(.var 1)]) (.lit (.int (0)))) (.cmp .eq (.sub (.var 0) (.neg (.lit (.int (1))))) (.sub (.var 1) (.neg (.lit (.int (1)))))))) B_shortest_0)
/-- shortest: 0=first 1=again -/
def c_shortest : Def where
  modes := [.al, .al]
  ns := 2
  body := [
  (.asg (.nm 1) (.call "least_round" [(.var 1)])),
  S_shortest_0,
  (.ret (.tup [(.mv 0), (.mv 1)]))]
@[reducible] def V_shortest (v_first v_again : Rw.Slot := .un) : Rw.Env := [v_first, v_again]
/-- least_content: 0=content -/
def c_least_content : Def where
  modes := [.al]
  ns := 1
  body := [
  (.ex (.call "check_content" [(.var 0)])),
  (.ret (.call "shortest" [(.sub (.var 0) (.lit (.int (0)))), (.sub (.var 0) (.lit (.int (1))))]))]
@[reducible] def V_least_content (v_content : Rw.Slot := .un) : Rw.Env := [v_content]
/-- same_signs: 0=content 1=second -/
def c_same_signs : Def where
  modes := [.al, .al]
  ns := 2
  body := [
  (.ex (.call "check_content" [(.var 0)])),
  (.ex (.call "check_content" [(.var 1)])),
  (.ret (.cmp .eq (.call "shortest" [(.sub (.var 0) (.lit (.int (0)))), (.sub (.var 0) (.lit (.int (1))))]) (.call "shortest" [(.sub (.var 1) (.lit (.int (0)))), (.sub (.var 1) (.lit (.int (1))))])))]
@[reducible] def V_same_signs (v_content v_second : Rw.Slot := .un) : Rw.Env := [v_content, v_second]
def C__law_pot_0 : Ex := (.lc [2] (.nm 2) (.seq (.slc (.var 0) none (some (.lit (.int (63)))))) none (.bi "int" [(.var 2)]))
def C__law_pot_1 : Ex := (.lc [2] (.nm 2) (.seq (.var 1)) (some (.cmp .ge (.bi "abs" [(.var 2)]) (.bop .Pow (.lit (.int (10))) (.lit (.int (18)))))) (.bi "abs" [(.var 2)]))
def C__law_pot_2 : Ex := (.lc [2] (.nm 2) (.seq (.var 1)) (some (.cmp .lt (.bi "abs" [(.var 2)]) (.bop .Pow (.lit (.int (10))) (.lit (.int (18)))))) (.bop .Mod (.bi "int" [(.var 2)]) (.lit (.int (1000000007)))))
/-- _law_pot: 0=script 1=cells 2=item 3=greats 4=smalls -/
def c__law_pot : Def where
  modes := [.al]
  ns := 5
  body := [
  (.asg (.nm 1) C__law_pot_0),
  (.asg (.nm 3) C__law_pot_1),
  (.asg (.nm 4) (.bop .Add C__law_pot_2 (.lst [(.bop .Add (.bi "len" [(.var 1)]) (.lit (.int (1))))]))),
  (.ret (.lst [(.mv 3), (.var 4), (.lit (.int (0))), (.bop .Mod (.bi "int" [(.bi "sum" [(.var 4)])]) (.lit (.int (999983))))]))]
@[reducible] def V__law_pot (v_script v_cells v_item v_greats v_smalls : Rw.Slot := .un) : Rw.Env := [v_script, v_cells, v_item, v_greats, v_smalls]
/-- _law_draw: 0=pot 1=many 2=turn 3=number 4=seed -/
def c__law_draw : Def where
  modes := [.mu, .al]
  ns := 5
  body := [
  (.asg (.nm 2) (.sub (.var 0) (.lit (.int (2))))),
  (.sub (.var 0) (.lit (.int (2))) (.bop .Add (.var 2) (.lit (.int (1))))),
  (.ifs (.cmp .gt (.bi "len" [(.sub (.var 0) (.lit (.int (0))))]) (.lit (.int (0)))) [(.asg (.nm 3) (.sub (.sub (.var 0) (.lit (.int (0)))) (.lit (.int (0))))), (.sub (.sub (.var 0) (.lit (.int (0)))) (.lit (.int (0))) (.bop .FloorDiv (.var 3) (.var 1))), (.ifs (.cmp .lt (.var 3) (.var 1)) [(.ex (.mth "pop" (.sub (.var 0) (.lit (.int (0)))) [(.lit (.int (0)))]))] []), (.ret (.bop .Mod (.bi "int" [(.var 3)]) (.var 1)))] []),
  (.asg (.nm 4) (.bop .Add (.bop .Add (.bop .Mult (.sub (.sub (.var 0) (.lit (.int (1)))) (.bop .Mod (.bi "int" [(.var 2)]) (.bi "len" [(.sub (.var 0) (.lit (.int (1))))]))) (.lit (.int (7919)))) (.bop .Mult (.lit (.int (104729))) (.var 2))) (.bop .Mult (.sub (.var 0) (.lit (.int (3)))) (.lit (.int (31)))))),
  (.asg (.nm 3) (.bop .Mod (.bi "int" [(.bop .Add (.bop .Mult (.var 4) (.lit (.int (48271)))) (.lit (.int (11))))]) (.lit (.int (2147483647))))),
  (.asg (.nm 3) (.bop .Mod (.bi "int" [(.bop .Mult (.var 3) (.bop .Add (.bop .FloorDiv (.var 3) (.lit (.int (1009)))) (.lit (.int (69621)))))]) (.lit (.int (2147483629))))),
  (.asg (.nm 3) (.bop .Mod (.bi "int" [(.bop .Add (.bop .Mult (.var 3) (.bop .Add (.bop .FloorDiv (.var 3) (.lit (.int (2003)))) (.lit (.int (40692))))) (.var 2))]) (.lit (.int (2147483399))))),
  (.ret (.bop .Mod (.bi "int" [(.bop .FloorDiv (.var 3) (.lit (.int (64))))]) (.var 1)))]
@[reducible] def V__law_draw (v_pot v_many v_turn v_number v_seed : Rw.Slot := .un) : Rw.Env := [v_pot, v_many, v_turn, v_number, v_seed]
def C__law_string_0 : Ex := (.lc [3] (.nm 3) (.rng (.call "_law_draw" [(.var 0), (.bop .Add (.var 2) (.lit (.int (1))))])) none (.sub (.lit (.str [97, 98, 99])) (.call "_law_draw" [(.var 0), (.var 1)])))
/-- _law_string: 0=pot 1=letters 2=most 3=k -/
def c__law_string : Def where
  modes := [.mu, .al, .al]
  ns := 4
  body := [
  (.ret (.mth "join" (.lit (.str [])) [C__law_string_0]))]
@[reducible] def V__law_string (v_pot v_letters v_most v_k : Rw.Slot := .un) : Rw.Env := [v_pot, v_letters, v_most, v_k]
/-- _law_sign: 0=content 1=place -/
def c__law_sign : Def where
  modes := [.al, .al]
  ns := 2
  body := [
  (.ifs (.cmp .lt (.var 1) (.bi "len" [(.sub (.var 0) (.lit (.int (0))))])) [(.ret (.sub (.sub (.var 0) (.lit (.int (0)))) (.var 1)))] []),
  (.ifs (.cmp .eq (.sub (.var 0) (.lit (.int (1)))) (.lit (.str []))) [(.ret (.lit (.str [101, 110, 100])))] []),
  (.ret (.sub (.sub (.var 0) (.lit (.int (1)))) (.bop .Mod (.bi "int" [(.bop .Sub (.var 1) (.bi "len" [(.sub (.var 0) (.lit (.int (0))))]))]) (.bi "len" [(.sub (.var 0) (.lit (.int (1))))]))))]
@[reducible] def V__law_sign (v_content v_place : Rw.Slot := .un) : Rw.Env := [v_content, v_place]
def C__law_first_0 : Ex := (.lc [2] (.nm 2) (.rng (.var 1)) none (.call "_law_sign" [(.var 0), (.var 2)]))
/-- _law_first: 0=content 1=many 2=place -/
def c__law_first : Def where
  modes := [.al, .al]
  ns := 3
  body := [
  (.ret C__law_first_0)]
@[reducible] def V__law_first (v_content v_many v_place : Rw.Slot := .un) : Rw.Env := [v_content, v_many, v_place]
def B__law_least_0 : List Rw.St := [(.asg (.nm 4) (.mth "join" (.lit (.str [])) [(.call "_law_first" [(.var 0), (.bop .Add (.var 3) (.var 2))])])), (.asg (.nm 5) (.tup [(.slc (.var 4) none (some (.var 3))), (.slc (.var 4) (some (.var 3)) none)])), (.ifs (.cmp .eq (.call "_law_first" [(.var 5), (.lit (.int (60)))]) (.call "_law_first" [(.var 0), (.lit (.int (60)))])) [(.ret (.mv 5))] [])]
def S__law_least_0 : Rw.St := (.fr [false, true, false, true, true, true] (.nm 3) (.rng (.bop .Add (.bop .Add (.bi "len" [(.sub (.var 0) (.lit (.int (0))))]) (.bi "len" [(.sub (.var 0) (.lit (.int (1))))])) (.lit (.int (1))))) B__law_least_0)
def B__law_least_1 : List Rw.St := [S__law_least_0]
def S__law_least_1 : Rw.St := (.fr [false, true, true, true, true, true] (.nm 2) (.rng2 (.lit (.int (1))) (.bop .Add (.bi "len" [(.sub (.var 0) (.lit (.int (1))))]) (.lit (.int (1))))) B__law_least_1)
/-- _law_least: 0=content 1=letters 2=size 3=long 4=line 5=found -/
def c__law_least : Def where
  modes := [.al, .al]
  ns := 6
  body := [
  (.ifs (.cmp .eq (.sub (.var 0) (.lit (.int (1)))) (.lit (.str []))) [(.ret (.mv 0))] []),
  S__law_least_1,
  (.ret (.mv 0))]
@[reducible] def V__law_least (v_content v_letters v_size v_long v_line v_found : Rw.Slot := .un) : Rw.Env := [v_content, v_letters, v_size, v_long, v_line, v_found]
def B__law_written_0 : List Rw.St := [(.asg (.tp [(.nm 2), (.nm 3)]) (.tup [(.bop .Add (.var 2) (.sub (.var 3) (.lit (.int (0))))), (.bop .Add (.slc (.var 3) (some (.lit (.int (1)))) none) (.sub (.var 3) (.lit (.int (0)))))]))]
def S__law_written_0 : Rw.St := (.fr [true, true, false, false, true] (.nm 4) (.rng (.call "_law_draw" [(.var 0), (.lit (.int (5)))])) B__law_written_0)
/-- _law_written: 0=pot 1=content 2=head 3=again 4=turn -/
def c__law_written : Def where
  modes := [.mu, .al]
  ns := 5
  body := [
  (.asg (.tp [(.nm 2), (.nm 3)]) (.var 1)),
  (.ifs (.cmp .eq (.var 3) (.lit (.str []))) [(.ret (.mv 1))] []),
  (.asg (.nm 3) (.bop .Mult (.var 3) (.bop .Add (.lit (.int (1))) (.call "_law_draw" [(.var 0), (.lit (.int (3)))])))),
  S__law_written_0,
  (.ret (.tup [(.mv 2), (.mv 3)]))]
@[reducible] def V__law_written (v_pot v_content v_head v_again v_turn : Rw.Slot := .un) : Rw.Env := [v_pot, v_content, v_head, v_again, v_turn]
/-- _law_long_right: 0=pot 1=inner 2=again 3=due 4=other 5=at 6=least -/
def c__law_long_right : Def where
  modes := [.mu]
  ns := 7
  body := [
  (.asg (.tp [(.nm 1), (.nm 2)]) (.tup [(.bop .Add (.call "_law_string" [(.var 0), (.lit (.int (2))), (.lit (.int (9)))]) (.lit (.str [98]))), (.bop .Add (.lit (.int (1))) (.call "_law_draw" [(.var 0), (.lit (.int (5)))]))])),
  (.asg (.nm 3) (.tup [(.bop .Add (.bop .Mult (.lit (.str [97])) (.call "_law_draw" [(.var 0), (.lit (.int (30)))])) (.lit (.str [99]))), (.var 1)])),
  (.asg (.nm 4) (.tup [(.bop .Add (.sub (.var 3) (.lit (.int (0)))) (.slc (.var 1) none (some (.call "_law_draw" [(.var 0), (.bi "len" [(.var 1)])])))), (.lit (.str []))])),
  (.asg (.nm 5) (.bop .Sub (.bi "len" [(.sub (.var 4) (.lit (.int (0))))]) (.bi "len" [(.sub (.var 3) (.lit (.int (0))))]))),
  (.asg (.nm 4) (.tup [(.sub (.var 4) (.lit (.int (0)))), (.bop .Mult (.bop .Add (.slc (.var 1) (some (.var 5)) none) (.slc (.var 1) none (some (.var 5)))) (.var 2))])),
  (.asg (.nm 6) (.ife (.cmp .lt (.bi "len" [(.sub (.var 3) (.lit (.int (0))))]) (.lit (.int (12)))) (.call "_law_least" [(.var 3), (.lit (.int (3)))]) (.bop .Add (.slc (.var 3) none (some (.lit (.int (1))))) (.tup [(.sub (.call "_law_least" [(.tup [(.lit (.str [])), (.var 1)]), (.lit (.int (3)))]) (.lit (.int (1))))])))),
  (.ifs (.bor (.cmp .ne (.call "least_content" [(.var 4)]) (.var 6)) (.cmp .isnot (.call "same_signs" [(.var 4), (.var 6)]) (.lit (.bl true)))) [(.ret (.lit (.bl false)))] []),
  (.ret (.band (.cmp .is (.call "same_signs" [(.var 4), (.tup [(.bop .Add (.sub (.var 4) (.lit (.int (0)))) (.lit (.str [99]))), (.sub (.var 4) (.lit (.int (1))))])]) (.lit (.bl false))) (.cmp .is (.call "same_signs" [(.var 4), (.tup [(.sub (.var 4) (.lit (.int (0)))), (.lit (.str []))])]) (.lit (.bl false)))))]
@[reducible] def V__law_long_right (v_pot v_inner v_again v_due v_other v_at v_least : Rw.Slot := .un) : Rw.Env := [v_pot, v_inner, v_again, v_due, v_other, v_at, v_least]
def B_law_0 : List Rw.St := [(.asg (.nm 3) (.bop .Add (.lit (.int (1))) (.call "_law_draw" [(.var 1), (.lit (.int (3)))]))), (.asg (.nm 4) (.tup [(.call "_law_string" [(.var 1), (.var 3), (.lit (.int (5)))]), (.ife (.cmp .gt (.call "_law_draw" [(.var 1), (.lit (.int (4)))]) (.lit (.int (0)))) (.call "_law_string" [(.var 1), (.var 3), (.lit (.int (4)))]) (.lit (.str [])))])), (.asg (.nm 5) (.call "_law_least" [(.var 4), (.var 3)])), (.asg (.nm 6) (.call "_law_written" [(.var 1), (.var 4)])), (.ifs (.bor (.cmp .ne (.call "least_content" [(.var 4)]) (.var 5)) (.bor (.cmp .ne (.call "least_content" [(.var 6)]) (.var 5)) (.cmp .isnot (.call "same_signs" [(.var 4), (.var 6)]) (.lit (.bl true))))) [(.ret (.lit (.bl false)))] []), (.asg (.nm 7) (.tup [(.call "_law_string" [(.var 1), (.var 3), (.lit (.int (5)))]), (.ife (.cmp .gt (.call "_law_draw" [(.var 1), (.lit (.int (2)))]) (.lit (.int (0)))) (.call "_law_string" [(.var 1), (.var 3), (.lit (.int (4)))]) (.lit (.str [])))])), (.asg (.nm 8) (.call "same_signs" [(.var 4), (.var 7)])), (.ifs (.bor (.bnot (.isi (.var 8) "bool")) (.cmp .ne (.var 8) (.cmp .eq (.call "_law_first" [(.var 4), (.lit (.int (60)))]) (.call "_law_first" [(.var 7), (.lit (.int (60)))])))) [(.ret (.lit (.bl false)))] []), (.ifs (.cmp .ne (.call "least_content" [(.var 5)]) (.var 5)) [(.ret (.lit (.bl false)))] [])]
def S_law_0 : Rw.St := (.fr [true, false, true, true, true, true, true, true, true] (.nm 2) (.rng (.lit (.int (4)))) B_law_0)
/-- law: 0=script 1=pot 2=turn 3=letters 4=content 5=due 6=other 7=second 8=told -/
def c_law : Def where
  modes := [.al]
  ns := 9
  body := [
  (.asg (.nm 1) (.call "_law_pot" [(.var 0)])),
  (.ifs (.band (.cmp .eq (.call "_law_draw" [(.var 1), (.lit (.int (8)))]) (.lit (.int (0)))) (.bnot (.call "_law_long_right" [(.var 1)]))) [(.ret (.lit (.bl false)))] []),
  S_law_0,
  (.ret (.lit (.bl true)))]
@[reducible] def V_law (v_script v_pot v_turn v_letters v_content v_due v_other v_second v_told : Rw.Slot := .un) : Rw.Env := [v_script, v_pot, v_turn, v_letters, v_content, v_due, v_other, v_second, v_told]
def defs : List (Str × Def) := [
  ("is_pair", c_is_pair),
  ("is_string_of", c_is_string_of),
  ("is_letters", c_is_letters),
  ("is_content_of", c_is_content_of),
  ("is_content", c_is_content),
  ("check_content", c_check_content),
  ("least_round", c_least_round),
  ("shortest", c_shortest),
  ("least_content", c_least_content),
  ("same_signs", c_same_signs),
  ("_law_pot", c__law_pot),
  ("_law_draw", c__law_draw),
  ("_law_string", c__law_string),
  ("_law_sign", c__law_sign),
  ("_law_first", c__law_first),
  ("_law_least", c__law_least),
  ("_law_written", c__law_written),
  ("_law_long_right", c__law_long_right),
  ("law", c_law)]
def tab : Tab := fun f => defs.lookup f
theorem t_is_pair : tab "is_pair" = some c_is_pair := by kernel_rfl
theorem t_is_string_of : tab "is_string_of" = some c_is_string_of := by kernel_rfl
theorem t_is_letters : tab "is_letters" = some c_is_letters := by kernel_rfl
theorem t_is_content_of : tab "is_content_of" = some c_is_content_of := by kernel_rfl
theorem t_is_content : tab "is_content" = some c_is_content := by kernel_rfl
theorem t_check_content : tab "check_content" = some c_check_content := by kernel_rfl
theorem t_least_round : tab "least_round" = some c_least_round := by kernel_rfl
theorem t_shortest : tab "shortest" = some c_shortest := by kernel_rfl
theorem t_least_content : tab "least_content" = some c_least_content := by kernel_rfl
theorem t_same_signs : tab "same_signs" = some c_same_signs := by kernel_rfl
theorem t__law_pot : tab "_law_pot" = some c__law_pot := by kernel_rfl
theorem t__law_draw : tab "_law_draw" = some c__law_draw := by kernel_rfl
theorem t__law_string : tab "_law_string" = some c__law_string := by kernel_rfl
theorem t__law_sign : tab "_law_sign" = some c__law_sign := by kernel_rfl
theorem t__law_first : tab "_law_first" = some c__law_first := by kernel_rfl
theorem t__law_least : tab "_law_least" = some c__law_least := by kernel_rfl
theorem t__law_written : tab "_law_written" = some c__law_written := by kernel_rfl
theorem t__law_long_right : tab "_law_long_right" = some c__law_long_right := by kernel_rfl
theorem t_law : tab "law" = some c_law := by kernel_rfl
end Kk02

set_option Elab.async false
set_option linter.all false
set_option maxRecDepth 100000
namespace Kk02
open PySem Rw
local macro_rules
  | `(tactic| trivial) => `(tactic| simp [callD, freeze, freezeL, freezeP, isFrP, calm_ok, z_pt, al_pt0, lock, unlock, backE, wipeE, killE, Slot.kl, Out.mp, pureE, pureEs, pureO, pureI, mv_popi, mv_append, mv_pop, ty_pop, ty_append, ty_join, mut_pop, mut_join, mut_append, isStrD, initE, musOf, evSs, evEs, evO, evI, evC, tst, getP, getAt, setP, setAt,
    isFr, isFrL, aliases, alPass, argV, callR, muPl, bwRoots, okPts, shrs, as_nm, as_tp, as_0, as_1, cons_, ff_run, ff_modes, bi_len, bi_int, bi_abs, bi_sum,
    fr_ap, lc_ap, wc_ap, wb_ap, e_asg, e_sub, e_ret, e_retN, e_ifs, e_whl, e_fr, e_ex, e_rse, e_try, e_brk, e_cont, e_pass, e_lc,
    x_var, x_mv, x_lit, x_dct0, x_bop, x_neg, x_cmp, x_cmp2, x_band, x_bor, x_bnot, x_ife, x_tup, x_lst, x_sub, x_slc, x_call, x_bi, x_isi, x_mth,
    b_ok, b_exc, o_ok, o_exc, th_nx, th_rt, th_bk, th_ct, th_exc, c_fz, c_ow, c_pt, al_fz, al_ow, v_fz, v_ow, z_fz, z_ow,
    k_fz, k_ow, k_pt0, k_pt, ko_fz, ko_ow, ko_pt0, ko_pt, n_fz, n_ow, n_pt0, n_pt, p_un, p_fz, p_ow, p_bw, p_mw, sc_fz, sc_ow, sc_bw, sc_mw,
    s_fz, s_ow, s_pt, pd_non, pd_bl, pd_int, pd_str, pd_lst, pd_tup, so_t, so_non, so_bl, so_int, so_str, so_lst, so_tup, tr_bl, tr_non, tr_int,
    f_nx, f_rt, f_exc, ad_pt, ad_fz, ad_ow, cm_eq, cm_ne, cm_lt, cm_le, cm_gt, cm_ge, cm_in, cm_ni, cm_isb, cm_isnb, cm_isn, cm_isnn, is_in, eo_ss, eo_ii, eo_bb, ed_ss, ed_ii, ed_bb,
    bp_ai, bp_si, bp_mi, bp_fi, bp_ri, bp_pi, bp_as, bp_ms, bp_al, bp_at, ln_str, ln_tup, ln_lst, iv_lst, iv_tup, iv_str, is_lst,
    sl_str, sl_lst, sl_tup, sl_scr, it_str, it_lst, it_tup, ipt_fz, ipt_ow, ipt_pt, lk_n, ul_n, st_str, st_lst, st_tup,
    u1_lst, u1_tup, u1_str, fl_int, fl_bl, fl_str, uo_nx, uo_rt, uo_exc, oo_s, ixN_0, line_s, line_t, *])
section
variable {sub : Str → Str → Option Bool} (N k : Nat)
abbrev rn (sub : Str → Str → Option Bool) (N k : Nat) : Str → List D → FRes := run tab sub N k
theorem cut_take {a : Sg} {i : Nat} : cut a none (some (i : Int)) = a.take i := by
  unfold cut sIx
  dsimp only
  rw [if_neg (by omega), Int.toNat_natCast, Nat.sub_zero, List.drop_zero]
  by_cases h : i ≤ a.length
  · rw [Nat.min_eq_left h]
  · rw [Nat.min_eq_right (by omega), List.take_of_length_le (by omega), List.take_of_length_le (by omega)]
theorem cut_drop {a : Sg} {i : Nat} : cut a (some (i : Int)) none = a.drop i := by
  unfold cut sIx
  dsimp only
  rw [if_neg (by omega), Int.toNat_natCast]
  by_cases h : i ≤ a.length
  · rw [Nat.min_eq_left h, List.take_of_length_le (by simp)]
  · rw [Nat.min_eq_right (by omega), List.drop_of_length_le (by omega), List.drop_of_length_le (by omega), List.take_nil]
instance {a : Sg} {m : Nat} : Decidable (Rd a m) := by unfold Rd; infer_instance
def rdB (a : Sg) (i : Int) : Bool := decide (Rd a i.toNat)
theorem rd_nat {a : Sg} {m : Nat} (h : 0 < m) : rdB a (m : Int) = decide (a.length % m = 0 ∧ (List.replicate (a.length / m) (a.take m)).flatten = a) := by
  unfold rdB Rd
  simp [h]
theorem lr_body {a : Sg} (ha : a.length ≤ 100) (i : Int) (h1 : 1 ≤ i) (h2 : i < a.length) : frB (FFn tab sub N k) sub N [false, true] (.nm 1) true B_least_round_0 (.int i) [.fz (.str a), .un] =
    if rdB a i then .rt (.str (a.take i.toNat)) [.fz (.str a), .fz (.int i)] else .nx [.fz (.str a), .un] := by
  obtain ⟨m, rfl⟩ := Int.eq_ofNat_of_zero_le (show 0 ≤ i by omega)
  have hm : 0 < m := by omega
  have hal : a.length ≤ 16777216 := by omega
  have e4 : (a.take m).length = m := by rw [List.length_take]; omega
  have e8 := cut_take (a := a) (i := m)
  have e5 : bop .Mult (.str (a.take m)) (.int ((a.length / m : Nat) : Int)) = some (.str (List.replicate (a.length / m) (a.take m)).flatten) := by
    have h5 : a.length / m ≤ a.length := Nat.div_le_self _ _
    have h6 := Nat.mul_div_le a.length m
    generalize a.length / m = q at *
    exact bp_ms (k := (q : Int)) ⟨by rw [e4, Int.toNat_natCast, line_s]; omega, by omega, by omega⟩
  have e6 : bop .Mod (.int a.length) (.int m) = some (.int ((a.length % m : Nat) : Int)) := by rw [bp_ri (by omega)]; simp
  have e7 : bop .FloorDiv (.int a.length) (.int m) = some (.int ((a.length / m : Nat) : Int)) := by rw [bp_fi (by omega)]; simp
  rw [rd_nat hm, B_least_round_0, Int.toNat_natCast]
  clear e4 h1 h2 ha hm
  generalize (List.replicate (a.length / m) (a.take m)).flatten = z at *
  generalize a.length / m = q at *
  generalize a.length % m = r at *
  by_cases c1 : r = 0
  · subst c1
    by_cases c2 : z = a
    · trivial
    · trivial
  · have c3 : ¬ (r : Int) = 0 := by omega
    trivial
theorem r_least_round {a : Sg} (ha : a.length ≤ 100) : ∃ m, LR a m ∧ (a ≠ [] → 0 < m) ∧ rn sub N (k + 1) "least_round" [.str a] = .rt (.str (a.take m)) [] := by
  have hal : a.length ≤ 16777216 := by omega
  have hi : evI (FFn tab sub N k) (.rng2 (.lit (.int 1)) (.bi "len" [(.var 0)])) [.fz (.str a), .un] = .ok (rangeD 1 a.length, true, none) [.fz (.str a), .un] :=
    i_rng2 (by rw [x_lit]) (by trivial) (rOk_small (by omega) (by omega)) (rOk_small (by omega) (by omega))
  have body := lr_body (sub := sub) N k ha
  rcases forL_ret (E' := fun i => [.fz (.str a), .fz (.int i)]) (r := fun i => .str (a.take i.toNat)) (rdB a) (hi := a.length) _ 1 rfl body with ⟨i, h1, h2, h3, h4, h5⟩ | ⟨h4, h5⟩
  · refine ⟨i.toNat, ⟨by omega, fun _ => of_decide_eq_true h3, fun j j1 j2 hr => ?_⟩, fun _ => by omega, ?_⟩
    · have := h4 j (by omega) (by omega)
      unfold rdB at this
      rw [Int.toNat_natCast] at this
      exact (of_decide_eq_false this) hr
    · have hf := fr_run (sub := sub) (N := N) (ks := [false, true]) (t := .nm 1) (b := B_least_round_0) hi h5
      rw [uo_id] at hf
      rw [rn, run_u t_least_round, c_least_round]
      unfold S_least_round_0
      clear hi h5 body
      generalize (St.fr [false, true] (.nm 1) (.rng2 (.lit (.int 1)) (.bi "len" [(.var 0)])) B_least_round_0) = s at *
      trivial
  · refine ⟨a.length, ⟨Nat.le_refl _, fun z => by omega, fun j j1 j2 hr => ?_⟩, len_pos, ?_⟩
    · have := h4 j (by omega) (by omega)
      unfold rdB at this
      rw [Int.toNat_natCast] at this
      exact (of_decide_eq_false this) hr
    · have hf := fr_run (sub := sub) (N := N) (ks := [false, true]) (t := .nm 1) (b := B_least_round_0) hi h5
      rw [uo_id] at hf
      rw [rn, run_u t_least_round, c_least_round, List.take_length]
      unfold S_least_round_0
      clear hi h5 body
      generalize (St.fr [false, true] (.nm 1) (.rng2 (.lit (.int 1)) (.bi "len" [(.var 0)])) B_least_round_0) = s at *
      trivial
end
end Kk02

set_option Elab.async false
set_option linter.all false
set_option maxRecDepth 100000
namespace Kk02
open PySem Rw
local macro_rules
  | `(tactic| trivial) => `(tactic| simp [callD, freeze, freezeL, freezeP, isFrP, calm_ok, z_pt, al_pt0, lock, unlock, backE, wipeE, killE, Slot.kl, Out.mp, pureE, pureEs, pureO, pureI, mv_popi, mv_append, mv_pop, ty_pop, ty_append, ty_join, mut_pop, mut_join, mut_append, isStrD, initE, musOf, evSs, evEs, evO, evI, evC, tst, getP, getAt, setP, setAt,
    isFr, isFrL, aliases, alPass, argV, callR, muPl, bwRoots, okPts, shrs, as_nm, as_tp, as_0, as_1, cons_, ff_run, ff_modes, bi_len, bi_int, bi_abs, bi_sum,
    fr_ap, lc_ap, wc_ap, wb_ap, e_asg, e_sub, e_ret, e_retN, e_ifs, e_whl, e_fr, e_ex, e_rse, e_try, e_brk, e_cont, e_pass, e_lc,
    x_var, x_mv, x_lit, x_dct0, x_bop, x_neg, x_cmp, x_cmp2, x_band, x_bor, x_bnot, x_ife, x_tup, x_lst, x_sub, x_slc, x_call, x_bi, x_isi, x_mth,
    b_ok, b_exc, o_ok, o_exc, th_nx, th_rt, th_bk, th_ct, th_exc, c_fz, c_ow, c_pt, al_fz, al_ow, v_fz, v_ow, z_fz, z_ow,
    k_fz, k_ow, k_pt0, k_pt, ko_fz, ko_ow, ko_pt0, ko_pt, n_fz, n_ow, n_pt0, n_pt, p_un, p_fz, p_ow, p_bw, p_mw, sc_fz, sc_ow, sc_bw, sc_mw,
    s_fz, s_ow, s_pt, pd_non, pd_bl, pd_int, pd_str, pd_lst, pd_tup, so_t, so_non, so_bl, so_int, so_str, so_lst, so_tup, tr_bl, tr_non, tr_int,
    f_nx, f_rt, f_exc, ad_pt, ad_fz, ad_ow, cm_eq, cm_ne, cm_lt, cm_le, cm_gt, cm_ge, cm_in, cm_ni, cm_isb, cm_isnb, cm_isn, cm_isnn, is_in, eo_ss, eo_ii, eo_bb, ed_ss, ed_ii, ed_bb,
    bp_ai, bp_si, bp_mi, bp_fi, bp_ri, bp_pi, bp_as, bp_ms, bp_al, bp_at, ln_str, ln_tup, ln_lst, iv_lst, iv_tup, iv_str, is_lst,
    sl_str, sl_lst, sl_tup, sl_scr, it_str, it_lst, it_tup, ipt_fz, ipt_ow, ipt_pt, lk_n, ul_n, st_str, st_lst, st_tup,
    u1_lst, u1_tup, u1_str, fl_int, fl_bl, fl_str, uo_nx, uo_rt, uo_exc, oo_s, ixN_0, line_s, line_t, *])
section
variable {sub : Str → Str → Option Bool} (N k : Nat)
theorem cut_init {a : Sg} {c : Nat} : cut (a ++ [c]) none (some (-1)) = a := by
  unfold cut sIx
  simp
  rw [show (-1 + ((a.length : Int) + 1)).toNat = a.length by omega]
  simp
theorem cut_last {a : Sg} {c : Nat} : cut (a ++ [c]) (some (-1)) none = [c] := by
  unfold cut sIx
  simp
  rw [show (-1 + ((a.length : Int) + 1)).toNat = a.length by omega]
  simp
theorem ix_last {a : Sg} : ixN (a.length + 1) (-1) = some a.length := by
  unfold ixN
  rw [if_neg (by omega), if_pos (by omega)]
  congr 1
  omega
def shE (s : Sg × Sg) : Rw.Env := [.fz (.str s.1), .fz (.str s.2)]
def shC : Ex := (.band (.cmp .gt (.bi "len" [(.var 0)]) (.lit (.int (0)))) (.band (.cmp .gt (.bi "len" [(.var 1)]) (.lit (.int (0)))) (.cmp .eq (.sub (.var 0) (.neg (.lit (.int (1))))) (.sub (.var 1) (.neg (.lit (.int (1))))))))
theorem sh_stop {h a : Sg} (hl : h.length ≤ 16777216) (al : a.length ≤ 16777216) (hn : ∀ x c, h = x ++ [c] → ∀ b, a ≠ b ++ [c]) : whC (FFn tab sub N k) shC (shE (h, a)) = .ok false (shE (h, a)) := by
  unfold shE shC
  by_cases e1 : h = []
  · subst e1
    trivial
  · obtain ⟨x, c, rfl⟩ : ∃ x c, h = x ++ [c] := ⟨h.dropLast, h.getLast e1, (List.dropLast_concat_getLast e1).symm⟩
    simp at hl
    by_cases e2 : a = []
    · subst e2
      trivial
    · obtain ⟨b, d, rfl⟩ : ∃ b d, a = b ++ [d] := ⟨a.dropLast, a.getLast e2, (List.dropLast_concat_getLast e2).symm⟩
      simp at al
      have ne : ¬ c = d := fun z => hn x c rfl b (by rw [z])
      have i1 := ix_last (a := x)
      have i2 := ix_last (a := b)
      have p1 : (0 : Int) < (x.length : Int) + 1 := by omega
      have p2 : (0 : Int) < (b.length : Int) + 1 := by omega
      clear hn
      trivial
theorem sh_go {x b : Sg} {c : Nat} (hl : x.length + 1 ≤ 16777216) (al : b.length + 1 ≤ 16777216) : whC (FFn tab sub N k) shC (shE (x ++ [c], b ++ [c])) = .ok true (shE (x ++ [c], b ++ [c])) ∧
    whB (FFn tab sub N k) sub N [false, false] B_shortest_0 (shE (x ++ [c], b ++ [c])) = .nx (shE (x, c :: b)) := by
  have i1 := ix_last (a := x)
  have i2 := ix_last (a := b)
  have p1 : (0 : Int) < (x.length : Int) + 1 := by omega
  have p2 : (0 : Int) < (b.length : Int) + 1 := by omega
  have c1 := cut_init (a := x) (c := c)
  have c2 := cut_init (a := b) (c := c)
  have c3 := cut_last (a := b) (c := c)
  have l3 : 1 + b.length ≤ 16777216 := by omega
  unfold shE shC
  constructor
  · trivial
  · rw [B_shortest_0]
    trivial
theorem r_shortest {h a : Sg} (hl : h.length ≤ 100) (al : a.length ≤ 100) (hN : 200 ≤ N) : ∃ h' a', Sh h a h' a' ∧ (∀ c, c ∈ h' ∨ c ∈ a' → c ∈ h ∨ c ∈ a) ∧ rn sub N (k + 2) "shortest" [.str h, .str a] = .rt (.tup [.str h', .str a']) [] := by
  obtain ⟨m, hm, h0, hr⟩ := r_least_round (sub := sub) N k al
  have mo : c_least_round.modes = [.al] := rfl
  -- what the loop keeps
  have loop : ∃ s : Sg × Sg, whlL (whC (FFn tab sub N (k + 1)) shC) (whB (FFn tab sub N (k + 1)) sub N [false, false] B_shortest_0) N (shE (h, a.take m)) = .nx (shE s) ∧ Sh h a s.1 s.2 ∧ ∀ c, c ∈ s.1 ∨ c ∈ s.2 → c ∈ h ∨ c ∈ a := by
    by_cases ha : a = []
    · subst ha
      have := sh_stop (sub := sub) N (k + 1) (h := h) (a := []) (by omega) (by simp) (fun x c _ b e => by simp at e)
      obtain ⟨N', rfl⟩ : ∃ N', N = N' + 1 := ⟨N - 1, by omega⟩
      refine ⟨(h, []), ?_, ⟨rfl, fun _ => ⟨rfl, rfl⟩, fun z => (z rfl).elim, Nat.le_refl _, Nat.le_refl _⟩, fun c hc => hc⟩
      rw [whlL, show List.take m ([] : Sg) = [] by simp, this]
      rfl
    · obtain ⟨q1, q2, q3⟩ := lr_ok ha hm (h0 ha)
      have hs : sqf h (a.take m) = sqf h a := sqf_head q1
      have hmp := h0 ha
      obtain ⟨s, e1, ⟨i1, i2, i3, i4⟩, e3⟩ := whlL_st (c := whC (FFn tab sub N (k + 1)) shC) (f := whB (FFn tab sub N (k + 1)) sub N [false, false] B_shortest_0) shE
        (fun s => sqf s.1 s.2 = sqf h a ∧ s.2.length = m ∧ s.1.length ≤ h.length ∧ ∀ c, c ∈ s.1 ∨ c ∈ s.2 → c ∈ h ∨ c ∈ a)
        (fun s => ∀ x c, s.1 = x ++ [c] → ∀ b, s.2 ≠ b ++ [c]) (fun s => s.1.length) (fun s ⟨j1, j2, j3, j4⟩ => by
          have sl : s.2.length ≤ 100 := by have := hm.1; omega
          by_cases hn : ∀ x c, s.1 = x ++ [c] → ∀ b, s.2 ≠ b ++ [c]
          · exact .inl ⟨sh_stop N (k + 1) (by omega) (by omega) hn, hn⟩
          · right
            have ⟨x, c, b, g1, g2⟩ : ∃ x c b, s.1 = x ++ [c] ∧ s.2 = b ++ [c] := by
              refine Classical.byContradiction fun z => hn fun x c e b e' => z ⟨x, c, b, e, e'⟩
            obtain ⟨s1, s2⟩ := s
            simp only at g1 g2
            subst g1 g2
            simp only [List.length_append, List.length_singleton] at j1 j2 j3 j4 sl
            obtain ⟨k1, k2⟩ := sh_go (sub := sub) N (k + 1) (x := x) (b := b) (c := c) (by omega) (by omega)
            refine ⟨k1, (x, c :: b), k2, ⟨?_, by simpa using j2, by simp only; omega, fun d hd => j4 d ?_⟩, by simp⟩
            · rw [← j1]
              exact sqf_rot.symm
            · simp only [List.mem_cons] at hd
              simp only [List.mem_append, List.mem_singleton]
              rcases hd with hd | hd | hd
              · exact .inl (.inl hd)
              · exact .inl (.inr hd)
              · exact .inr (.inl hd)) N (h, a.take m) ⟨hs, q2, Nat.le_refl _, fun c hc => hc.imp id List.mem_of_mem_take⟩ (by simp only; omega)
      refine ⟨s, e1, ⟨i1, fun z => (ha z).elim, fun _ => ?_, i3, by have := hm.1; omega⟩, i4⟩
      refine canon_of (fun z => by rw [z] at i2; simp at i2; omega) (fun n q g => ?_) e3
      rw [i2]
      rw [i1] at g
      exact q3 n q (per_shift g)
  obtain ⟨⟨h', a'⟩, l1, l2, l3⟩ := loop
  refine ⟨h', a', l2, l3, ?_⟩
  have hw : evS (FFn tab sub N (k + 1)) sub N S_shortest_0 [.fz (.str h), .fz (.str (a.take m))] = .nx [.fz (.str h'), .fz (.str a')] := by
    rw [S_shortest_0, e_whl]
    exact l1
  rw [rn, run_u t_shortest, c_shortest]
  have t1 := t_least_round
  clear l1 l2 l3 hm
  generalize S_shortest_0 = S at *
  trivial
end
end Kk02

set_option Elab.async false
set_option linter.all false
set_option maxRecDepth 100000
namespace Kk02
open PySem Rw
local macro_rules
  | `(tactic| trivial) => `(tactic| simp [callD, freeze, freezeL, freezeP, isFrP, calm_ok, z_pt, al_pt0, lock, unlock, backE, wipeE, killE, Slot.kl, Out.mp, pureE, pureEs, pureO, pureI, mv_popi, mv_append, mv_pop, ty_pop, ty_append, ty_join, mut_pop, mut_join, mut_append, isStrD, initE, musOf, evSs, evEs, evO, evI, evC, tst, getP, getAt, setP, setAt,
    isFr, isFrL, aliases, alPass, argV, callR, muPl, bwRoots, okPts, shrs, as_nm, as_tp, as_0, as_1, cons_, ff_run, ff_modes, bi_len, bi_int, bi_abs, bi_sum,
    fr_ap, lc_ap, wc_ap, wb_ap, e_asg, e_sub, e_ret, e_retN, e_ifs, e_whl, e_fr, e_ex, e_rse, e_try, e_brk, e_cont, e_pass, e_lc,
    x_var, x_mv, x_lit, x_dct0, x_bop, x_neg, x_cmp, x_cmp2, x_band, x_bor, x_bnot, x_ife, x_tup, x_lst, x_sub, x_slc, x_call, x_bi, x_isi, x_mth,
    b_ok, b_exc, o_ok, o_exc, th_nx, th_rt, th_bk, th_ct, th_exc, c_fz, c_ow, c_pt, al_fz, al_ow, v_fz, v_ow, z_fz, z_ow,
    k_fz, k_ow, k_pt0, k_pt, ko_fz, ko_ow, ko_pt0, ko_pt, n_fz, n_ow, n_pt0, n_pt, p_un, p_fz, p_ow, p_bw, p_mw, sc_fz, sc_ow, sc_bw, sc_mw,
    s_fz, s_ow, s_pt, pd_non, pd_bl, pd_int, pd_str, pd_lst, pd_tup, so_t, so_non, so_bl, so_int, so_str, so_lst, so_tup, tr_bl, tr_non, tr_int,
    f_nx, f_rt, f_exc, ad_pt, ad_fz, ad_ow, cm_eq, cm_ne, cm_lt, cm_le, cm_gt, cm_ge, cm_in, cm_ni, cm_isb, cm_isnb, cm_isn, cm_isnn, is_in, eo_ss, eo_ii, eo_bb, ed_ss, ed_ii, ed_bb,
    bp_ai, bp_si, bp_mi, bp_fi, bp_ri, bp_pi, bp_as, bp_ms, bp_al, bp_at, ln_str, ln_tup, ln_lst, iv_lst, iv_tup, iv_str, is_lst,
    sl_str, sl_lst, sl_tup, sl_scr, it_str, it_lst, it_tup, ipt_fz, ipt_ow, ipt_pt, lk_n, ul_n, st_str, st_lst, st_tup,
    u1_lst, u1_tup, u1_str, fl_int, fl_bl, fl_str, uo_nx, uo_rt, uo_exc, oo_s, ixN_0, line_s, line_t, *])
def sgD : Option Nat → D
  | some c => .str [c]
  | none => .str [101, 110, 100]
section
variable {sub : Str → Str → Option Bool} (N k : Nat)
theorem r_lsign {h a : Sg} {i : Nat} (hl : h.length ≤ 1000) (al : a.length ≤ 1000) : rn sub N (k + 1) "_law_sign" [.tup [.str h, .str a], .int i] = .rt (sgD (sqf h a i)) [] := by
  have h1 : h.length ≤ 16777216 := by omega
  have h2 : a.length ≤ 16777216 := by omega
  have x0 : ixN 2 0 = some 0 := rfl
  have x1 : ixN 2 1 = some 1 := rfl
  rw [rn, run_u t__law_sign, c__law_sign]
  by_cases c : i < h.length
  · have e1 : ixN h.length (i : Int) = some i := by rw [ixN_nat, if_pos c]
    have e2 : h[i]? = some h[i] := List.getElem?_eq_getElem c
    rw [sqf_lt c, e2]
    unfold sgD
    trivial
  · by_cases z : a = []
    · subst z
      rw [sqf_end (by omega)]
      unfold sgD
      trivial
    · have lp := len_pos z
      have lt : (i - h.length) % a.length < a.length := Nat.mod_lt _ lp
      have e2 : a[(i - h.length) % a.length]? = some a[(i - h.length) % a.length] := List.getElem?_eq_getElem lt
      have e3 : bop .Mod (.int ((i : Int) - h.length)) (.int a.length) = some (.int (((i - h.length) % a.length : Nat) : Int)) := by
        rw [bp_ri (by omega)]
        have : (i : Int) - h.length = ((i - h.length : Nat) : Int) := by omega
        rw [this]
        simp
      have e1 : ixN a.length (((i - h.length) % a.length : Nat) : Int) = some ((i - h.length) % a.length) := by rw [ixN_nat, if_pos lt]
      rw [sqf_ge (by omega) z, e2]
      unfold sgD
      generalize a[(i - h.length) % a.length] = g at *
      generalize (i - h.length) % a.length = q at *
      clear lt lp
      trivial
/-- the first signs -/
def lf (h a : Sg) (n : Nat) : List D := (List.range n).map fun i => sgD (sqf h a i)
theorem sgD_fr {o : Option Nat} : isFr (sgD o) = true := by cases o <;> rfl
theorem r_lfirst {h a : Sg} {n : Nat} (hl : h.length ≤ 1000) (al : a.length ≤ 1000) (hn : n ≤ 1000) : rn sub N (k + 2) "_law_first" [.tup [.str h, .str a], .int n] = .rt (.lst true (lf h a n)) [] := by
  have hi : evI (FFn tab sub N (k + 1)) (.rng (.var 1)) [.fz (.tup [.str h, .str a]), .fz (.int n), .un] = .ok (rangeD 0 n, true, none) [.fz (.tup [.str h, .str a]), .fz (.int n), .un] := i_rng (by trivial) (rOk_small (by omega) (by omega))
  obtain ⟨ρ', e1, e2⟩ := lcL_pure (f := lcB (FFn tab sub N (k + 1)) (.nm 2) true none (.call "_law_sign" [(.var 0), (.var 2)])) (own := [2]) (ρ0 := [.fz (.tup [.str h, .str a]), .fz (.int n), .un])
    (fun d => match d with
      | .int i => some (sgD (sqf h a i.toNat))
      | _ => none) (rangeD 0 n) [] [.fz (.tup [.str h, .str a]), .fz (.int n), .un] rfl (by simp [rangeD]; exact line_le (by omega)) (fun x hx => by
      obtain ⟨i, rfl, h1, h2⟩ := mem_rangeD hx
      obtain ⟨j, rfl⟩ := Int.eq_ofNat_of_zero_le h1
      have h3 := r_lsign (sub := sub) N k (h := h) (a := a) (i := j) hl al
      have mo : c__law_sign.modes = [.al, .al] := rfl
      have tt := t__law_sign
      have h4 := pd_fr (sgD_fr (o := sqf h a j))
      refine ⟨[.fz (.tup [.str h, .str a]), .fz (.int n), .fz (.int j)], ?_, rfl⟩
      dsimp only
      rw [Int.toNat_natCast]
      clear h1 h2 hx hi
      trivial)
  have e3 : (rangeD 0 (n : Int)).filterMap (fun d => match d with
      | .int i => some (sgD (sqf h a i.toNat))
      | _ => none) = lf h a n := by
    unfold rangeD lf
    rw [List.filterMap_map]
    simp [Function.comp_def]
  rw [e3, List.nil_append] at e1
  have hc : evE (FFn tab sub N (k + 1)) C__law_first_0 [.fz (.tup [.str h, .str a]), .fz (.int n), .un] = .ok (.ow (.lst true (lf h a n))) [.fz (.tup [.str h, .str a]), .fz (.int n), .un] := by
    rw [C__law_first_0, e_lc, hi, b_ok]
    dsimp only
    rw [lk_n, e1, calm_ok, b_ok]
    have e2 : wipeE ρ' [2] = [.fz (.tup [.str h, .str a]), .fz (.int n), .un] := e2
    simp [wipeE] at e2
    clear hi e1 e3
    trivial
  rw [rn, run_u t__law_first, c__law_first]
  clear hi e1 e3 e2
  trivial
theorem lf_lay {h a : Sg} {n : Nat} (hc : ∀ c, c ∈ h ∨ c ∈ a → c ∈ abc) : lay 60 (.lst true (lf h a n)) = true := by
  have : ∀ l : List Nat, layL 59 (l.map fun i => sgD (sqf h a i)) = true := by
    intro l
    induction l with
    | nil => rfl
    | cons i l ih =>
      rw [List.map_cons, layL, ih, Bool.and_true]
      cases e : sqf h a i with
      | none => rfl
      | some c =>
        have hm : c ∈ h ∨ c ∈ a := by
          by_cases z : a = []
          · subst z
            by_cases hi : i < h.length
            · rw [sqf_lt hi] at e
              exact .inl (List.mem_of_getElem? e)
            · rw [sqf_end (by omega)] at e; cases e
          · obtain ⟨d, h1, h2⟩ := sqf_some (h := h) z i
            rw [e] at h1
            cases h1
            exact h2
        have := hc c hm
        simp [abc] at this
        rcases this with rfl | rfl | rfl <;> rfl
  exact this _
theorem sgD_inj {o p : Option Nat} (h : ∀ c, o = some c → c ∈ abc) : eqD (sgD o) (sgD p) = decide (o = p) := by
  cases o <;> cases p <;> simp [sgD, ed_ss]
/-- the first n alike -/
def agB (s t : Nat → Option Nat) (n : Nat) : Bool := (List.range n).all fun i => decide (s i = t i)
theorem agB_iff {s t : Nat → Option Nat} {n : Nat} : agB s t n = true ↔ ∀ i, i < n → s i = t i := by simp [agB]
theorem lf_eq {h a k b : Sg} {n : Nat} : eqD (.lst true (lf h a n)) (.lst true (lf k b n)) = agB (sqf h a) (sqf k b) n := by
  have key : ∀ l : List Nat, eqL (l.map fun i => sgD (sqf h a i)) (l.map fun i => sgD (sqf k b i)) = l.all fun i => decide (sqf h a i = sqf k b i) := by
    intro l
    induction l with
    | nil => simp [eqL]
    | cons i l ih =>
      rw [List.map_cons, List.map_cons, eqL, ih, List.all_cons]
      congr 1
      cases sqf h a i <;> cases sqf k b i <;> simp [sgD, ed_ss]
  exact key (List.range n)
/-- the letters of an endless content -/
theorem lf_join {h a : Sg} {n : Nat} (ha : a ≠ []) : lf h a n = (firsts (sqf h a) 0 n).map fun c => D.str [c] := by
  unfold lf firsts
  induction n with
  | zero => rfl
  | succ n ih =>
    obtain ⟨c, h1, _⟩ := sqf_some (h := h) ha n
    rw [List.range_succ, List.map_append, List.filterMap_append, List.map_append, ih]
    simp [h1, sgD]
theorem firsts_len {h a : Sg} {n : Nat} (ha : a ≠ []) : (firsts (sqf h a) 0 n).length = n := by
  have := congrArg List.length (lf_join (h := h) (n := n) ha)
  simp [lf] at this
  exact this.symm
theorem firsts_get {h a : Sg} {n i : Nat} (ha : a ≠ []) (hi : i < n) : (firsts (sqf h a) 0 n)[i]? = sqf h a i := by
  obtain ⟨c, h1, _⟩ := sqf_some (h := h) ha i
  have := congrArg (fun l => l[i]?) (lf_join (h := h) (n := n) ha)
  simp [lf, hi, h1, sgD] at this
  rw [h1]
  cases e : (firsts (sqf h a) 0 n)[i]? with
  | none => rw [e] at this; cases this
  | some d =>
    rw [e] at this
    have : D.str [c] = D.str [d] := by simpa using this
    cases this
    rfl
end
end Kk02

set_option Elab.async false
set_option linter.all false
set_option maxRecDepth 100000
namespace Kk02
open PySem Rw
local macro_rules
  | `(tactic| trivial) => `(tactic| simp [callD, freeze, freezeL, freezeP, isFrP, calm_ok, z_pt, al_pt0, lock, unlock, backE, wipeE, killE, Slot.kl, Out.mp, pureE, pureEs, pureO, pureI, mv_popi, mv_append, mv_pop, ty_pop, ty_append, ty_join, mut_pop, mut_join, mut_append, isStrD, initE, musOf, evSs, evEs, evO, evI, evC, tst, getP, getAt, setP, setAt,
    isFr, isFrL, aliases, alPass, argV, callR, muPl, bwRoots, okPts, shrs, as_nm, as_tp, as_0, as_1, cons_, ff_run, ff_modes, bi_len, bi_int, bi_abs, bi_sum,
    fr_ap, lc_ap, wc_ap, wb_ap, e_asg, e_sub, e_ret, e_retN, e_ifs, e_whl, e_fr, e_ex, e_rse, e_try, e_brk, e_cont, e_pass, e_lc,
    x_var, x_mv, x_lit, x_dct0, x_bop, x_neg, x_cmp, x_cmp2, x_band, x_bor, x_bnot, x_ife, x_tup, x_lst, x_sub, x_slc, x_call, x_bi, x_isi, x_mth,
    b_ok, b_exc, o_ok, o_exc, th_nx, th_rt, th_bk, th_ct, th_exc, c_fz, c_ow, c_pt, al_fz, al_ow, v_fz, v_ow, z_fz, z_ow,
    k_fz, k_ow, k_pt0, k_pt, ko_fz, ko_ow, ko_pt0, ko_pt, n_fz, n_ow, n_pt0, n_pt, p_un, p_fz, p_ow, p_bw, p_mw, sc_fz, sc_ow, sc_bw, sc_mw,
    s_fz, s_ow, s_pt, pd_non, pd_bl, pd_int, pd_str, pd_lst, pd_tup, so_t, so_non, so_bl, so_int, so_str, so_lst, so_tup, tr_bl, tr_non, tr_int,
    f_nx, f_rt, f_exc, ad_pt, ad_fz, ad_ow, cm_eq, cm_ne, cm_lt, cm_le, cm_gt, cm_ge, cm_in, cm_ni, cm_isb, cm_isnb, cm_isn, cm_isnn, is_in, eo_ss, eo_ii, eo_bb, ed_ss, ed_ii, ed_bb,
    bp_ai, bp_si, bp_mi, bp_fi, bp_ri, bp_pi, bp_as, bp_ms, bp_al, bp_at, ln_str, ln_tup, ln_lst, iv_lst, iv_tup, iv_str, is_lst,
    sl_str, sl_lst, sl_tup, sl_scr, it_str, it_lst, it_tup, ipt_fz, ipt_ow, ipt_pt, lk_n, ul_n, st_str, st_lst, st_tup,
    u1_lst, u1_tup, u1_str, fl_int, fl_bl, fl_str, uo_nx, uo_rt, uo_exc, oo_s, ixN_0, line_s, line_t, *])
/-- a for over a range that returns at m and goes by ahead of it -/
theorem forL_hit {f : D → Rw.Env → Out} {E E' : Rw.Env} {r : D} {m hi : Int} (hm : m < hi) : ∀ (n : Nat) (lo : Int), (m - lo).toNat = n → lo ≤ m → (∀ i, lo ≤ i → i < m → f (.int i) E = .nx E) → f (.int m) E = .rt r E' → forL f (rangeD lo hi) E = .rt r E' := by
  have cons : ∀ lo : Int, lo < hi → rangeD lo hi = .int lo :: rangeD (lo + 1) hi := fun lo hl => by
    unfold rangeD
    rw [show (hi - lo).toNat = (hi - (lo + 1)).toNat + 1 by omega, List.range_succ_eq_map, List.map_cons, List.map_map]
    congr 1
    · simp
    · apply List.map_congr_left
      intro a _
      simp only [Function.comp]
      congr 1
      push_cast
      omega
  intro n
  induction n with
  | zero =>
    intro lo hn hl _ h
    have : lo = m := by omega
    subst this
    rw [cons lo hm, forL, h]
  | succ n ih =>
    intro lo hn hl hk h
    rw [cons lo (by omega), forL, hk lo (Int.le_refl _) (by omega)]
    exact ih (lo + 1) (by omega) (by omega) (fun i a b => hk i (by omega) b) h
section
variable {sub : Str → Str → Option Bool} (N k : Nat)
theorem sqf_split {h a : Sg} (ha : a ≠ []) {l s : Nat} (hs : 0 < s) : ((firsts (sqf h a) 0 (l + s)).take l).length = l ∧ ((firsts (sqf h a) 0 (l + s)).drop l).length = s ∧ ∀ c, c ∈ (firsts (sqf h a) 0 (l + s)).take l ∨ c ∈ (firsts (sqf h a) 0 (l + s)).drop l → c ∈ h ∨ c ∈ a := by
  have fl := firsts_len (h := h) (n := l + s) ha
  refine ⟨by rw [List.length_take]; omega, by rw [List.length_drop]; omega, fun c hc => ?_⟩
  have hm : c ∈ firsts (sqf h a) 0 (l + s) := hc.elim List.mem_of_mem_take List.mem_of_mem_drop
  obtain ⟨i, _, h2⟩ := List.mem_filterMap.mp hm
  obtain ⟨d, h3, h4⟩ := sqf_some (h := h) ha (0 + i)
  rw [h3] at h2
  cases h2
  exact h4
/-- whether the first signs, cut, have the signs -/
def Hit (h a : Sg) (s l : Nat) : Prop := ∀ i, i < 60 → sqf ((firsts (sqf h a) 0 (l + s)).take l) ((firsts (sqf h a) 0 (l + s)).drop l) i = sqf h a i
theorem hit_sq {h a : Sg} (ha : a ≠ []) {s l : Nat} (hs : 0 < s) (h1 : s ≤ a.length) (h2 : l ≤ h.length + a.length) (hb : h.length + 3 * a.length ≤ 60) (hh : Hit h a s l) : Per (sqf h a) l s := by
  obtain ⟨l1, l2, _⟩ := sqf_split (h := h) (l := l) ha hs
  have hne : (firsts (sqf h a) 0 (l + s)).drop l ≠ [] := fun z => by rw [z] at l2; simp at l2; omega
  have e := (agree_c (B := 60) hne ha (by rw [l1, l2]; omega)).mp hh
  have := sqf_per (h := (firsts (sqf h a) 0 (l + s)).take l) hne
  rw [e, l1, l2] at this
  exact this
theorem hit_of {h a h' a' : Sg} (ha : a ≠ []) (S : Sh h a h' a') : (firsts (sqf h a) 0 (h'.length + a'.length)).take h'.length = h' ∧ (firsts (sqf h a) 0 (h'.length + a'.length)).drop h'.length = a' ∧ Hit h a a'.length h'.length := by
  have ca := S.cn ha
  have lp := len_pos ca.1
  have e : firsts (sqf h a) 0 (h'.length + a'.length) = h' ++ a' := by
    apply List.ext_getElem?
    intro i
    by_cases hi : i < h'.length + a'.length
    · rw [firsts_get ha hi, ← S.sq]
      by_cases hj : i < h'.length
      · rw [sqf_lt hj, List.getElem?_append_left hj]
      · rw [sqf_ge (by omega) ca.1, List.getElem?_append_right (by omega), Nat.mod_eq_of_lt (by omega)]
    · rw [List.getElem?_eq_none_iff.mpr (by rw [firsts_len ha]; omega), List.getElem?_eq_none_iff.mpr (by simp; omega)]
  have e1 : (firsts (sqf h a) 0 (h'.length + a'.length)).take h'.length = h' := by rw [e]; simp
  have e2 : (firsts (sqf h a) 0 (h'.length + a'.length)).drop h'.length = a' := by rw [e]; simp
  refine ⟨e1, e2, fun i _ => ?_⟩
  rw [e1, e2, S.sq]
def leE (h a : Sg) (l s : D) : Rw.Env := [.fz (.tup [.str h, .str a]), .un, .fz s, .un, .un, .un]
theorem ll_body (h a F : Sg) (s l : Int) (w1 : rn sub N (k + 2) "_law_first" [.tup [.str h, .str a], .int (l + s)] = .rt (.lst true (F.map fun c => D.str [c])) [])
    (j1 : mthV "join" (.str []) [.lst true (F.map fun c => D.str [c])] = some (.str F)) (Fl : F.length ≤ 16777216) (FT FD : Sg) (c1 : cut F none (some l) = FT) (c2 : cut F (some l) none = FD) (X Y : List D)
    (w2 : rn sub N (k + 2) "_law_first" [.tup [.str h, .str a], .int 60] = .rt (.lst true X) []) (w3 : rn sub N (k + 2) "_law_first" [.tup [.str FT, .str FD], .int 60] = .rt (.lst true Y) []) (q5 : eqOk (.lst true Y) (.lst true X) = true) :
    frB (FFn tab sub N (k + 2)) sub N [false, true, false, true, true, true] (.nm 3) true B__law_least_0 (.int l) [.fz (.tup [.str h, .str a]), .un, .fz (.int s), .un, .un, .un] =
      if eqD (.lst true Y) (.lst true X) then .rt (.tup [.str FT, .str FD]) [.fz (.tup [.str h, .str a]), .un, .fz (.int s), .fz (.int l), .fz (.str F), .fz (.tup [.str FT, .str FD])] else .nx [.fz (.tup [.str h, .str a]), .un, .fz (.int s), .un, .un, .un] := by
  have mo : c__law_first.modes = [.al, .al] := rfl
  have tt := t__law_first
  rw [B__law_least_0]
  cases z : eqD (.lst true Y) (.lst true X) <;> trivial
/-- the inner turn -/
theorem ll_turn {h a : Sg} (ha : a ≠ []) (hc : ∀ c, c ∈ h ∨ c ∈ a → c ∈ abc) (hl : h.length ≤ 100) (al : a.length ≤ 100) {s l : Nat} (hs : 0 < s) (h1 : s ≤ 100) (h2 : l ≤ 200) :
    frB (FFn tab sub N (k + 2)) sub N [false, true, false, true, true, true] (.nm 3) true B__law_least_0 (.int (l : Int)) [.fz (.tup [.str h, .str a]), .un, .fz (.int (s : Int)), .un, .un, .un] =
      if agB (sqf ((firsts (sqf h a) 0 (l + s)).take l) ((firsts (sqf h a) 0 (l + s)).drop l)) (sqf h a) 60 then .rt (.tup [.str ((firsts (sqf h a) 0 (l + s)).take l), .str ((firsts (sqf h a) 0 (l + s)).drop l)]) [.fz (.tup [.str h, .str a]), .un, .fz (.int (s : Int)), .fz (.int (l : Int)), .fz (.str (firsts (sqf h a) 0 (l + s))), .fz (.tup [.str ((firsts (sqf h a) 0 (l + s)).take l), .str ((firsts (sqf h a) 0 (l + s)).drop l)])]
      else .nx [.fz (.tup [.str h, .str a]), .un, .fz (.int (s : Int)), .un, .un, .un] := by
  obtain ⟨l1, l2, l3⟩ := sqf_split (h := h) (l := l) ha hs
  have fl := firsts_len (h := h) (n := l + s) ha
  have w1 := r_lfirst (sub := sub) N k (h := h) (a := a) (n := l + s) (by omega) (by omega) (by omega)
  rw [lf_join ha] at w1
  have w2 := r_lfirst (sub := sub) N k (h := h) (a := a) (n := 60) (by omega) (by omega) (by omega)
  have w3 := r_lfirst (sub := sub) N k (h := (firsts (sqf h a) 0 (l + s)).take l) (a := (firsts (sqf h a) 0 (l + s)).drop l) (n := 60) (by omega) (by omega) (by omega)
  have q1 := lf_lay (n := 60) hc
  have q2 := lf_lay (h := (firsts (sqf h a) 0 (l + s)).take l) (a := (firsts (sqf h a) 0 (l + s)).drop l) (n := 60) fun c z => hc c (l3 c z)
  have q3 := lf_eq (h := (firsts (sqf h a) 0 (l + s)).take l) (a := (firsts (sqf h a) 0 (l + s)).drop l) (k := h) (b := a) (n := 60)
  have q4 : ∀ x y : D, lay 60 x = true → lay 60 y = true → eqOk x y = true := fun x y hx hy => by unfold eqOk; rw [hx, hy]; simp
  have q5 := q4 _ _ q2 q1
  have j1 := join1 (x := firsts (sqf h a) 0 (l + s)) (o := true) (by rw [fl]; exact line_le (by omega))
  have e0 : ((l + s : Nat) : Int) = (l : Int) + (s : Int) := by simp
  rw [e0] at w1
  rw [← q3]
  exact ll_body N k h a _ s l w1 j1 (by rw [fl]; omega) _ _ cut_take cut_drop _ _ w2 w3 q5
end
end Kk02

set_option Elab.async false
set_option linter.all false
set_option maxRecDepth 100000
namespace Kk02
open PySem Rw
local macro_rules
  | `(tactic| trivial) => `(tactic| simp [callD, freeze, freezeL, freezeP, isFrP, calm_ok, z_pt, al_pt0, lock, unlock, backE, wipeE, killE, Slot.kl, Out.mp, pureE, pureEs, pureO, pureI, mv_popi, mv_append, mv_pop, ty_pop, ty_append, ty_join, mut_pop, mut_join, mut_append, isStrD, initE, musOf, evSs, evEs, evO, evI, evC, tst, getP, getAt, setP, setAt,
    isFr, isFrL, aliases, alPass, argV, callR, muPl, bwRoots, okPts, shrs, as_nm, as_tp, as_0, as_1, cons_, ff_run, ff_modes, bi_len, bi_int, bi_abs, bi_sum,
    fr_ap, lc_ap, wc_ap, wb_ap, e_asg, e_sub, e_ret, e_retN, e_ifs, e_whl, e_fr, e_ex, e_rse, e_try, e_brk, e_cont, e_pass, e_lc,
    x_var, x_mv, x_lit, x_dct0, x_bop, x_neg, x_cmp, x_cmp2, x_band, x_bor, x_bnot, x_ife, x_tup, x_lst, x_sub, x_slc, x_call, x_bi, x_isi, x_mth,
    b_ok, b_exc, o_ok, o_exc, th_nx, th_rt, th_bk, th_ct, th_exc, c_fz, c_ow, c_pt, al_fz, al_ow, v_fz, v_ow, z_fz, z_ow,
    k_fz, k_ow, k_pt0, k_pt, ko_fz, ko_ow, ko_pt0, ko_pt, n_fz, n_ow, n_pt0, n_pt, p_un, p_fz, p_ow, p_bw, p_mw, sc_fz, sc_ow, sc_bw, sc_mw,
    s_fz, s_ow, s_pt, pd_non, pd_bl, pd_int, pd_str, pd_lst, pd_tup, so_t, so_non, so_bl, so_int, so_str, so_lst, so_tup, tr_bl, tr_non, tr_int,
    f_nx, f_rt, f_exc, ad_pt, ad_fz, ad_ow, cm_eq, cm_ne, cm_lt, cm_le, cm_gt, cm_ge, cm_in, cm_ni, cm_isb, cm_isnb, cm_isn, cm_isnn, is_in, eo_ss, eo_ii, eo_bb, ed_ss, ed_ii, ed_bb,
    bp_ai, bp_si, bp_mi, bp_fi, bp_ri, bp_pi, bp_as, bp_ms, bp_al, bp_at, ln_str, ln_tup, ln_lst, iv_lst, iv_tup, iv_str, is_lst,
    sl_str, sl_lst, sl_tup, sl_scr, it_str, it_lst, it_tup, ipt_fz, ipt_ow, ipt_pt, lk_n, ul_n, st_str, st_lst, st_tup,
    u1_lst, u1_tup, u1_str, fl_int, fl_bl, fl_str, uo_nx, uo_rt, uo_exc, oo_s, ixN_0, line_s, line_t, *])
section
variable {sub : Str → Str → Option Bool} (N k : Nat)
/-- the inner loop's range -/
theorem ll_rng {F : Fn} {h a : Sg} (hl : h.length ≤ 1000) (al : a.length ≤ 1000) (s : D) : evI F (.rng (.bop .Add (.bop .Add (.bi "len" [(.sub (.var 0) (.lit (.int (0))))]) (.bi "len" [(.sub (.var 0) (.lit (.int (1))))])) (.lit (.int (1))))) [.fz (.tup [.str h, .str a]), .un, .fz s, .un, .un, .un] =
    .ok (rangeD 0 ((h.length : Int) + a.length + 1), true, none) [.fz (.tup [.str h, .str a]), .un, .fz s, .un, .un, .un] := by
  have h1 : h.length ≤ 16777216 := by omega
  have h2 : a.length ≤ 16777216 := by omega
  have x0 : ixN 2 0 = some 0 := rfl
  have x1 : ixN 2 1 = some 1 := rfl
  refine i_rng ?_ (rOk_small (by omega) (by omega))
  clear hl al
  trivial
theorem ll_rng2 {F : Fn} {h a : Sg} (al : a.length ≤ 1000) (L : D) : evI F (.rng2 (.lit (.int (1))) (.bop .Add (.bi "len" [(.sub (.var 0) (.lit (.int (1))))]) (.lit (.int (1))))) [.fz (.tup [.str h, .str a]), .fz L, .un, .un, .un, .un] =
    .ok (rangeD 1 ((a.length : Int) + 1), true, none) [.fz (.tup [.str h, .str a]), .fz L, .un, .un, .un, .un] := by
  have h2 : a.length ≤ 16777216 := by omega
  have x1 : ixN 2 1 = some 1 := rfl
  refine i_rng2 (by rw [x_lit]) ?_ (rOk_small (by omega) (by omega)) (rOk_small (by omega) (by omega))
  clear al
  trivial
theorem forL_none {f : D → Rw.Env → Out} {E : Rw.Env} {hi : Int} : ∀ (n : Nat) (lo : Int), (hi - lo).toNat = n → (∀ i, lo ≤ i → i < hi → f (.int i) E = .nx E) → forL f (rangeD lo hi) E = .nx E := by
  intro n lo hn h
  rcases forL_ret (f := f) (E := E) (r := fun _ => .non) (E' := fun _ => E) (fun _ => false) n lo hn (fun i a b => h i a b) with ⟨i, _, _, z, _⟩ | ⟨_, z⟩
  · cases z
  · exact z
theorem r_lleast {h a : Sg} (hc : ∀ c, c ∈ h ∨ c ∈ a → c ∈ abc) (hb : h.length + 3 * a.length ≤ 60) (hN : 200 ≤ N) (L : D) : ∃ h' a', Sh h a h' a' ∧ (∀ c, c ∈ h' ∨ c ∈ a' → c ∈ h ∨ c ∈ a) ∧ rn sub N (k + 3) "_law_least" [.tup [.str h, .str a], L] = .rt (.tup [.str h', .str a']) [] := by
  obtain ⟨h', a', S, hl, _⟩ := r_shortest (sub := sub) N 0 (h := h) (a := a) (by omega) (by omega) hN
  refine ⟨h', a', S, hl, ?_⟩
  have h1 : h.length ≤ 16777216 := by omega
  have h2 : a.length ≤ 16777216 := by omega
  have x1 : ixN 2 1 = some 1 := rfl
  by_cases ha : a = []
  · obtain ⟨rfl, rfl⟩ := S.en ha
    subst ha
    rw [rn, run_u t__law_least, c__law_least]
    clear S hl hb hN hc
    trivial
  · have ca := S.cn ha
    have lp := len_pos ca.1
    have lla := S.la
    have llh := S.lh
    -- the inner loop
    have turn : ∀ (s l : Nat), 0 < s → s ≤ a.length → l ≤ h.length + a.length → _ := fun s l h3 h4 h5 => ll_turn (sub := sub) N k ha hc (by omega) (by omega) (s := s) (l := l) h3 (by omega) (by omega)
    have least : ∀ (s l : Nat), 0 < s → s ≤ a.length → l ≤ h.length + a.length → (s < a'.length ∨ (s = a'.length ∧ l < h'.length)) → agB (sqf ((firsts (sqf h a) 0 (l + s)).take l) ((firsts (sqf h a) 0 (l + s)).drop l)) (sqf h a) 60 = false := fun s l h3 h4 h5 h6 => by
      cases z : agB (sqf ((firsts (sqf h a) 0 (l + s)).take l) ((firsts (sqf h a) 0 (l + s)).drop l)) (sqf h a) 60 with
      | false => rfl
      | true =>
        exfalso
        have p := hit_sq ha h3 h4 h5 hb (agB_iff.mp z)
        have := ca.2 l s (by rw [S.sq]; exact p)
        omega
    have inner0 : ∀ s : Nat, 0 < s → s < a'.length → evS (FFn tab sub N (k + 2)) sub N S__law_least_0 [.fz (.tup [.str h, .str a]), .un, .fz (.int (s : Int)), .un, .un, .un] = .nx [.fz (.tup [.str h, .str a]), .un, .fz (.int (s : Int)), .un, .un, .un] := fun s h3 h4 => by
      rw [S__law_least_0]
      refine (fr_run (ll_rng (by omega) (by omega) (.int (s : Int))) ?_).trans uo_id
      refine forL_none _ 0 rfl fun i i1 i2 => ?_
      obtain ⟨l, rfl⟩ := Int.eq_ofNat_of_zero_le i1
      have t1 := turn s l h3 (by omega) (by omega)
      rw [least s l h3 (by omega) (by omega) (.inl h4)] at t1
      exact t1
    have inner1 : ∃ ρ, evS (FFn tab sub N (k + 2)) sub N S__law_least_0 [.fz (.tup [.str h, .str a]), .un, .fz (.int (a'.length : Int)), .un, .un, .un] = .rt (.tup [.str h', .str a']) ρ ∧ musOf [.al, .al] ρ = some [] := by
      obtain ⟨u1, u2, u3⟩ := hit_of ha S
      have t1 := turn a'.length h'.length lp lla (by omega)
      rw [agB_iff.mpr u3, if_pos rfl, u1, u2] at t1
      have f1 := forL_hit (hi := (h.length : Int) + a.length + 1) (m := (h'.length : Int)) (by omega) _ 0 rfl (by omega) (fun i i1 i2 => by
        obtain ⟨l, rfl⟩ := Int.eq_ofNat_of_zero_le i1
        have t2 := turn a'.length l lp lla (by omega)
        rw [least a'.length l lp lla (by omega) (.inr ⟨rfl, by omega⟩)] at t2
        exact t2) t1
      exact ⟨_, by rw [S__law_least_0]; exact (fr_run (ll_rng (by omega) (by omega) (.int (a'.length : Int))) f1).trans uo_id, rfl⟩
    obtain ⟨ρ', inner1, mus⟩ := inner1
    have outer : evS (FFn tab sub N (k + 2)) sub N S__law_least_1 [.fz (.tup [.str h, .str a]), .fz L, .un, .un, .un, .un] = .rt (.tup [.str h', .str a']) ρ' := by
      rw [S__law_least_1]
      refine (fr_run (ll_rng2 (by omega) L) (forL_hit (m := (a'.length : Int)) (by omega) _ 1 rfl (by omega) (fun i i1 i2 => ?_) ?_)).trans uo_id
      · obtain ⟨l, rfl⟩ := Int.eq_ofNat_of_zero_le (show 0 ≤ i by omega)
        have t2 := inner0 l (by omega) (by omega)
        generalize (l : Int) = li at *
        rw [B__law_least_1]
        clear inner0 inner1 turn least hl hb hN hc lp lla llh ca S i1 i2
        generalize S__law_least_0 = S0 at *
        trivial
      · generalize (a'.length : Int) = li at *
        rw [B__law_least_1]
        clear inner0 turn least hl hb hN hc lp lla llh ca S
        generalize S__law_least_0 = S0 at *
        trivial
    rw [rn, run_u t__law_least, c__law_least]
    clear inner0 inner1 turn least hl hb hN hc lp lla llh ca S
    generalize S__law_least_1 = S0 at *
    cases ρ' with
    | nil => cases mus
    | cons s0 ρ' => cases ρ' with
      | nil => cases mus
      | cons s1 ρ' => trivial
end
end Kk02

set_option Elab.async false
set_option linter.all false
set_option maxRecDepth 100000
namespace Kk02
open PySem Rw
local macro_rules
  | `(tactic| trivial) => `(tactic| simp [callD, freeze, freezeL, freezeP, isFrP, calm_ok, z_pt, al_pt0, lock, unlock, backE, wipeE, killE, Slot.kl, Out.mp, pureE, pureEs, pureO, pureI, mv_popi, mv_append, mv_pop, ty_pop, ty_append, ty_join, mut_pop, mut_join, mut_append, isStrD, initE, musOf, evSs, evEs, evO, evI, evC, tst, getP, getAt, setP, setAt,
    isFr, isFrL, aliases, alPass, argV, callR, muPl, bwRoots, okPts, shrs, as_nm, as_tp, as_0, as_1, cons_, ff_run, ff_modes, bi_len, bi_int, bi_abs, bi_sum,
    fr_ap, lc_ap, wc_ap, wb_ap, e_asg, e_sub, e_ret, e_retN, e_ifs, e_whl, e_fr, e_ex, e_rse, e_try, e_brk, e_cont, e_pass, e_lc,
    x_var, x_mv, x_lit, x_dct0, x_bop, x_neg, x_cmp, x_cmp2, x_band, x_bor, x_bnot, x_ife, x_tup, x_lst, x_sub, x_slc, x_call, x_bi, x_isi, x_mth,
    b_ok, b_exc, o_ok, o_exc, th_nx, th_rt, th_bk, th_ct, th_exc, c_fz, c_ow, c_pt, al_fz, al_ow, v_fz, v_ow, z_fz, z_ow,
    k_fz, k_ow, k_pt0, k_pt, ko_fz, ko_ow, ko_pt0, ko_pt, n_fz, n_ow, n_pt0, n_pt, p_un, p_fz, p_ow, p_bw, p_mw, sc_fz, sc_ow, sc_bw, sc_mw,
    s_fz, s_ow, s_pt, pd_non, pd_bl, pd_int, pd_str, pd_lst, pd_tup, so_t, so_non, so_bl, so_int, so_str, so_lst, so_tup, tr_bl, tr_non, tr_int,
    f_nx, f_rt, f_exc, ad_pt, ad_fz, ad_ow, cm_eq, cm_ne, cm_lt, cm_le, cm_gt, cm_ge, cm_in, cm_ni, cm_isb, cm_isnb, cm_isn, cm_isnn, is_in, eo_ss, eo_ii, eo_bb, ed_ss, ed_ii, ed_bb,
    bp_ai, bp_si, bp_mi, bp_fi, bp_ri, bp_pi, bp_as, bp_ms, bp_al, bp_at, ln_str, ln_tup, ln_lst, iv_lst, iv_tup, iv_str, is_lst,
    sl_str, sl_lst, sl_tup, sl_scr, it_str, it_lst, it_tup, ipt_fz, ipt_ow, ipt_pt, lk_n, ul_n, st_str, st_lst, st_tup,
    u1_lst, u1_tup, u1_str, fl_int, fl_bl, fl_str, uo_nx, uo_rt, uo_exc, oo_s, ixN_0, line_s, line_t, *])
section
variable {sub : Str → Str → Option Bool} (N k : Nat)
theorem r_chk {h a : Sg} (hc : ∀ c, c ∈ h ∨ c ∈ a → c ∈ abc) : rn sub N (k + 5) "check_content" [.tup [.str h, .str a]] = .rt .non [] := by
  have := r_check_content (sub := sub) N k t_is_string_of t_is_letters t_is_pair t_is_content_of t_is_content t_check_content (d := .tup [.str h, .str a]) rfl
  rw [if_pos (contB_of (fun c z => hc c (.inl z)) fun c z => hc c (.inr z))] at this
  exact this
theorem r_least {h a h' a' : Sg} (hc : ∀ c, c ∈ h ∨ c ∈ a → c ∈ abc) (hr : rn sub N (k + 5) "shortest" [.str h, .str a] = .rt (.tup [.str h', .str a']) []) : rn sub N (k + 6) "least_content" [.tup [.str h, .str a]] = .rt (.tup [.str h', .str a']) [] := by
  have h1 := r_chk (sub := sub) N k hc
  have m1 : c_check_content.modes = [.al] := rfl
  have m2 : c_shortest.modes = [.al, .al] := rfl
  have x0 : ixN 2 0 = some 0 := rfl
  have x1 : ixN 2 1 = some 1 := rfl
  have t1 := t_check_content
  have t2 := t_shortest
  rw [rn, run_u t_least_content, c_least_content]
  clear hc
  trivial
theorem r_same0 {h a h' a' x y x' y' : Sg} (hc : ∀ c, c ∈ h ∨ c ∈ a → c ∈ abc) (hc2 : ∀ c, c ∈ x ∨ c ∈ y → c ∈ abc) (hr : rn sub N (k + 5) "shortest" [.str h, .str a] = .rt (.tup [.str h', .str a']) []) (hr2 : rn sub N (k + 5) "shortest" [.str x, .str y] = .rt (.tup [.str x', .str y']) [])
    (e : eqOk (.tup [.str h', .str a']) (.tup [.str x', .str y']) = true) : rn sub N (k + 6) "same_signs" [.tup [.str h, .str a], .tup [.str x, .str y]] = .rt (.bl (eqD (.tup [.str h', .str a']) (.tup [.str x', .str y']))) [] := by
  have h1 := r_chk (sub := sub) N k hc
  have h2 := r_chk (sub := sub) N k hc2
  have m1 : c_check_content.modes = [.al] := rfl
  have m2 : c_shortest.modes = [.al, .al] := rfl
  have x0 : ixN 2 0 = some 0 := rfl
  have x1 : ixN 2 1 = some 1 := rfl
  have t1 := t_check_content
  have t2 := t_shortest
  rw [rn, run_u t_same_signs, c_same_signs]
  clear hc hc2
  trivial
theorem lay_abc {x : Sg} (hc : ∀ c, c ∈ x → c ∈ abc) (n : Nat) : lay n (.str x) = true := by
  cases n <;>
  · rw [lay, List.all_eq_true]
    intro c hm
    have := hc c hm
    simp [abc] at this
    rcases this with rfl | rfl | rfl <;> rfl
theorem lay_tup {x y : Sg} (hc : ∀ c, c ∈ x ∨ c ∈ y → c ∈ abc) : lay 60 (.tup [.str x, .str y]) = true := by
  show (lay 59 (.str x) && (lay 59 (.str y) && true)) = true
  rw [lay_abc (fun c z => hc c (.inl z)), lay_abc (fun c z => hc c (.inr z))]
  rfl
theorem eqOk_tup {x y z w : Sg} (hc : ∀ c, c ∈ x ∨ c ∈ y → c ∈ abc) (hd : ∀ c, c ∈ z ∨ c ∈ w → c ∈ abc) : eqOk (.tup [.str x, .str y]) (.tup [.str z, .str w]) = true := by
  unfold eqOk
  rw [lay_tup hc, lay_tup hd]
  simp
theorem eqD_tup {x y z w : Sg} : eqD (.tup [.str x, .str y]) (.tup [.str z, .str w]) = decide (x = z ∧ y = w) := by
  simp [eqD, eqL, Bool.beq_eq_decide_eq]
/-- both ask for the same -/
theorem r_both {h a : Sg} (hc : ∀ c, c ∈ h ∨ c ∈ a → c ∈ abc) (hl : h.length ≤ 100) (al : a.length ≤ 100) (hN : 200 ≤ N) : ∃ h' a', Sh h a h' a' ∧ (∀ c, c ∈ h' ∨ c ∈ a' → c ∈ abc) ∧ rn sub N (k + 5) "shortest" [.str h, .str a] = .rt (.tup [.str h', .str a']) [] ∧ rn sub N (k + 6) "least_content" [.tup [.str h, .str a]] = .rt (.tup [.str h', .str a']) [] := by
  obtain ⟨h', a', S, hm, hr⟩ := r_shortest (sub := sub) N (k + 3) hl al hN
  exact ⟨h', a', S, fun c z => hc c (hm c z), hr, r_least N k hc hr⟩
theorem r_same {h a x y : Sg} (hc : ∀ c, c ∈ h ∨ c ∈ a → c ∈ abc) (hc2 : ∀ c, c ∈ x ∨ c ∈ y → c ∈ abc) (hl : h.length ≤ 100) (al : a.length ≤ 100) (xl : x.length ≤ 100) (yl : y.length ≤ 100) (hN : 200 ≤ N) :
    ∃ b, rn sub N (k + 6) "same_signs" [.tup [.str h, .str a], .tup [.str x, .str y]] = .rt (.bl b) [] ∧ (b = true ↔ sqf h a = sqf x y) := by
  obtain ⟨h', a', S, hm, hr, _⟩ := r_both (sub := sub) N k hc hl al hN
  obtain ⟨x', y', S2, hm2, hr2, _⟩ := r_both (sub := sub) N k hc2 xl yl hN
  refine ⟨_, r_same0 N k hc hc2 hr hr2 (eqOk_tup hm hm2), ?_⟩
  rw [eqD_tup, decide_eq_true_eq]
  exact sh_eq S S2
/-! ### written otherwise -/
theorem cut_1 {c : Nat} {b : Sg} : cut (c :: b) (some 1) none = b := by
  have := cut_drop (a := c :: b) (i := 1)
  simpa using this
theorem wr_body {p : D} {h b : Sg} {c : Nat} {i : Int} (l1 : h.length + 1 ≤ 16777216) (l2 : b.length + 1 ≤ 16777216) : frB (FFn tab sub N k) sub N [true, true, false, false, true] (.nm 4) true B__law_written_0 (.int i) [.mw p, .un, .fz (.str h), .fz (.str (c :: b)), .un] =
    .nx [.mw p, .un, .fz (.str (h ++ [c])), .fz (.str (b ++ [c])), .un] := by
  have c1 := cut_1 (c := c) (b := b)
  have x0 : ixN (b.length + 1) 0 = some 0 := ixN_0
  rw [B__law_written_0]
  trivial
theorem rep_sq {h a : Sg} {n : Nat} (hn : 0 < n) : sqf h (List.replicate n a).flatten = sqf h a := by
  by_cases ha : a = []
  · subst ha
    simp
  · have lp := len_pos ha
    have hne : (List.replicate n a).flatten ≠ [] := fun z => by
      have := congrArg List.length z
      rw [rep_len, List.length_nil] at this
      have := Nat.mul_pos hn lp
      omega
    funext i
    by_cases hi : i < h.length
    · rw [sqf_lt hi, sqf_lt hi]
    · rw [sqf_ge (by omega) hne, sqf_ge (by omega) ha, rep_len, rep_get _ _ (Nat.mod_lt _ (Nat.mul_pos hn lp))]
      congr 1
      exact Nat.mod_mod_of_dvd _ ⟨n, Nat.mul_comm _ _⟩
theorem wr_walk {p p1 p2 : D} {h a a1 h2 a2 : Sg} {n : Int} (ha : ¬ a = []) (d1 : rn sub N (k + 1) "_law_draw" [p, .int 3] = .rt (.int n) [p1]) (ms : bop .Mult (.str a) (.int (1 + n)) = some (.str a1)) (hS : evS (FFn tab sub N (k + 1)) sub N S__law_written_0 [.mw p1, .fz (.tup [.str h, .str a]), .fz (.str h), .fz (.str a1), .un] = .nx [.mw p2, .un, .fz (.str h2), .fz (.str a2), .un]) :
    rn sub N (k + 2) "_law_written" [p, .tup [.str h, .str a]] = .rt (.tup [.str h2, .str a2]) [p2] := by
  have m1 : c__law_draw.modes = [.mu, .al] := rfl
  have t1 := t__law_draw
  rw [rn, run_u t__law_written, c__law_written]
  generalize S__law_written_0 = S0 at *
  trivial
theorem wr_rng {p1 p2 : D} {x y z : Rw.Slot} {m : Int} (d2 : rn sub N (k + 1) "_law_draw" [p1, .int 5] = .rt (.int m) [p2]) (h0 : 0 ≤ m) (h1 : m < 5) : evI (FFn tab sub N (k + 1)) (.rng (.call "_law_draw" [(.var 0), (.lit (.int (5)))])) [.mw p1, x, y, z, .un] = .ok (rangeD 0 m, true, none) [.mw p2, x, y, z, .un] := by
  have m1 : c__law_draw.modes = [.mu, .al] := rfl
  have t1 := t__law_draw
  refine i_rng ?_ (rOk_small (by omega) (by omega))
  trivial
theorem r_written {p : D} {h a : Sg} (hp : PotOk p) (hc : ∀ c, c ∈ h ∨ c ∈ a → c ∈ abc) (hl : h.length ≤ 30) (al : a.length ≤ 30) : ∃ h2 a2 p', rn sub N (k + 2) "_law_written" [p, .tup [.str h, .str a]] = .rt (.tup [.str h2, .str a2]) [p'] ∧ PotOk p' ∧ sqf h2 a2 = sqf h a ∧ (∀ c, c ∈ h2 ∨ c ∈ a2 → c ∈ abc) ∧ h2.length ≤ 100 ∧ a2.length ≤ 100 := by
  by_cases ha : a = []
  · subst ha
    refine ⟨h, [], p, ?_, hp, rfl, hc, by omega, by simp⟩
    rw [rn, run_u t__law_written, c__law_written]
    clear hc
    trivial
  · obtain ⟨n, p1, d1, n0, n1, hp1⟩ := r_draw (sub := sub) N k t__law_draw hp (m := 3) (by omega) (by omega)
    obtain ⟨m, p2, d2, m0, m1, hp2⟩ := r_draw (sub := sub) N k t__law_draw hp1 (m := 5) (by omega) (by omega)
    obtain ⟨j, rfl⟩ := Int.eq_ofNat_of_zero_le n0
    have lp := len_pos ha
    have jn : (1 + (j : Int)).toNat = j + 1 := by omega
    have rl : (List.replicate (j + 1) a).flatten.length = (j + 1) * a.length := rep_len
    have rl2 : (j + 1) * a.length ≤ 3 * a.length := Nat.mul_le_mul_right _ (by omega)
    have rl3 : 1 * a.length ≤ (j + 1) * a.length := Nat.mul_le_mul_right _ (by omega)
    have ms : bop .Mult (.str a) (.int (1 + (j : Int))) = some (.str (List.replicate (j + 1) a).flatten) := by
      rw [bp_ms ⟨by rw [jn, line_s, Nat.mul_comm]; omega, by omega, by omega⟩, jn]
    obtain ⟨⟨h2, a2⟩, f1, f2, f3, f4, f5⟩ := forL_rng (f := frB (FFn tab sub N (k + 1)) sub N [true, true, false, false, true] (.nm 4) true B__law_written_0) (hi := m) (fun s : Sg × Sg => [.mw p2, .un, .fz (.str s.1), .fz (.str s.2), .un])
      (fun i s => sqf s.1 s.2 = sqf h a ∧ (∀ c, c ∈ s.1 ∨ c ∈ s.2 → c ∈ abc) ∧ s.1.length ≤ 30 + i.toNat ∧ s.2.length = (j + 1) * a.length) _ 0 (h, (List.replicate (j + 1) a).flatten) rfl (by omega)
      ⟨rep_sq (by omega), fun c hm => hm.elim (fun z => hc c (.inl z)) fun z => by
        obtain ⟨l, hl1, hl2⟩ := List.mem_flatten.mp z
        rw [List.eq_of_mem_replicate hl1] at hl2
        exact hc c (.inr hl2), by simp only; omega, rl⟩
      (fun i s i1 i2 ⟨g1, g2, g3, g4⟩ => by
        obtain ⟨x, y⟩ := s
        cases y with
        | nil => simp at g4; omega
        | cons c b =>
          simp only [List.length_cons] at g1 g2 g3 g4
          refine ⟨(x ++ [c], b ++ [c]), wr_body N (k + 1) (by omega) (by omega), ?_, fun d hd => g2 d ?_, ?_, ?_⟩
          · rw [← g1]; exact sqf_rot
          · simp only [List.mem_append, List.mem_singleton] at hd
            simp only [List.mem_cons]
            rcases hd with (z | z) | (z | z)
            · exact .inl z
            · exact .inr (.inl z)
            · exact .inr (.inr z)
            · exact .inr (.inl z)
          · simp only [List.length_append, List.length_singleton]; omega
          · simp only [List.length_append, List.length_singleton]; omega)
    refine ⟨h2, a2, p2, wr_walk N k ha d1 ms ?_, hp2, f2, f3, ?_, ?_⟩
    · rw [S__law_written_0]
      exact (fr_run (wr_rng N k d2 m0 m1) f1).trans uo_id
    · simp only at f4; omega
    · simp only at f5; omega
end
end Kk02

set_option Elab.async false
set_option linter.all false
set_option maxRecDepth 100000
namespace Kk02
open PySem Rw
local macro_rules
  | `(tactic| trivial) => `(tactic| simp [callD, freeze, freezeL, freezeP, isFrP, calm_ok, z_pt, al_pt0, lock, unlock, backE, wipeE, killE, Slot.kl, Out.mp, pureE, pureEs, pureO, pureI, mv_popi, mv_append, mv_pop, ty_pop, ty_append, ty_join, mut_pop, mut_join, mut_append, isStrD, initE, musOf, evSs, evEs, evO, evI, evC, tst, getP, getAt, setP, setAt,
    isFr, isFrL, aliases, alPass, argV, callR, muPl, bwRoots, okPts, shrs, as_nm, as_tp, as_0, as_1, cons_, ff_run, ff_modes, bi_len, bi_int, bi_abs, bi_sum,
    fr_ap, lc_ap, wc_ap, wb_ap, e_asg, e_sub, e_ret, e_retN, e_ifs, e_whl, e_fr, e_ex, e_rse, e_try, e_brk, e_cont, e_pass, e_lc,
    x_var, x_mv, x_lit, x_dct0, x_bop, x_neg, x_cmp, x_cmp2, x_band, x_bor, x_bnot, x_ife, x_tup, x_lst, x_sub, x_slc, x_call, x_bi, x_isi, x_mth,
    b_ok, b_exc, o_ok, o_exc, th_nx, th_rt, th_bk, th_ct, th_exc, c_fz, c_ow, c_pt, al_fz, al_ow, v_fz, v_ow, z_fz, z_ow,
    k_fz, k_ow, k_pt0, k_pt, ko_fz, ko_ow, ko_pt0, ko_pt, n_fz, n_ow, n_pt0, n_pt, p_un, p_fz, p_ow, p_bw, p_mw, sc_fz, sc_ow, sc_bw, sc_mw,
    s_fz, s_ow, s_pt, pd_non, pd_bl, pd_int, pd_str, pd_lst, pd_tup, so_t, so_non, so_bl, so_int, so_str, so_lst, so_tup, tr_bl, tr_non, tr_int,
    f_nx, f_rt, f_exc, ad_pt, ad_fz, ad_ow, cm_eq, cm_ne, cm_lt, cm_le, cm_gt, cm_ge, cm_in, cm_ni, cm_isb, cm_isnb, cm_isn, cm_isnn, is_in, eo_ss, eo_ii, eo_bb, ed_ss, ed_ii, ed_bb,
    bp_ai, bp_si, bp_mi, bp_fi, bp_ri, bp_pi, bp_as, bp_ms, bp_al, bp_at, ln_str, ln_tup, ln_lst, iv_lst, iv_tup, iv_str, is_lst,
    sl_str, sl_lst, sl_tup, sl_scr, it_str, it_lst, it_tup, ipt_fz, ipt_ow, ipt_pt, lk_n, ul_n, st_str, st_lst, st_tup,
    u1_lst, u1_tup, u1_str, fl_int, fl_bl, fl_str, uo_nx, uo_rt, uo_exc, oo_s, ixN_0, line_s, line_t, *])
def LS (i : Nat) : Rw.St := c__law_long_right.body.getD i .pass
theorem ls_body : c__law_long_right.body = [LS 0, LS 1, LS 2, LS 3, LS 4, LS 5, LS 6, LS 7] := rfl
section
variable {sub : Str → Str → Option Bool} (N k : Nat)
theorem lo0 {p p1 p2 : D} {x : Sg} {n : Int} (w : rn sub N k "_law_string" [p, .int 2, .int 9] = .rt (.str x) [p1]) (d : rn sub N k "_law_draw" [p1, .int 5] = .rt (.int n) [p2]) (l : x.length + 1 ≤ 16777216) :
    evS (FFn tab sub N k) sub N (LS 0) [.mw p, .un, .un, .un, .un, .un, .un] = .nx [.mw p2, .fz (.str (x ++ [98])), .fz (.int (1 + n)), .un, .un, .un, .un] := by
  have m1 : c__law_draw.modes = [.mu, .al] := rfl
  have m2 : c__law_string.modes = [.mu, .al, .al] := rfl
  have t1 := t__law_draw
  have t2 := t__law_string
  simp only [LS, c__law_long_right, List.getD_cons_succ, List.getD_cons_zero]
  trivial
theorem lo1 {p p1 : D} {X A : Sg} {g : D} {n : Int} (d : rn sub N k "_law_draw" [p, .int 30] = .rt (.int n) [p1]) (m : bop .Mult (.str [97]) (.int n) = some (.str A)) (l : A.length + 1 ≤ 16777216) :
    evS (FFn tab sub N k) sub N (LS 1) [.mw p, .fz (.str X), .fz g, .un, .un, .un, .un] = .nx [.mw p1, .fz (.str X), .fz g, .fz (.tup [.str (A ++ [99]), .str X]), .un, .un, .un] := by
  have m1 : c__law_draw.modes = [.mu, .al] := rfl
  have t1 := t__law_draw
  simp only [LS, c__law_long_right, List.getD_cons_succ, List.getD_cons_zero]
  trivial
theorem lo2 {p p1 : D} {X Y I1 : Sg} {g : D} {n : Int} (lX : X.length ≤ 16777216) (d : rn sub N k "_law_draw" [p, .int X.length] = .rt (.int n) [p1]) (m : cut X none (some n) = I1) (l : Y.length + I1.length ≤ 16777216) :
    evS (FFn tab sub N k) sub N (LS 2) [.mw p, .fz (.str X), .fz g, .fz (.tup [.str Y, .str X]), .un, .un, .un] = .nx [.mw p1, .fz (.str X), .fz g, .fz (.tup [.str Y, .str X]), .fz (.tup [.str (Y ++ I1), .str []]), .un, .un] := by
  have m1 : c__law_draw.modes = [.mu, .al] := rfl
  have t1 := t__law_draw
  have x0 : ixN 2 0 = some 0 := rfl
  simp only [LS, c__law_long_right, List.getD_cons_succ, List.getD_cons_zero]
  trivial
theorem lo3 {p : D} {X Y Z : Sg} {g x4 : D} (lY : Y.length ≤ 16777216) (lZ : Z.length ≤ 16777216) :
    evS (FFn tab sub N k) sub N (LS 3) [.mw p, .fz (.str X), .fz g, .fz (.tup [.str Y, .str X]), .fz (.tup [.str Z, x4]), .un, .un] = .nx [.mw p, .fz (.str X), .fz g, .fz (.tup [.str Y, .str X]), .fz (.tup [.str Z, x4]), .fz (.int (Z.length - Y.length)), .un] := by
  have x0 : ixN 2 0 = some 0 := rfl
  simp only [LS, c__law_long_right, List.getD_cons_succ, List.getD_cons_zero]
  trivial
theorem lo4 {p d3 : D} {X Z I1 I2 R : Sg} {g : Int} {x4 : D} {at_ : Int} (fr : isFr d3 = true) (lX : X.length ≤ 16777216) (c1 : cut X (some at_) none = I2) (c2 : cut X none (some at_) = I1) (l : I2.length + I1.length ≤ 16777216) (m : bop .Mult (.str (I2 ++ I1)) (.int g) = some (.str R)) :
    evS (FFn tab sub N k) sub N (LS 4) [.mw p, .fz (.str X), .fz (.int g), .fz d3, .fz (.tup [.str Z, x4]), .fz (.int at_), .un] = .nx [.mw p, .fz (.str X), .fz (.int g), .fz d3, .fz (.tup [.str Z, .str R]), .fz (.int at_), .un] := by
  have x0 : ixN 2 0 = some 0 := rfl
  simp only [LS, c__law_long_right, List.getD_cons_succ, List.getD_cons_zero]
  trivial
theorem lo5a {p d4 d5 g : D} {X Y h' a' : Sg} (lY : (Y.length : Int) < 12) (lY2 : Y.length ≤ 16777216) (w : rn sub N k "_law_least" [.tup [.str Y, .str X], .int 3] = .rt (.tup [.str h', .str a']) []) :
    evS (FFn tab sub N k) sub N (LS 5) [.mw p, .fz (.str X), .fz g, .fz (.tup [.str Y, .str X]), .fz d4, .fz d5, .un] = .nx [.mw p, .fz (.str X), .fz g, .fz (.tup [.str Y, .str X]), .fz d4, .fz d5, .fz (.tup [.str h', .str a'])] := by
  have x0 : ixN 2 0 = some 0 := rfl
  have m1 : c__law_least.modes = [.al, .al] := rfl
  have t1 := t__law_least
  simp only [LS, c__law_long_right, List.getD_cons_succ, List.getD_cons_zero]
  trivial
theorem cut_one {a b : D} : cut [a, b] none (some 1) = [a] := rfl
theorem lo5b {p d4 d5 g : D} {X Y h' a' : Sg} (lY : ¬ (Y.length : Int) < 12) (lY2 : Y.length ≤ 16777216) (w : rn sub N k "_law_least" [.tup [.str [], .str X], .int 3] = .rt (.tup [.str h', .str a']) []) :
    evS (FFn tab sub N k) sub N (LS 5) [.mw p, .fz (.str X), .fz g, .fz (.tup [.str Y, .str X]), .fz d4, .fz d5, .un] = .nx [.mw p, .fz (.str X), .fz g, .fz (.tup [.str Y, .str X]), .fz d4, .fz d5, .fz (.tup [.str Y, .str a'])] := by
  have x0 : ixN 2 0 = some 0 := rfl
  have x1 : ixN 2 1 = some 1 := rfl
  have c1 := cut_one (a := .str Y) (b := .str X)
  have m1 : c__law_least.modes = [.al, .al] := rfl
  have t1 := t__law_least
  simp only [LS, c__law_long_right, List.getD_cons_succ, List.getD_cons_zero]
  trivial
theorem lo6 {p d5 g X d3 : D} {Z R h' a' : Sg} (ok : eqOk (.tup [.str h', .str a']) (.tup [.str h', .str a']) = true) (eq : eqD (.tup [.str h', .str a']) (.tup [.str h', .str a']) = true) (w : rn sub N k "least_content" [.tup [.str Z, .str R]] = .rt (.tup [.str h', .str a']) []) (w2 : rn sub N k "same_signs" [.tup [.str Z, .str R], .tup [.str h', .str a']] = .rt (.bl true) []) :
    evS (FFn tab sub N k) sub N (LS 6) [.mw p, .fz X, .fz g, .fz d3, .fz (.tup [.str Z, .str R]), .fz d5, .fz (.tup [.str h', .str a'])] = .nx [.mw p, .fz X, .fz g, .fz d3, .fz (.tup [.str Z, .str R]), .fz d5, .fz (.tup [.str h', .str a'])] := by
  have m1 : c_least_content.modes = [.al] := rfl
  have t1 := t_least_content
  have m2 : c_same_signs.modes = [.al, .al] := rfl
  have t2 := t_same_signs
  simp only [LS, c__law_long_right, List.getD_cons_succ, List.getD_cons_zero]
  trivial
theorem lo7 {p d5 g X d3 d6 : D} {Z R : Sg} (l : Z.length + 1 ≤ 16777216) (w : rn sub N k "same_signs" [.tup [.str Z, .str R], .tup [.str (Z ++ [99]), .str R]] = .rt (.bl false) []) (w2 : rn sub N k "same_signs" [.tup [.str Z, .str R], .tup [.str Z, .str []]] = .rt (.bl false) []) :
    evS (FFn tab sub N k) sub N (LS 7) [.mw p, .fz X, .fz g, .fz d3, .fz (.tup [.str Z, .str R]), .fz d5, .fz d6] = .rt (.bl true) [.mw p, .fz X, .fz g, .fz d3, .fz (.tup [.str Z, .str R]), .fz d5, .fz d6] := by
  have x0 : ixN 2 0 = some 0 := rfl
  have x1 : ixN 2 1 = some 1 := rfl
  have m2 : c_same_signs.modes = [.al, .al] := rfl
  have t2 := t_same_signs
  simp only [LS, c__law_long_right, List.getD_cons_succ, List.getD_cons_zero]
  trivial
/-- the long content's signs -/
theorem long_sq {Y X : Sg} {j n : Nat} (hX : X ≠ []) (hj : j < X.length) (hn : 0 < n) : sqf (Y ++ X.take j) (List.replicate n (X.drop j ++ X.take j)).flatten = sqf Y X := by
  rw [rep_sq hn]
  have : ∀ (u v Y : Sg), sqf (Y ++ u) (v ++ u) = sqf Y (u ++ v) := by
    intro u
    induction u with
    | nil => intro v Y; simp
    | cons c u ih =>
      intro v Y
      have e1 : Y ++ c :: u = (Y ++ [c]) ++ u := by simp
      have e2 : v ++ c :: u = (v ++ [c]) ++ u := by simp
      rw [e1, e2, ih (v ++ [c]) (Y ++ [c]), ← List.append_assoc, sqf_rot]
      rfl
  rw [this (X.take j) (X.drop j) Y, List.take_append_drop]
/-- a head that ends in a letter that does not come round can't be shortened -/
theorem sh_keep {Y X x' y' : Sg} {c : Nat} (hc : c ∉ X) (hX : X ≠ []) (S : Sh [] X x' y') : Sh (Y ++ [c]) X (Y ++ [c]) y' := by
  have hx : x' = [] := List.eq_nil_of_length_eq_zero (by have := S.lh; simpa using this)
  subst hx
  have cy := S.cn hX
  have sq := S.sq
  have e : sqf (Y ++ [c]) y' = sqf (Y ++ [c]) X := sqf_head sq
  refine ⟨e, fun z => (hX z).elim, fun _ => canon_of cy.1 (fun n q g => (cy.2 n q (per_shift g)).1) fun k d hk b hb => ?_, Nat.le_refl _, S.la⟩
  obtain ⟨_, h2⟩ := List.append_inj' hk rfl
  have : c = d := by simpa using h2
  subst this
  have e2 := congrFun sq b.length
  rw [hb, sqf_ge (by simp) (by simp), sqf_ge (by simp) hX] at e2
  simp [Nat.mod_eq_of_lt (show b.length < b.length + 1 by omega)] at e2
  exact hc (List.mem_of_getElem? e2.symm)
end
end Kk02

set_option Elab.async false
set_option linter.all false
set_option maxRecDepth 100000
namespace Kk02
open PySem Rw
local macro_rules
  | `(tactic| trivial) => `(tactic| simp [callD, freeze, freezeL, freezeP, isFrP, calm_ok, z_pt, al_pt0, lock, unlock, backE, wipeE, killE, Slot.kl, Out.mp, pureE, pureEs, pureO, pureI, mv_popi, mv_append, mv_pop, ty_pop, ty_append, ty_join, mut_pop, mut_join, mut_append, isStrD, initE, musOf, evSs, evEs, evO, evI, evC, tst, getP, getAt, setP, setAt,
    isFr, isFrL, aliases, alPass, argV, callR, muPl, bwRoots, okPts, shrs, as_nm, as_tp, as_0, as_1, cons_, ff_run, ff_modes, bi_len, bi_int, bi_abs, bi_sum,
    fr_ap, lc_ap, wc_ap, wb_ap, e_asg, e_sub, e_ret, e_retN, e_ifs, e_whl, e_fr, e_ex, e_rse, e_try, e_brk, e_cont, e_pass, e_lc,
    x_var, x_mv, x_lit, x_dct0, x_bop, x_neg, x_cmp, x_cmp2, x_band, x_bor, x_bnot, x_ife, x_tup, x_lst, x_sub, x_slc, x_call, x_bi, x_isi, x_mth,
    b_ok, b_exc, o_ok, o_exc, th_nx, th_rt, th_bk, th_ct, th_exc, c_fz, c_ow, c_pt, al_fz, al_ow, v_fz, v_ow, z_fz, z_ow,
    k_fz, k_ow, k_pt0, k_pt, ko_fz, ko_ow, ko_pt0, ko_pt, n_fz, n_ow, n_pt0, n_pt, p_un, p_fz, p_ow, p_bw, p_mw, sc_fz, sc_ow, sc_bw, sc_mw,
    s_fz, s_ow, s_pt, pd_non, pd_bl, pd_int, pd_str, pd_lst, pd_tup, so_t, so_non, so_bl, so_int, so_str, so_lst, so_tup, tr_bl, tr_non, tr_int,
    f_nx, f_rt, f_exc, ad_pt, ad_fz, ad_ow, cm_eq, cm_ne, cm_lt, cm_le, cm_gt, cm_ge, cm_in, cm_ni, cm_isb, cm_isnb, cm_isn, cm_isnn, is_in, eo_ss, eo_ii, eo_bb, ed_ss, ed_ii, ed_bb,
    bp_ai, bp_si, bp_mi, bp_fi, bp_ri, bp_pi, bp_as, bp_ms, bp_al, bp_at, ln_str, ln_tup, ln_lst, iv_lst, iv_tup, iv_str, is_lst,
    sl_str, sl_lst, sl_tup, sl_scr, it_str, it_lst, it_tup, ipt_fz, ipt_ow, ipt_pt, lk_n, ul_n, st_str, st_lst, st_tup,
    u1_lst, u1_tup, u1_str, fl_int, fl_bl, fl_str, uo_nx, uo_rt, uo_exc, oo_s, ixN_0, line_s, line_t, *])
section
variable {sub : Str → Str → Option Bool} (N k : Nat)
theorem ab_abc {c : Nat} {l : Nat} (h : c ∈ abc.take l) : c ∈ abc := List.mem_of_mem_take h
theorem mp_of {p : D} (hp : PotOk p) : PotOk p := hp
theorem r_long {p : D} (hp : PotOk p) (hN : 200 ≤ N) : ∃ p', rn sub N (k + 7) "_law_long_right" [p] = .rt (.bl true) [p'] ∧ PotOk p' := by
  obtain ⟨x, p1, w1, hp1, xl, xc⟩ := r_string (sub := sub) N (k + 4) t__law_draw t__law_string (l := 2) (m := 9) hp (by omega) (by omega) (by omega) (by omega)
  obtain ⟨n2, p2, d2, a2, b2, hp2⟩ := r_draw (sub := sub) N (k + 5) t__law_draw hp1 (m := 5) (by omega) (by omega)
  obtain ⟨n3, p3, d3, a3, b3, hp3⟩ := r_draw (sub := sub) N (k + 5) t__law_draw hp2 (m := 30) (by omega) (by omega)
  have Xl : (x ++ [98]).length = x.length + 1 := by simp
  obtain ⟨n4, p4, d4, a4, b4, hp4⟩ := r_draw (sub := sub) N (k + 5) t__law_draw hp3 (m := ((x ++ [98]).length : Int)) (by omega) (by omega)
  have Xc : ∀ c, c ∈ x ++ [98] → c = 97 ∨ c = 98 := fun c hc => by
    rcases List.mem_append.mp hc with z | z
    · have := xc c z
      simp [abc] at this
      exact this
    · simp at z; exact .inr z
  have Xne : x ++ [98] ≠ [] := by simp
  have s0 := lo0 (sub := sub) N (k + 6) w1 d2 (by omega)
  generalize x ++ [98] = X at *
  obtain ⟨q3, rfl⟩ := Int.eq_ofNat_of_zero_le a3
  obtain ⟨q2, rfl⟩ := Int.eq_ofNat_of_zero_le a2
  obtain ⟨j, rfl⟩ := Int.eq_ofNat_of_zero_le a4
  have m3 : bop .Mult (.str [97]) (.int (q3 : Int)) = some (.str (List.replicate q3 97)) := by
    rw [bp_ms ⟨by rw [line_s]; simp; omega, by omega, by omega⟩]
    simp
  have s1 := lo1 (sub := sub) N (k + 6) (X := X) (g := .int (1 + (q2 : Int))) d3 m3 (by simp; omega)
  have Yl : (List.replicate q3 97 ++ [99]).length = q3 + 1 := by simp
  have Yc : ∀ c, c ∈ List.replicate q3 97 ++ [99] → c = 97 ∨ c = 99 := fun c hc => by
    rcases List.mem_append.mp hc with z | z
    · exact .inl (List.eq_of_mem_replicate z)
    · simp at z; exact .inr z
  have keep : ∀ {x' y' : Sg}, Sh [] X x' y' → Sh (List.replicate q3 97 ++ [99]) X (List.replicate q3 97 ++ [99]) y' := fun S => sh_keep (c := 99) (fun z => by rcases Xc 99 z with h | h <;> omega) Xne S
  generalize List.replicate q3 97 ++ [99] = Y at *
  have hj : j < X.length := by omega
  have tl : (X.take j).length = j := by rw [List.length_take]; omega
  have dl : (X.drop j).length = X.length - j := List.length_drop
  have s2 := lo2 (sub := sub) N (k + 6) (X := X) (Y := Y) (g := .int (1 + (q2 : Int))) (by omega) d4 cut_take (by omega)
  have s3 := lo3 (sub := sub) N (k + 6) (p := p4) (X := X) (Y := Y) (Z := Y ++ X.take j) (g := .int (1 + (q2 : Int))) (x4 := .str []) (by omega) (by rw [List.length_append]; omega)
  have eat : ((Y ++ X.take j).length : Int) - Y.length = (j : Int) := by rw [List.length_append]; omega
  rw [eat] at s3
  have eg : (1 + (q2 : Int)).toNat = q2 + 1 := by omega
  have Rl : (List.replicate (q2 + 1) (X.drop j ++ X.take j)).flatten.length = (q2 + 1) * X.length := by
    rw [rep_len, List.length_append]
    congr 1
    omega
  have Rl2 : (q2 + 1) * X.length ≤ 5 * X.length := Nat.mul_le_mul_right _ (by omega)
  have Rl3 : 1 * X.length ≤ (q2 + 1) * X.length := Nat.mul_le_mul_right _ (by omega)
  have m4 : bop .Mult (.str (X.drop j ++ X.take j)) (.int (1 + (q2 : Int))) = some (.str (List.replicate (q2 + 1) (X.drop j ++ X.take j)).flatten) := by
    rw [bp_ms ⟨by rw [eg, line_s, List.length_append, tl, dl, Nat.mul_comm, show X.length - j + j = X.length by omega]; omega, by omega, by omega⟩, eg]
  have s4 := lo4 (sub := sub) N (k + 6) (p := p4) (d3 := .tup [.str Y, .str X]) (X := X) (Z := Y ++ X.take j) (g := 1 + (q2 : Int)) (x4 := .str []) (at_ := (j : Int)) rfl (by omega) cut_drop cut_take (by omega) m4
  have sq := long_sq (Y := Y) (n := q2 + 1) Xne hj (by omega)
  have Zc : ∀ c, c ∈ Y ++ X.take j ∨ c ∈ (List.replicate (q2 + 1) (X.drop j ++ X.take j)).flatten → c ∈ abc := fun c hc => by
    have key : c = 97 ∨ c = 98 ∨ c = 99 := by
      rcases hc with z | z
      · rcases List.mem_append.mp z with z | z
        · rcases Yc c z with h | h <;> simp [h]
        · rcases Xc c (List.mem_of_mem_take z) with h | h <;> simp [h]
      · obtain ⟨l, l1, l2⟩ := List.mem_flatten.mp z
        rw [List.eq_of_mem_replicate l1] at l2
        rcases List.mem_append.mp l2 with z | z
        · rcases Xc c (List.mem_of_mem_drop z) with h | h <;> simp [h]
        · rcases Xc c (List.mem_of_mem_take z) with h | h <;> simp [h]
    rcases key with rfl | rfl | rfl <;> decide
  have Rc : ∀ c, c ∈ (List.replicate (q2 + 1) (X.drop j ++ X.take j)).flatten → c ≠ 99 := fun c z h => by
    obtain ⟨l, l1, l2⟩ := List.mem_flatten.mp z
    rw [List.eq_of_mem_replicate l1] at l2
    have hX : c ∈ X := by
      rcases List.mem_append.mp l2 with z | z
      · exact List.mem_of_mem_drop z
      · exact List.mem_of_mem_take z
    rcases Xc c hX with e | e <;> omega
  have Rne : (List.replicate (q2 + 1) (X.drop j ++ X.take j)).flatten ≠ [] := fun z => by
    have lp := len_pos Xne
    rw [z] at Rl
    simp only [List.length_nil] at Rl
    omega
  have Zl : (Y ++ X.take j).length ≤ 60 := by rw [List.length_append]; omega
  have Rlen : (List.replicate (q2 + 1) (X.drop j ++ X.take j)).flatten.length ≤ 60 := by omega
  generalize Y ++ X.take j = Z at *
  generalize (List.replicate (q2 + 1) (X.drop j ++ X.take j)).flatten = R at *
  obtain ⟨h', a', S, hc', _, hr⟩ := r_both (sub := sub) N k (h := Z) (a := R) Zc (by omega) (by omega) hN
  have abX : ∀ c, c ∈ X → c ∈ abc := fun c hc => by rcases Xc c hc with rfl | rfl <;> decide
  have abY : ∀ c, c ∈ Y → c ∈ abc := fun c hc => by rcases Yc c hc with rfl | rfl <;> decide
  have s5 : evS (FFn tab sub N (k + 6)) sub N (LS 5) [.mw p4, .fz (.str X), .fz (.int (1 + (q2 : Int))), .fz (.tup [.str Y, .str X]), .fz (.tup [.str Z, .str R]), .fz (.int (j : Int)), .un] = .nx [.mw p4, .fz (.str X), .fz (.int (1 + (q2 : Int))), .fz (.tup [.str Y, .str X]), .fz (.tup [.str Z, .str R]), .fz (.int (j : Int)), .fz (.tup [.str h', .str a'])] := by
    by_cases c : (Y.length : Int) < 12
    · obtain ⟨h2, a2, S2, _, w⟩ := r_lleast (sub := sub) N (k + 3) (h := Y) (a := X) (fun c hc => hc.elim (abY c) (abX c)) (by omega) hN (.int 3)
      obtain ⟨e1, e2⟩ := (sh_eq S S2).mpr sq
      rw [e1, e2]
      exact lo5a N (k + 6) c (by omega) w
    · obtain ⟨h2, a2, S2, _, w⟩ := r_lleast (sub := sub) N (k + 3) (h := []) (a := X) (fun c hc => hc.elim (fun z => by cases z) (abX c)) (by simp; omega) hN (.int 3)
      obtain ⟨e1, e2⟩ := (sh_eq S (keep S2)).mpr sq
      rw [e1, e2]
      exact lo5b N (k + 6) c (by omega) w
  have lh' := S.lh
  have la' := S.la
  obtain ⟨b, w6, i6⟩ := r_same (sub := sub) N k (h := Z) (a := R) (x := h') (y := a') Zc hc' (by omega) (by omega) (by omega) (by omega) hN
  have b1 : b = true := i6.mpr S.sq.symm
  subst b1
  have s6 := lo6 (sub := sub) N (k + 6) (p := p4) (d5 := .int (j : Int)) (g := .int (1 + (q2 : Int))) (X := .str X) (d3 := .tup [.str Y, .str X]) (eqOk_tup hc' hc') (by rw [eqD_tup]; simp) hr w6
  obtain ⟨b, w7, i7⟩ := r_same (sub := sub) N k (h := Z) (a := R) (x := Z ++ [99]) (y := R) Zc (fun c hc => by
    rcases hc with z | z
    · rcases List.mem_append.mp z with z | z
      · exact Zc c (.inl z)
      · simp at z; rw [z]; decide
    · exact Zc c (.inr z)) (by omega) (by omega) (by simp; omega) (by omega) hN
  have b7 : b = false := by
    cases b with
    | false => rfl
    | true =>
      exfalso
      have := congrFun (i7.mp rfl) Z.length
      rw [sqf_ge (Nat.le_refl _) Rne, sqf_lt (by simp)] at this
      simp at this
      exact Rc 99 (List.mem_of_getElem? this) rfl
  subst b7
  obtain ⟨b, w8, i8⟩ := r_same (sub := sub) N k (h := Z) (a := R) (x := Z) (y := []) Zc (fun c hc => hc.elim (fun z => Zc c (.inl z)) fun z => by cases z) (by omega) (by omega) (by omega) (by simp) hN
  have b8 : b = false := by
    cases b with
    | false => rfl
    | true => exact (Rne (ended (i8.mp rfl).symm)).elim
  subst b8
  have s7 := lo7 (sub := sub) N (k + 6) (p := p4) (d5 := .int (j : Int)) (g := .int (1 + (q2 : Int))) (X := .str X) (d3 := .tup [.str Y, .str X]) (d6 := .tup [.str h', .str a']) (by omega) w7 w8
  refine ⟨p4, ?_, hp4⟩
  have eb := ls_body
  have em : c__law_long_right.modes = [.mu] := rfl
  have en : c__law_long_right.ns = 7 := rfl
  rw [rn, run_u t__law_long_right]
  unfold callD
  rw [eb, em, en]
  show finish [.mu] (evSs _ _ _ _ [.mw p, .un, .un, .un, .un, .un, .un]) = _
  simp only [evSs, s0, s1, s2, s3, s4, s5, s6, s7, th_nx, th_rt, f_rt, musOf]
  rfl
end
end Kk02

set_option Elab.async false
set_option linter.all false
set_option maxRecDepth 100000
namespace Kk02
open PySem Rw
local macro_rules
  | `(tactic| trivial) => `(tactic| simp [callD, freeze, freezeL, freezeP, isFrP, calm_ok, z_pt, al_pt0, lock, unlock, backE, wipeE, killE, Slot.kl, Out.mp, pureE, pureEs, pureO, pureI, mv_popi, mv_append, mv_pop, ty_pop, ty_append, ty_join, mut_pop, mut_join, mut_append, isStrD, initE, musOf, evSs, evEs, evO, evI, evC, tst, getP, getAt, setP, setAt,
    isFr, isFrL, aliases, alPass, argV, callR, muPl, bwRoots, okPts, shrs, as_nm, as_tp, as_0, as_1, cons_, ff_run, ff_modes, bi_len, bi_int, bi_abs, bi_sum,
    fr_ap, lc_ap, wc_ap, wb_ap, e_asg, e_sub, e_ret, e_retN, e_ifs, e_whl, e_fr, e_ex, e_rse, e_try, e_brk, e_cont, e_pass, e_lc,
    x_var, x_mv, x_lit, x_dct0, x_bop, x_neg, x_cmp, x_cmp2, x_band, x_bor, x_bnot, x_ife, x_tup, x_lst, x_sub, x_slc, x_call, x_bi, x_isi, x_mth,
    b_ok, b_exc, o_ok, o_exc, th_nx, th_rt, th_bk, th_ct, th_exc, c_fz, c_ow, c_pt, al_fz, al_ow, v_fz, v_ow, z_fz, z_ow,
    k_fz, k_ow, k_pt0, k_pt, ko_fz, ko_ow, ko_pt0, ko_pt, n_fz, n_ow, n_pt0, n_pt, p_un, p_fz, p_ow, p_bw, p_mw, sc_fz, sc_ow, sc_bw, sc_mw,
    s_fz, s_ow, s_pt, pd_non, pd_bl, pd_int, pd_str, pd_lst, pd_tup, so_t, so_non, so_bl, so_int, so_str, so_lst, so_tup, tr_bl, tr_non, tr_int,
    f_nx, f_rt, f_exc, ad_pt, ad_fz, ad_ow, cm_eq, cm_ne, cm_lt, cm_le, cm_gt, cm_ge, cm_in, cm_ni, cm_isb, cm_isnb, cm_isn, cm_isnn, is_in, eo_ss, eo_ii, eo_bb, ed_ss, ed_ii, ed_bb,
    bp_ai, bp_si, bp_mi, bp_fi, bp_ri, bp_pi, bp_as, bp_ms, bp_al, bp_at, ln_str, ln_tup, ln_lst, iv_lst, iv_tup, iv_str, is_lst,
    sl_str, sl_lst, sl_tup, sl_scr, it_str, it_lst, it_tup, ipt_fz, ipt_ow, ipt_pt, lk_n, ul_n, st_str, st_lst, st_tup,
    u1_lst, u1_tup, u1_str, fl_int, fl_bl, fl_str, uo_nx, uo_rt, uo_exc, oo_s, ixN_0, line_s, line_t, *])
def BS (i : Nat) : Rw.St := B_law_0.getD i .pass
theorem bs_body : B_law_0 = [BS 0, BS 1, BS 2, BS 3, BS 4, BS 5, BS 6, BS 7, BS 8] := rfl
section
variable {sub : Str → Str → Option Bool} (N k : Nat)
theorem b0 {p p1 t : D} {n : Int} (d : rn sub N k "_law_draw" [p, .int 3] = .rt (.int n) [p1]) :
    evS (FFn tab sub N k) sub N (BS 0) [.un, .ow p, .fz t, .un, .un, .un, .un, .un, .un] = .nx [.un, .ow p1, .fz t, .fz (.int (1 + n)), .un, .un, .un, .un, .un] := by
  have m1 : c__law_draw.modes = [.mu, .al] := rfl
  have t1 := t__law_draw
  simp only [BS, B_law_0, List.getD_cons_succ, List.getD_cons_zero]
  trivial
theorem b1a {p p1 p2 p3 t : D} {l n : Int} {x y : Sg} (w : rn sub N k "_law_string" [p, .int l, .int 5] = .rt (.str x) [p1]) (d : rn sub N k "_law_draw" [p1, .int 4] = .rt (.int n) [p2]) (hn : 0 < n) (w2 : rn sub N k "_law_string" [p2, .int l, .int 4] = .rt (.str y) [p3]) :
    evS (FFn tab sub N k) sub N (BS 1) [.un, .ow p, .fz t, .fz (.int l), .un, .un, .un, .un, .un] = .nx [.un, .ow p3, .fz t, .fz (.int l), .fz (.tup [.str x, .str y]), .un, .un, .un, .un] := by
  have m1 : c__law_draw.modes = [.mu, .al] := rfl
  have t1 := t__law_draw
  have m2 : c__law_string.modes = [.mu, .al, .al] := rfl
  have t2 := t__law_string
  simp only [BS, B_law_0, List.getD_cons_succ, List.getD_cons_zero]
  trivial
theorem b1b {p p1 p2 t : D} {l n : Int} {x : Sg} (w : rn sub N k "_law_string" [p, .int l, .int 5] = .rt (.str x) [p1]) (d : rn sub N k "_law_draw" [p1, .int 4] = .rt (.int n) [p2]) (hn : ¬ 0 < n) :
    evS (FFn tab sub N k) sub N (BS 1) [.un, .ow p, .fz t, .fz (.int l), .un, .un, .un, .un, .un] = .nx [.un, .ow p2, .fz t, .fz (.int l), .fz (.tup [.str x, .str []]), .un, .un, .un, .un] := by
  have m1 : c__law_draw.modes = [.mu, .al] := rfl
  have t1 := t__law_draw
  have m2 : c__law_string.modes = [.mu, .al, .al] := rfl
  have t2 := t__law_string
  simp only [BS, B_law_0, List.getD_cons_succ, List.getD_cons_zero]
  trivial
theorem b2 {p t l : D} {x y x' y' : Sg} (w : rn sub N k "_law_least" [.tup [.str x, .str y], l] = .rt (.tup [.str x', .str y']) []) :
    evS (FFn tab sub N k) sub N (BS 2) [.un, .ow p, .fz t, .fz l, .fz (.tup [.str x, .str y]), .un, .un, .un, .un] = .nx [.un, .ow p, .fz t, .fz l, .fz (.tup [.str x, .str y]), .fz (.tup [.str x', .str y']), .un, .un, .un] := by
  have m1 : c__law_least.modes = [.al, .al] := rfl
  have t1 := t__law_least
  simp only [BS, B_law_0, List.getD_cons_succ, List.getD_cons_zero]
  trivial
theorem b3 {p p1 t l d5 : D} {x y x' y' : Sg} (w : rn sub N k "_law_written" [p, .tup [.str x, .str y]] = .rt (.tup [.str x', .str y']) [p1]) :
    evS (FFn tab sub N k) sub N (BS 3) [.un, .ow p, .fz t, .fz l, .fz (.tup [.str x, .str y]), .fz d5, .un, .un, .un] = .nx [.un, .ow p1, .fz t, .fz l, .fz (.tup [.str x, .str y]), .fz d5, .fz (.tup [.str x', .str y']), .un, .un] := by
  have m1 : c__law_written.modes = [.mu, .al] := rfl
  have t1 := t__law_written
  simp only [BS, B_law_0, List.getD_cons_succ, List.getD_cons_zero]
  trivial
theorem b4 {p t l d4 d5 d6 : D} (ok : eqOk d5 d5 = true) (eq : eqD d5 d5 = true) (fr : isFr d5 = true) (w : rn sub N k "least_content" [d4] = .rt d5 []) (w2 : rn sub N k "least_content" [d6] = .rt d5 []) (w3 : rn sub N k "same_signs" [d4, d6] = .rt (.bl true) []) :
    evS (FFn tab sub N k) sub N (BS 4) [.un, .ow p, .fz t, .fz l, .fz d4, .fz d5, .fz d6, .un, .un] = .nx [.un, .ow p, .fz t, .fz l, .fz d4, .fz d5, .fz d6, .un, .un] := by
  have m1 : c_least_content.modes = [.al] := rfl
  have t1 := t_least_content
  have m2 : c_same_signs.modes = [.al, .al] := rfl
  have t2 := t_same_signs
  have h1 := pd_fr fr
  simp only [BS, B_law_0, List.getD_cons_succ, List.getD_cons_zero]
  trivial
theorem b5a {p p1 p2 p3 t d4 d5 d6 : D} {l n : Int} {x y : Sg} (w : rn sub N k "_law_string" [p, .int l, .int 5] = .rt (.str x) [p1]) (d : rn sub N k "_law_draw" [p1, .int 2] = .rt (.int n) [p2]) (hn : 0 < n) (w2 : rn sub N k "_law_string" [p2, .int l, .int 4] = .rt (.str y) [p3]) :
    evS (FFn tab sub N k) sub N (BS 5) [.un, .ow p, .fz t, .fz (.int l), .fz d4, .fz d5, .fz d6, .un, .un] = .nx [.un, .ow p3, .fz t, .fz (.int l), .fz d4, .fz d5, .fz d6, .fz (.tup [.str x, .str y]), .un] := by
  have m1 : c__law_draw.modes = [.mu, .al] := rfl
  have t1 := t__law_draw
  have m2 : c__law_string.modes = [.mu, .al, .al] := rfl
  have t2 := t__law_string
  simp only [BS, B_law_0, List.getD_cons_succ, List.getD_cons_zero]
  trivial
theorem b5b {p p1 p2 t d4 d5 d6 : D} {l n : Int} {x : Sg} (w : rn sub N k "_law_string" [p, .int l, .int 5] = .rt (.str x) [p1]) (d : rn sub N k "_law_draw" [p1, .int 2] = .rt (.int n) [p2]) (hn : ¬ 0 < n) :
    evS (FFn tab sub N k) sub N (BS 5) [.un, .ow p, .fz t, .fz (.int l), .fz d4, .fz d5, .fz d6, .un, .un] = .nx [.un, .ow p2, .fz t, .fz (.int l), .fz d4, .fz d5, .fz d6, .fz (.tup [.str x, .str []]), .un] := by
  have m1 : c__law_draw.modes = [.mu, .al] := rfl
  have t1 := t__law_draw
  have m2 : c__law_string.modes = [.mu, .al, .al] := rfl
  have t2 := t__law_string
  simp only [BS, B_law_0, List.getD_cons_succ, List.getD_cons_zero]
  trivial
theorem b6 {p t l d4 d5 d6 d7 : D} {b : Bool} (w : rn sub N k "same_signs" [d4, d7] = .rt (.bl b) []) :
    evS (FFn tab sub N k) sub N (BS 6) [.un, .ow p, .fz t, .fz l, .fz d4, .fz d5, .fz d6, .fz d7, .un] = .nx [.un, .ow p, .fz t, .fz l, .fz d4, .fz d5, .fz d6, .fz d7, .fz (.bl b)] := by
  have m2 : c_same_signs.modes = [.al, .al] := rfl
  have t2 := t_same_signs
  simp only [BS, B_law_0, List.getD_cons_succ, List.getD_cons_zero]
  trivial
theorem b7 {p t l d4 d5 d6 d7 : D} {b : Bool} {X Y : List D} (w : rn sub N k "_law_first" [d4, .int 60] = .rt (.lst true X) []) (w2 : rn sub N k "_law_first" [d7, .int 60] = .rt (.lst true Y) []) (ok : eqOk (.lst true X) (.lst true Y) = true) (eq : eqD (.lst true X) (.lst true Y) = b) :
    evS (FFn tab sub N k) sub N (BS 7) [.un, .ow p, .fz t, .fz l, .fz d4, .fz d5, .fz d6, .fz d7, .fz (.bl b)] = .nx [.un, .ow p, .fz t, .fz l, .fz d4, .fz d5, .fz d6, .fz d7, .fz (.bl b)] := by
  have m2 : c__law_first.modes = [.al, .al] := rfl
  have t2 := t__law_first
  have i1 : isInst (.bl b) "bool" = some true := ii_bool rfl
  simp only [BS, B_law_0, List.getD_cons_succ, List.getD_cons_zero]
  trivial
theorem b8 {p t l d4 d5 d6 d7 d8 : D} (ok : eqOk d5 d5 = true) (eq : eqD d5 d5 = true) (fr : isFr d5 = true) (w : rn sub N k "least_content" [d5] = .rt d5 []) :
    evS (FFn tab sub N k) sub N (BS 8) [.un, .ow p, .fz t, .fz l, .fz d4, .fz d5, .fz d6, .fz d7, .fz d8] = .nx [.un, .ow p, .fz t, .fz l, .fz d4, .fz d5, .fz d6, .fz d7, .fz d8] := by
  have m1 : c_least_content.modes = [.al] := rfl
  have t1 := t_least_content
  have h1 := pd_fr fr
  simp only [BS, B_law_0, List.getD_cons_succ, List.getD_cons_zero]
  trivial
def lwE (p : D) : Rw.Env := [.un, .ow p, .un, .un, .un, .un, .un, .un, .un]
theorem turn {p : D} (hp : PotOk p) (hN : 200 ≤ N) (i : Int) : ∃ p', frB (FFn tab sub N (k + 6)) sub N [true, false, true, true, true, true, true, true, true] (.nm 2) true B_law_0 (.int i) (lwE p) = .nx (lwE p') ∧ PotOk p' := by
  obtain ⟨n, p1, d0, a0, c0, hp1⟩ := r_draw (sub := sub) N (k + 5) t__law_draw hp (m := 3) (by omega) (by omega)
  have s0 := b0 (sub := sub) N (k + 6) (t := .int i) d0
  obtain ⟨x, p2, w1, hp2, xl, xc⟩ := r_string (sub := sub) N (k + 4) t__law_draw t__law_string (l := 1 + n) (m := 5) hp1 (by omega) (by omega) (by omega) (by omega)
  obtain ⟨n4, p3, d1, a1, c1, hp3⟩ := r_draw (sub := sub) N (k + 5) t__law_draw hp2 (m := 4) (by omega) (by omega)
  have ⟨y, p4, s1, hp4, yl, yc⟩ : ∃ y p4, evS (FFn tab sub N (k + 6)) sub N (BS 1) [.un, .ow p1, .fz (.int i), .fz (.int (1 + n)), .un, .un, .un, .un, .un] = .nx [.un, .ow p4, .fz (.int i), .fz (.int (1 + n)), .fz (.tup [.str x, .str y]), .un, .un, .un, .un] ∧ PotOk p4 ∧ (y.length : Int) ≤ 4 ∧ ∀ c ∈ y, c ∈ abc := by
    by_cases h : 0 < n4
    · obtain ⟨y, p4, w2, hp4, yl, yc⟩ := r_string (sub := sub) N (k + 4) t__law_draw t__law_string (l := 1 + n) (m := 4) hp3 (by omega) (by omega) (by omega) (by omega)
      exact ⟨y, p4, b1a N (k + 6) w1 d1 h w2, hp4, yl, fun c z => ab_abc (yc c z)⟩
    · exact ⟨[], p3, b1b N (k + 6) w1 d1 h, hp3, by simp, fun c z => by cases z⟩
  have cc : ∀ c, c ∈ x ∨ c ∈ y → c ∈ abc := fun c z => z.elim (fun z => ab_abc (xc c z)) (yc c)
  obtain ⟨x', y', S, lc, w2⟩ := r_lleast (sub := sub) N (k + 3) (h := x) (a := y) cc (by omega) hN (.int (1 + n))
  have s2 := b2 (sub := sub) N (k + 6) (p := p4) (t := .int i) w2
  obtain ⟨u, v, p5, w3, hp5, sqo, oc, ul, vl⟩ := r_written (sub := sub) N (k + 4) hp4 cc (by omega) (by omega)
  have s3 := b3 (sub := sub) N (k + 6) (t := .int i) (l := .int (1 + n)) (d5 := .tup [.str x', .str y']) w3
  have dc : ∀ c, c ∈ x' ∨ c ∈ y' → c ∈ abc := fun c z => cc c (lc c z)
  have ok := eqOk_tup dc dc
  have eq : eqD (.tup [.str x', .str y']) (.tup [.str x', .str y']) = true := by rw [eqD_tup]; simp
  obtain ⟨e1, e2, S4, _, _, l4⟩ := r_both (sub := sub) N k (h := x) (a := y) cc (by omega) (by omega) hN
  obtain ⟨rfl, rfl⟩ := (sh_eq S4 S).mpr rfl
  obtain ⟨f1, f2, S5, _, _, l5⟩ := r_both (sub := sub) N k (h := u) (a := v) oc (by omega) (by omega) hN
  obtain ⟨rfl, rfl⟩ := (sh_eq S5 S).mpr sqo
  obtain ⟨b, w6, i6⟩ := r_same (sub := sub) N k (h := x) (a := y) (x := u) (y := v) cc oc (by omega) (by omega) (by omega) (by omega) hN
  have hb : b = true := i6.mpr sqo.symm
  subst hb
  have s4 := b4 (sub := sub) N (k + 6) (p := p5) (t := .int i) (l := .int (1 + n)) ok eq rfl l4 l5 w6
  obtain ⟨z, p6, w7, hp6, zl, zc⟩ := r_string (sub := sub) N (k + 4) t__law_draw t__law_string (l := 1 + n) (m := 5) hp5 (by omega) (by omega) (by omega) (by omega)
  obtain ⟨n5, p7, d5, a5, c5, hp7⟩ := r_draw (sub := sub) N (k + 5) t__law_draw hp6 (m := 2) (by omega) (by omega)
  have ⟨w, p8, s5, hp8, wl, wc⟩ : ∃ w p8, evS (FFn tab sub N (k + 6)) sub N (BS 5) [.un, .ow p5, .fz (.int i), .fz (.int (1 + n)), .fz (.tup [.str x, .str y]), .fz (.tup [.str f1, .str f2]), .fz (.tup [.str u, .str v]), .un, .un] = .nx [.un, .ow p8, .fz (.int i), .fz (.int (1 + n)), .fz (.tup [.str x, .str y]), .fz (.tup [.str f1, .str f2]), .fz (.tup [.str u, .str v]), .fz (.tup [.str z, .str w]), .un] ∧ PotOk p8 ∧ (w.length : Int) ≤ 4 ∧ ∀ c ∈ w, c ∈ abc := by
    by_cases h : 0 < n5
    · obtain ⟨y, p4, w2, hp4, yl, yc⟩ := r_string (sub := sub) N (k + 4) t__law_draw t__law_string (l := 1 + n) (m := 4) hp7 (by omega) (by omega) (by omega) (by omega)
      exact ⟨y, p4, b5a N (k + 6) w7 d5 h w2, hp4, yl, fun c z => ab_abc (yc c z)⟩
    · exact ⟨[], p7, b5b N (k + 6) w7 d5 h, hp7, by simp, fun c z => by cases z⟩
  have zw : ∀ c, c ∈ z ∨ c ∈ w → c ∈ abc := fun c h => h.elim (fun h => ab_abc (zc c h)) (wc c)
  obtain ⟨b, w9, i9⟩ := r_same (sub := sub) N k (h := x) (a := y) (x := z) (y := w) cc zw (by omega) (by omega) (by omega) (by omega) hN
  have s6 := b6 (sub := sub) N (k + 6) (p := p8) (t := .int i) (l := .int (1 + n)) (d5 := .tup [.str f1, .str f2]) (d6 := .tup [.str u, .str v]) w9
  have g1 := r_lfirst (sub := sub) N (k + 4) (h := x) (a := y) (n := 60) (by omega) (by omega) (by omega)
  have g2 := r_lfirst (sub := sub) N (k + 4) (h := z) (a := w) (n := 60) (by omega) (by omega) (by omega)
  have q1 : eqOk (.lst true (lf x y 60)) (.lst true (lf z w 60)) = true := by
    unfold eqOk
    rw [lf_lay cc, lf_lay zw]
    simp
  have q2 : eqD (.lst true (lf x y 60)) (.lst true (lf z w 60)) = b := by
    rw [lf_eq]
    have := agree_all (h := x) (a := y) (k := z) (b := w) (B := 60) (by omega)
    rw [Bool.eq_iff_iff, i9, ← this]
    exact agB_iff
  have s7 := b7 (sub := sub) N (k + 6) (p := p8) (t := .int i) (l := .int (1 + n)) (d5 := .tup [.str f1, .str f2]) (d6 := .tup [.str u, .str v]) g1 g2 q1 q2
  have lh' := S.lh
  have la' := S.la
  obtain ⟨e1, e2, S8, _, _, l8⟩ := r_both (sub := sub) N k (h := f1) (a := f2) dc (by omega) (by omega) hN
  obtain ⟨rfl, rfl⟩ := (sh_eq S8 S).mpr S.sq
  have s8 := b8 (sub := sub) N (k + 6) (p := p8) (t := .int i) (l := .int (1 + n)) (d4 := .tup [.str x, .str y]) (d6 := .tup [.str u, .str v]) (d7 := .tup [.str z, .str w]) (d8 := .bl b) ok eq rfl l8
  refine ⟨p8, ?_, hp8⟩
  have e0 : asgT (.nm 2) true (.int i) (lwE p) = some [.un, .ow p, .fz (.int i), .un, .un, .un, .un, .un, .un] := by
    rw [as_nm]
    rfl
  rw [fr_ap, e0, bs_body]
  dsimp only
  simp only [evSs, s0, s1, s2, s3, s4, s5, s6, s7, s8, th_nx]
  rfl
theorem law_true (ns : List Int) (hn : ns.length ≤ 63) : ∃ N, run tab (subF fa) N 8 "law" [.scr ns] = .rt (.bl true) [] := by
  refine ⟨1000, ?_⟩
  obtain ⟨p, w0, hp⟩ := r_pot (sub := subF fa) 1000 6 t__law_pot ns hn
  obtain ⟨n, p1, d1, a1, c1, hp1⟩ := r_draw (sub := subF fa) 1000 6 t__law_draw hp (m := 8) (by omega) (by omega)
  obtain ⟨p2, w2, hp2⟩ := r_long (sub := subF fa) 1000 0 hp1 (by omega)
  have loop : ∀ q, PotOk q → ∃ q', evS (FFn tab (subF fa) 1000 7) (subF fa) 1000 S_law_0 [.fz (.scr ns), .ow q, .un, .un, .un, .un, .un, .un, .un] = .nx (lwE q') := fun q hq => by
    obtain ⟨q', f1, _⟩ := forL_st (f := frB (FFn tab (subF fa) 1000 7) (subF fa) 1000 [true, false, true, true, true, true, true, true, true] (.nm 2) true B_law_0) lwE PotOk (rangeD 0 4) q hq (fun x hx s hs => by
      obtain ⟨i, rfl, _, _⟩ := mem_rangeD hx
      exact turn 1000 1 hs (by omega) i)
    refine ⟨q', ?_⟩
    rw [S_law_0]
    exact (fr_run (i_rng (by rw [x_lit]) (rOk_small (by omega) (by omega))) f1).trans uo_id
  have m0 : c__law_pot.modes = [.al] := rfl
  have t0 := t__law_pot
  have m1 : c__law_draw.modes = [.mu, .al] := rfl
  have t1 := t__law_draw
  have m2 : c__law_long_right.modes = [.mu] := rfl
  have t2 := t__law_long_right
  have o1 := pot_opd hp
  have o2 := pot_slot hp
  have body : ∃ q, evSs (FFn tab (subF fa) 1000 7) (subF fa) 1000 c_law.body [.fz (.scr ns), .un, .un, .un, .un, .un, .un, .un, .un] = .rt (.bl true) (lwE q) := by
    unfold c_law lwE at *
    dsimp only
    by_cases c : n = 0
    · subst c
      obtain ⟨q, hq⟩ := loop p2 hp2
      refine ⟨q, ?_⟩
      clear loop hp hp1 hp2 a1 c1
      generalize S_law_0 = S at *
      trivial
    · obtain ⟨q, hq⟩ := loop p1 hp1
      refine ⟨q, ?_⟩
      clear loop hp hp1 hp2 a1 c1
      generalize S_law_0 = S at *
      trivial
  obtain ⟨q, hq⟩ := body
  rw [run_u t_law]
  unfold callD
  show finish [.al] (evSs _ _ _ _ [.fz (.scr ns), .un, .un, .un, .un, .un, .un, .un, .un]) = _
  rw [hq]
  rfl
end
end Kk02

set_option Elab.async false
set_option linter.all false
set_option maxRecDepth 100000
namespace Kk02
open PySem PySem.Spec L2 Rw
def top (i : Nat) : Stmt :=
  PySem.Challenge.pw_rowwalkers_k02_whole_least_contents.main.body.getD i (.Pass ⟨0, 0, 0, 0⟩)
def d_is_pair : He.DefD where
  at_ := ("is_pair", none)
  name := "is_pair"
  qual := "is_pair"
  params := defArgs (top 5)
  body := defBody (top 5)
  scope := defScope (top 5)
def n_is_pair : List Str := ["thing"]
def d_is_string_of : He.DefD where
  at_ := ("is_string_of", none)
  name := "is_string_of"
  qual := "is_string_of"
  params := defArgs (top 6)
  body := defBody (top 6)
  scope := defScope (top 6)
def n_is_string_of : List Str := ["thing", "signs", "sign"]
def d_is_letters : He.DefD where
  at_ := ("is_letters", none)
  name := "is_letters"
  qual := "is_letters"
  params := defArgs (top 7)
  body := defBody (top 7)
  scope := defScope (top 7)
def n_is_letters : List Str := ["thing", "letters"]
def d_is_content_of : He.DefD where
  at_ := ("is_content_of", none)
  name := "is_content_of"
  qual := "is_content_of"
  params := defArgs (top 9)
  body := defBody (top 9)
  scope := defScope (top 9)
def n_is_content_of : List Str := ["thing", "letters"]
def d_is_content : He.DefD where
  at_ := ("is_content", none)
  name := "is_content"
  qual := "is_content"
  params := defArgs (top 10)
  body := defBody (top 10)
  scope := defScope (top 10)
def n_is_content : List Str := ["thing"]
def d_check_content : He.DefD where
  at_ := ("check_content", none)
  name := "check_content"
  qual := "check_content"
  params := defArgs (top 11)
  body := defBody (top 11)
  scope := defScope (top 11)
def n_check_content : List Str := ["thing"]
def d_least_round : He.DefD where
  at_ := ("least_round", none)
  name := "least_round"
  qual := "least_round"
  params := defArgs (top 12)
  body := defBody (top 12)
  scope := defScope (top 12)
def n_least_round : List Str := ["again", "many"]
def d_shortest : He.DefD where
  at_ := ("shortest", none)
  name := "shortest"
  qual := "shortest"
  params := defArgs (top 13)
  body := defBody (top 13)
  scope := defScope (top 13)
def n_shortest : List Str := ["first", "again"]
def d_least_content : He.DefD where
  at_ := ("least_content", none)
  name := "least_content"
  qual := "least_content"
  params := defArgs (top 14)
  body := defBody (top 14)
  scope := defScope (top 14)
def n_least_content : List Str := ["content"]
def d_same_signs : He.DefD where
  at_ := ("same_signs", none)
  name := "same_signs"
  qual := "same_signs"
  params := defArgs (top 15)
  body := defBody (top 15)
  scope := defScope (top 15)
def n_same_signs : List Str := ["content", "second"]
def d__law_pot : He.DefD where
  at_ := ("_law_pot", none)
  name := "_law_pot"
  qual := "_law_pot"
  params := defArgs (top 17)
  body := defBody (top 17)
  scope := defScope (top 17)
def n__law_pot : List Str := ["script", "cells", "item", "greats", "smalls"]
def d__law_draw : He.DefD where
  at_ := ("_law_draw", none)
  name := "_law_draw"
  qual := "_law_draw"
  params := defArgs (top 18)
  body := defBody (top 18)
  scope := defScope (top 18)
def n__law_draw : List Str := ["pot", "many", "turn", "number", "seed"]
def d__law_string : He.DefD where
  at_ := ("_law_string", none)
  name := "_law_string"
  qual := "_law_string"
  params := defArgs (top 19)
  body := defBody (top 19)
  scope := defScope (top 19)
def n__law_string : List Str := ["pot", "letters", "most", "k"]
def d__law_sign : He.DefD where
  at_ := ("_law_sign", none)
  name := "_law_sign"
  qual := "_law_sign"
  params := defArgs (top 20)
  body := defBody (top 20)
  scope := defScope (top 20)
def n__law_sign : List Str := ["content", "place"]
def d__law_first : He.DefD where
  at_ := ("_law_first", none)
  name := "_law_first"
  qual := "_law_first"
  params := defArgs (top 21)
  body := defBody (top 21)
  scope := defScope (top 21)
def n__law_first : List Str := ["content", "many", "place"]
def d__law_least : He.DefD where
  at_ := ("_law_least", none)
  name := "_law_least"
  qual := "_law_least"
  params := defArgs (top 22)
  body := defBody (top 22)
  scope := defScope (top 22)
def n__law_least : List Str := ["content", "letters", "size", "long", "line", "found"]
def d__law_written : He.DefD where
  at_ := ("_law_written", none)
  name := "_law_written"
  qual := "_law_written"
  params := defArgs (top 23)
  body := defBody (top 23)
  scope := defScope (top 23)
def n__law_written : List Str := ["pot", "content", "head", "again", "turn"]
def d__law_long_right : He.DefD where
  at_ := ("_law_long_right", none)
  name := "_law_long_right"
  qual := "_law_long_right"
  params := defArgs (top 24)
  body := defBody (top 24)
  scope := defScope (top 24)
def n__law_long_right : List Str := ["pot", "inner", "again", "due", "other", "at", "least"]
def d_law : He.DefD where
  at_ := ("law", none)
  name := "law"
  qual := "law"
  params := defArgs (top 25)
  body := defBody (top 25)
  scope := defScope (top 25)
def n_law : List Str := ["script", "pot", "turn", "letters", "content", "due", "other", "second", "told"]
def e_is_pair : Ent := ⟨d_is_pair, n_is_pair, c_is_pair⟩
def e_is_string_of : Ent := ⟨d_is_string_of, n_is_string_of, c_is_string_of⟩
def e_is_letters : Ent := ⟨d_is_letters, n_is_letters, c_is_letters⟩
def e_is_content_of : Ent := ⟨d_is_content_of, n_is_content_of, c_is_content_of⟩
def e_is_content : Ent := ⟨d_is_content, n_is_content, c_is_content⟩
def e_check_content : Ent := ⟨d_check_content, n_check_content, c_check_content⟩
def e_least_round : Ent := ⟨d_least_round, n_least_round, c_least_round⟩
def e_shortest : Ent := ⟨d_shortest, n_shortest, c_shortest⟩
def e_least_content : Ent := ⟨d_least_content, n_least_content, c_least_content⟩
def e_same_signs : Ent := ⟨d_same_signs, n_same_signs, c_same_signs⟩
def e__law_pot : Ent := ⟨d__law_pot, n__law_pot, c__law_pot⟩
def e__law_draw : Ent := ⟨d__law_draw, n__law_draw, c__law_draw⟩
def e__law_string : Ent := ⟨d__law_string, n__law_string, c__law_string⟩
def e__law_sign : Ent := ⟨d__law_sign, n__law_sign, c__law_sign⟩
def e__law_first : Ent := ⟨d__law_first, n__law_first, c__law_first⟩
def e__law_least : Ent := ⟨d__law_least, n__law_least, c__law_least⟩
def e__law_written : Ent := ⟨d__law_written, n__law_written, c__law_written⟩
def e__law_long_right : Ent := ⟨d__law_long_right, n__law_long_right, c__law_long_right⟩
def e_law : Ent := ⟨d_law, n_law, c_law⟩
def ents : List (Str × Ent) := [
  ("is_pair", e_is_pair),
  ("is_string_of", e_is_string_of),
  ("is_letters", e_is_letters),
  ("is_content_of", e_is_content_of),
  ("is_content", e_is_content),
  ("check_content", e_check_content),
  ("least_round", e_least_round),
  ("shortest", e_shortest),
  ("least_content", e_least_content),
  ("same_signs", e_same_signs),
  ("_law_pot", e__law_pot),
  ("_law_draw", e__law_draw),
  ("_law_string", e__law_string),
  ("_law_sign", e__law_sign),
  ("_law_first", e__law_first),
  ("_law_least", e__law_least),
  ("_law_written", e__law_written),
  ("_law_long_right", e__law_long_right),
  ("law", e_law)]
theorem tab_eq : (fun f => (ents.lookup f).map Ent.df) = tab := by
  funext f
  show _ = defs.lookup f
  have : defs = ents.map fun p => (p.1, p.2.df) := rfl
  rw [this, lookup_map]
theorem ok_is_pair : EntOk (ggF fa) tab e_is_pair where
  dfl := rfl
  kwd := rfl
  sc := ⟨rfl, rfl, rfl, by decide +kernel, rfl, by decide +kernel, by decide +kernel⟩
  ml := rfl
  nl := rfl
  bd := by kernel_rfl
  bi := fun _ _ _ _ _ _ us hl => match us, hl with
    | [_], _ => rfl
theorem ok_is_string_of : EntOk (ggF fa) tab e_is_string_of where
  dfl := rfl
  kwd := rfl
  sc := ⟨rfl, rfl, rfl, by decide +kernel, rfl, by decide +kernel, by decide +kernel⟩
  ml := rfl
  nl := rfl
  bd := by kernel_rfl
  bi := fun _ _ _ _ _ _ us hl => match us, hl with
    | [_, _], _ => rfl
theorem ok_is_letters : EntOk (ggF fa) tab e_is_letters where
  dfl := rfl
  kwd := rfl
  sc := ⟨rfl, rfl, rfl, by decide +kernel, rfl, by decide +kernel, by decide +kernel⟩
  ml := rfl
  nl := rfl
  bd := by kernel_rfl
  bi := fun _ _ _ _ _ _ us hl => match us, hl with
    | [_, _], _ => rfl
theorem ok_is_content_of : EntOk (ggF fa) tab e_is_content_of where
  dfl := rfl
  kwd := rfl
  sc := ⟨rfl, rfl, rfl, by decide +kernel, rfl, by decide +kernel, by decide +kernel⟩
  ml := rfl
  nl := rfl
  bd := by kernel_rfl
  bi := fun _ _ _ _ _ _ us hl => match us, hl with
    | [_, _], _ => rfl
theorem ok_is_content : EntOk (ggF fa) tab e_is_content where
  dfl := rfl
  kwd := rfl
  sc := ⟨rfl, rfl, rfl, by decide +kernel, rfl, by decide +kernel, by decide +kernel⟩
  ml := rfl
  nl := rfl
  bd := by kernel_rfl
  bi := fun _ _ _ _ _ _ us hl => match us, hl with
    | [_], _ => rfl
theorem ok_check_content : EntOk (ggF fa) tab e_check_content where
  dfl := rfl
  kwd := rfl
  sc := ⟨rfl, rfl, rfl, by decide +kernel, rfl, by decide +kernel, by decide +kernel⟩
  ml := rfl
  nl := rfl
  bd := by kernel_rfl
  bi := fun _ _ _ _ _ _ us hl => match us, hl with
    | [_], _ => rfl
theorem ok_least_round : EntOk (ggF fa) tab e_least_round where
  dfl := rfl
  kwd := rfl
  sc := ⟨rfl, rfl, rfl, by decide +kernel, rfl, by decide +kernel, by decide +kernel⟩
  ml := rfl
  nl := rfl
  bd := by kernel_rfl
  bi := fun _ _ _ _ _ _ us hl => match us, hl with
    | [_], _ => rfl
theorem ok_shortest : EntOk (ggF fa) tab e_shortest where
  dfl := rfl
  kwd := rfl
  sc := ⟨rfl, rfl, rfl, by decide +kernel, rfl, by decide +kernel, by decide +kernel⟩
  ml := rfl
  nl := rfl
  bd := by kernel_rfl
  bi := fun _ _ _ _ _ _ us hl => match us, hl with
    | [_, _], _ => rfl
theorem ok_least_content : EntOk (ggF fa) tab e_least_content where
  dfl := rfl
  kwd := rfl
  sc := ⟨rfl, rfl, rfl, by decide +kernel, rfl, by decide +kernel, by decide +kernel⟩
  ml := rfl
  nl := rfl
  bd := by kernel_rfl
  bi := fun _ _ _ _ _ _ us hl => match us, hl with
    | [_], _ => rfl
theorem ok_same_signs : EntOk (ggF fa) tab e_same_signs where
  dfl := rfl
  kwd := rfl
  sc := ⟨rfl, rfl, rfl, by decide +kernel, rfl, by decide +kernel, by decide +kernel⟩
  ml := rfl
  nl := rfl
  bd := by kernel_rfl
  bi := fun _ _ _ _ _ _ us hl => match us, hl with
    | [_, _], _ => rfl
theorem ok__law_pot : EntOk (ggF fa) tab e__law_pot where
  dfl := rfl
  kwd := rfl
  sc := ⟨rfl, rfl, rfl, by decide +kernel, rfl, by decide +kernel, by decide +kernel⟩
  ml := rfl
  nl := rfl
  bd := by kernel_rfl
  bi := fun _ _ _ _ _ _ us hl => match us, hl with
    | [_], _ => rfl
theorem ok__law_draw : EntOk (ggF fa) tab e__law_draw where
  dfl := rfl
  kwd := rfl
  sc := ⟨rfl, rfl, rfl, by decide +kernel, rfl, by decide +kernel, by decide +kernel⟩
  ml := rfl
  nl := rfl
  bd := by kernel_rfl
  bi := fun _ _ _ _ _ _ us hl => match us, hl with
    | [_, _], _ => rfl
theorem ok__law_string : EntOk (ggF fa) tab e__law_string where
  dfl := rfl
  kwd := rfl
  sc := ⟨rfl, rfl, rfl, by decide +kernel, rfl, by decide +kernel, by decide +kernel⟩
  ml := rfl
  nl := rfl
  bd := by kernel_rfl
  bi := fun _ _ _ _ _ _ us hl => match us, hl with
    | [_, _, _], _ => rfl
theorem ok__law_sign : EntOk (ggF fa) tab e__law_sign where
  dfl := rfl
  kwd := rfl
  sc := ⟨rfl, rfl, rfl, by decide +kernel, rfl, by decide +kernel, by decide +kernel⟩
  ml := rfl
  nl := rfl
  bd := by kernel_rfl
  bi := fun _ _ _ _ _ _ us hl => match us, hl with
    | [_, _], _ => rfl
theorem ok__law_first : EntOk (ggF fa) tab e__law_first where
  dfl := rfl
  kwd := rfl
  sc := ⟨rfl, rfl, rfl, by decide +kernel, rfl, by decide +kernel, by decide +kernel⟩
  ml := rfl
  nl := rfl
  bd := by kernel_rfl
  bi := fun _ _ _ _ _ _ us hl => match us, hl with
    | [_, _], _ => rfl
theorem ok__law_least : EntOk (ggF fa) tab e__law_least where
  dfl := rfl
  kwd := rfl
  sc := ⟨rfl, rfl, rfl, by decide +kernel, rfl, by decide +kernel, by decide +kernel⟩
  ml := rfl
  nl := rfl
  bd := by kernel_rfl
  bi := fun _ _ _ _ _ _ us hl => match us, hl with
    | [_, _], _ => rfl
theorem ok__law_written : EntOk (ggF fa) tab e__law_written where
  dfl := rfl
  kwd := rfl
  sc := ⟨rfl, rfl, rfl, by decide +kernel, rfl, by decide +kernel, by decide +kernel⟩
  ml := rfl
  nl := rfl
  bd := by kernel_rfl
  bi := fun _ _ _ _ _ _ us hl => match us, hl with
    | [_, _], _ => rfl
theorem ok__law_long_right : EntOk (ggF fa) tab e__law_long_right where
  dfl := rfl
  kwd := rfl
  sc := ⟨rfl, rfl, rfl, by decide +kernel, rfl, by decide +kernel, by decide +kernel⟩
  ml := rfl
  nl := rfl
  bd := by kernel_rfl
  bi := fun _ _ _ _ _ _ us hl => match us, hl with
    | [_], _ => rfl
theorem ok_law : EntOk (ggF fa) tab e_law where
  dfl := rfl
  kwd := rfl
  sc := ⟨rfl, rfl, rfl, by decide +kernel, rfl, by decide +kernel, by decide +kernel⟩
  ml := rfl
  nl := rfl
  bd := by kernel_rfl
  bi := fun _ _ _ _ _ _ us hl => match us, hl with
    | [_], _ => rfl
def Good (f : Str) (e : Ent) : Prop :=
  EntOk (ggF fa) tab e ∧ e.d.at_ = (f, none) ∧ hasGlo fa f = true ∧ e.d ∈ ents.map (·.2.d)
theorem all_good : ∀ p ∈ ents, Good p.1 p.2 := by
  intro p hp
  have hm : p.2.d ∈ ents.map (·.2.d) := List.mem_map_of_mem hp
  refine (fun (h : EntOk (ggF fa) tab p.2 ∧ p.2.d.at_ = (p.1, none) ∧ hasGlo fa p.1 = true) =>
    ⟨h.1, h.2.1, h.2.2, hm⟩) ?_
  clear hm
  revert p
  refine List.forall_mem_cons.mpr ⟨⟨ok_is_pair, rfl, by decide +kernel⟩,
    List.forall_mem_cons.mpr ⟨⟨ok_is_string_of, rfl, by decide +kernel⟩,
    List.forall_mem_cons.mpr ⟨⟨ok_is_letters, rfl, by decide +kernel⟩,
    List.forall_mem_cons.mpr ⟨⟨ok_is_content_of, rfl, by decide +kernel⟩,
    List.forall_mem_cons.mpr ⟨⟨ok_is_content, rfl, by decide +kernel⟩,
    List.forall_mem_cons.mpr ⟨⟨ok_check_content, rfl, by decide +kernel⟩,
    List.forall_mem_cons.mpr ⟨⟨ok_least_round, rfl, by decide +kernel⟩,
    List.forall_mem_cons.mpr ⟨⟨ok_shortest, rfl, by decide +kernel⟩,
    List.forall_mem_cons.mpr ⟨⟨ok_least_content, rfl, by decide +kernel⟩,
    List.forall_mem_cons.mpr ⟨⟨ok_same_signs, rfl, by decide +kernel⟩,
    List.forall_mem_cons.mpr ⟨⟨ok__law_pot, rfl, by decide +kernel⟩,
    List.forall_mem_cons.mpr ⟨⟨ok__law_draw, rfl, by decide +kernel⟩,
    List.forall_mem_cons.mpr ⟨⟨ok__law_string, rfl, by decide +kernel⟩,
    List.forall_mem_cons.mpr ⟨⟨ok__law_sign, rfl, by decide +kernel⟩,
    List.forall_mem_cons.mpr ⟨⟨ok__law_first, rfl, by decide +kernel⟩,
    List.forall_mem_cons.mpr ⟨⟨ok__law_least, rfl, by decide +kernel⟩,
    List.forall_mem_cons.mpr ⟨⟨ok__law_written, rfl, by decide +kernel⟩,
    List.forall_mem_cons.mpr ⟨⟨ok__law_long_right, rfl, by decide +kernel⟩,
    List.forall_mem_cons.mpr ⟨⟨ok_law, rfl, by decide +kernel⟩,
    List.forall_mem_nil _⟩⟩⟩⟩⟩⟩⟩⟩⟩⟩⟩⟩⟩⟩⟩⟩⟩⟩⟩
theorem ents_good : ∀ f e, ents.lookup f = some e → EntOk (ggF fa) (fun f => (ents.lookup f).map Ent.df) e ∧ e.d.at_ = (f, none) ∧ hasGlo fa f = true ∧ e.d ∈ ents.map (·.2.d) := by
  rw [tab_eq]
  exact fun f e h => all_good (f, e) (PySem.mem_of_lookup h)
abbrev R : PySem.W.OpenRow := PySem.W.OpenLaw.row PySem.Challenge.rw_rowwalkers_k02_whole_least_contents
abbrev hk : PySem.W.Hook := He.hookD 4 fa (ents.map (·.2.d))
def ob (s : PySem.W.SharedT) : He.AlD :=
  He.obsDG 4 fa (ents.map (·.2.d)) (HandSHeadRun.getT s)
theorem ob_eq (s : PySem.W.SharedT) : ob s = hk.obs s.abs :=
  He.obsDG_eq (HandSHeadRun.getT_eq s)
def zz_lo0 : List Str := ["is_pair", "is_string_of", "is_letters", "is_content_of", "is_content", "check_content", "least_round", "shortest", "least_content", "same_signs", "_law_pot", "_law_draw", "_law_string", "_law_sign", "_law_first", "_law_least", "_law_written", "_law_long_right", "WalkError", "NoContent", "__name__", "LETTERS"]
def loose : List Str := zz_lo0
theorem runs (w : World) :
  HandSHeadRun.RunEq R (PySem.W.view R.prog [25]) hk ob 20000 loose w := by
  intro os
  kernel_rfl
end Kk02

set_option Elab.async false
set_option linter.all false
set_option maxRecDepth 100000
set_option maxHeartbeats 0
open PySem PySem.W PySem.Calls PyProof.Rows
theorem PySem.Challenge.cw_rowwalkers_k02_whole_least_contents_holds : PySem.Challenge.rw_rowwalkers_k02_whole_least_contents.Holds := by
  w_on; o_law
  refine HandSHeadRun.head_any (r := Kk02.R) (q := view Kk02.R.prog [25]) (H := Kk02.hk) (ob := Kk02.ob) (M := 20000) (loose := Kk02.loose) (d := HandSHeadRun.topDef Kk02.R.prog 25) (kwd := []) Kk02.ob_eq
    (by kernel_rfl) (fun s => by kernel_rfl) Kk02.runs (by kernel_rfl) (by kernel_rfl) (by kernel_rfl) (by rfl) (by first | assumption | decide +kernel) (by decide +kernel) ⟨rfl, rfl, rfl, rfl, rfl, by decide +kernel⟩ ?hw ?hc
  case hw => w_witness2
  case hc =>
    refine Rw.walkX (l := PySem.Challenge.rw_rowwalkers_k02_whole_least_contents) (n := 63) (k := 8) (x := "script") rfl (by decide) (by kernel_rfl) ⟨rfl, by decide, by decide⟩ ?F
    intro w mg a h Y G hmg0
    have hmg : mg ("law" : PySem.Str) = some (.ref a) := by
      have e : (HandSHeadRun.topDef Kk02.R.prog 25).name = ("law" : PySem.Str) := by kernel_rfl
      rw [← e]
      exact hmg0
    exact Rw.prog_ok (el := Kk02.e_law) Kk02.ents_good (by kernel_rfl) (by kernel_rfl) rfl (by rw [Kk02.tab_eq]; exact Kk02.law_true) w mg a h Y G hmg
