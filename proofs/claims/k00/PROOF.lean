import PyProof.Rows.All
import Wide.All
import OpenK.AllK
import Wide.FinOn
import HandS.ForMost
import HandS.ForExc
import HandS.TryMany
import HandS.ExcField
import HandS.CallSlots
import HandS.Defaults
import HandS.TupAny
import HandS.Style
import HandS.Walk
import HandS.Zip
import HandS.SortInts
import HandS.Deep
import HandS.IsInst
import KE.GoesEnum
import HandS.ExcSuper
import HandS.ExcInit
import KE.KExcInit
import HandS.Head0
import HandS.Head1
import HandS.Head2
import HandS.HeadEnd
import HandS.HeadHook1
import HandS.HeadHook2
import PySem.Challenge.RW_nobodymeets_k00_whole_errors_and_what_th
set_option Elab.async false
set_option linter.all false
set_option maxRecDepth 100000
/-! Pf, part A: data, store, code and its evaluator (plain Lean, no machine in sight). -/
namespace Pf
open PySem

/-- frozen data -/
inductive D where
  | non | bl (b : Bool) | int (i : Int) | str (s : List Nat) | tup (xs : List D) | lst (xs : List D)
  deriving Inhabited

mutual
/-- Python's == on data -/
def eqv : D → D → Bool
  | .non, .non => true
  | .bl a, .bl b => a == b
  | .bl a, .int j => (if a then 1 else 0) == j
  | .int i, .bl b => i == (if b then 1 else 0)
  | .int i, .int j => i == j
  | .str x, .str y => x == y
  | .lst xs, .lst ys => eqvs xs ys
  | .tup xs, .tup ys => eqvs xs ys
  | _, _ => false
def eqvs : List D → List D → Bool
  | [], [] => true
  | x :: xs, y :: ys => eqv x y && eqvs xs ys
  | _, _ => false
end
mutual
/-- nested at most n deep -/
def shp : Nat → D → Bool
  | 0, .tup _ => false
  | 0, .lst _ => false
  | n + 1, .tup xs => shps n xs
  | n + 1, .lst xs => shps n xs
  | _, .str s => PyData.strOk ⟨s.toArray⟩
  | _, _ => true
def shps : Nat → List D → Bool
  | _, [] => true
  | n, x :: xs => shp n x && shps n xs
end

/-- a value: data, a pointer into the store, a caught exception -/
inductive W where
  | v (d : D) | r (n : Nat) | x (c : Nat) (d : D)
  deriving Inhabited
/-- a cell of the store: a list that may change, one that is frozen -/
inductive Cell where
  | live (xs : List W) | frz (d : D)
  deriving Inhabited
abbrev Store := List Cell
abbrev Env := List (Option W)
/-- an outcome of an expression: a value; an exception of class c that keeps d; nothing is said -/
inductive R (α : Type) where
  | ok (a : α) (st : Store) | exc (c : Nat) (d : D) (st : Store) | stuck
def R.bind {α β : Type} : R α → (α → Store → R β) → R β
  | .ok a st, f => f a st
  | .exc c d st, _ => .exc c d st
  | .stuck, _ => .stuck
/-- an outcome of a statement -/
inductive Rs where
  | nx (env : Env) (st : Store) | ret (w : W) (st : Store) | brk (env : Env) (st : Store) | cnt (env : Env) (st : Store)
  | exc (c : Nat) (d : D) (env : Env) (st : Store) | stuck

inductive Bop where | add | sub | mul | fdiv | mod | pow
  deriving DecidableEq
inductive Cop where | eq | ne | lt | le | gt | ge | inn | nin | isn | nisn
  deriving DecidableEq
/-- where a parameter's value comes from: a written value, a default -/
inductive Ag where | a (i : Nat) | d (d : D)
/-- built-in functions that are called -/
inductive Bfn where | len | int | abs | tuple | min | max | all | any | isint | isbool | isstr | isseq
  deriving DecidableEq
mutual
inductive E where
  | var (i : Nat)
  | lit (d : D)
  | gl (x : Str) (d : D)
  | neg (a : E)
  | bin (op : Bop) (a b : E)
  | cmp (op : Cop) (a b : E)
  | chn (op op' : Cop) (a b c : E)
  | nott (a : E)
  | andd (a b : E)
  | orr (a b : E)
  | one (a : E)
  | ife (t : T) (a b : E)
  | tup (es : Es)
  | idx (a b : E)
  | slc (a : E) (lo hi : O)
  | frz (l : L)
  | liv (l : L)
  | fz (a : E)
  | call (k : Bool) (f : Nat) (np : Nat) (ks : List Str) (pm : List Ag) (es : Es)
  | blt (b : Bfn) (es : Es)
  | pop (a : E)
  | popi (a b : E)
  | app (a b : E)
  | exat (i : Nat) (ks : List Nat) (nm : Str)
  | mkx (k : Nat) (pn nm : Str) (e : E)
inductive T where
  | vv (a : E)
  | cmp (op : Cop) (a b : E)
  | chn (op op' : Cop) (a b c : E)
  | nott (a : T)
  | andd (a b : T)
  | orr (a b : T)
  | one (a : T)
inductive L where
  | disp (es : Es)
  | lc (vs tg : List Nat) (it : I) (ts : Ts) (e : E)
  | lc2 (vs tg : List Nat) (it : I) (ts : Ts) (vs1 tg1 : List Nat) (it1 : I) (ts1 : Ts) (e : E)
  | ofs (a : E)
  | slc (a : E) (lo hi : O)
  | rev (a : E)
  | cat (a b : E)
  | rep (a b : E)
  | srt (a : E)
inductive I where
  | seq (a : E)
  | rng1 (a : E)
  | rng2 (a b : E)
  | enu (a : E)
  | zp (a b : E)
inductive Es where
  | nil | cons (e : E) (es : Es)
inductive Ts where
  | yes | one (t : T)
inductive O where
  | none | some (e : E)
end
mutual
inductive S where
  | pas | brk | cnt | retN
  | asg (i : Nat) (e : E)
  | par (is : List Nat) (es : Es)
  | unp (is : List Nat) (e : E)
  | seti (a b e : E)
  | aug (i : Nat) (op : Bop) (e : E)
  | ex (e : E)
  | ret (e : E)
  | ite (t : T) (a b : Ss)
  | fo (tg : List Nat) (it : I) (b : Ss)
  | wh (t : T) (b : Ss)
  | rais (c : Nat) (es : Es)
  | raisB (c : Nat)
  | tr (b : Ss) (hs : Hs)
inductive Ss where
  | nil | cons (s : S) (ss : Ss)
/-- except clauses: class, slot of the name, suite -/
inductive Hs where
  | nil | cons (c : Nat) (i : Option Nat) (b : Ss) (hs : Hs)
end

/-! ### operations on values -/
/-- all are data -/
def dats : List W → Option (List D)
  | [] => some []
  | .v d :: ws => (dats ws).map (d :: ·)
  | _ :: _ => none
/-- the data that a value is at this moment -/
def viewC : Option Cell → Option D
  | some (.live xs) => (dats xs).map .lst
  | some (.frz d) => some d
  | none => none
def view (st : Store) : W → Option D
  | .v d => some d
  | .r n => viewC st[n]?
  | .x _ _ => none
/-- the items of a sequence; whether it is a tuple -/
def itemsD : D → Option (Bool × List W)
  | .tup ds => some (true, ds.map .v)
  | .lst ds => some (false, ds.map .v)
  | _ => none
def itemsC : Option Cell → Option (Bool × List W)
  | some (.live xs) => some (false, xs)
  | some (.frz d) => itemsD d
  | none => none
def items (st : Store) : W → Option (Bool × List W)
  | .v d => itemsD d
  | .r n => itemsC st[n]?
  | .x _ _ => none
def LIM : Nat := 1000000
def small (i : Int) : Bool := decide (-(2 ^ 64) < i) && decide (i < 2 ^ 64)
def cut {α : Type} (xs : List α) (lo hi : Option Int) : List α :=
  (xs.drop (HT.sIx xs.length 0 lo)).take (HT.sIx xs.length xs.length hi - HT.sIx xs.length 0 lo)
def binD : Bop → D → D → Option D
  | .add, .int a, .int b => some (.int (a + b))
  | .sub, .int a, .int b => some (.int (a - b))
  | .mul, .int a, .int b => if small a || small b then some (.int (a * b)) else none
  | .fdiv, .int a, .int b => if decide (0 < b) && decide (b < 1073741824) then some (.int (a / b)) else none
  | .mod, .int a, .int b => if decide (0 < b) then some (.int (a % b)) else none
  | .pow, .int a, .int b => if decide (0 ≤ b) && (decide (b ≤ 1000) && decide (a.natAbs < 2 ^ 64)) then some (.int (a ^ b.toNat)) else none
  | .add, .tup xs, .tup ys => if xs.length + ys.length ≤ LIM then some (.tup (xs ++ ys)) else none
  | _, _, _ => none
def okEq (a b : D) : Bool := shp 64 a && shp 64 b
/-- is x among the items -/
def among (x : D) (ys : List D) : Bool := ys.any fun y => eqv y x
def cmpD : Cop → D → D → Option Bool
  | .eq, a, b => if okEq a b then some (eqv a b) else none
  | .ne, a, b => if okEq a b then some (!eqv a b) else none
  | .lt, .int a, .int b => some (decide (a < b))
  | .le, .int a, .int b => some (decide (a ≤ b))
  | .gt, .int a, .int b => some (decide (b < a))
  | .ge, .int a, .int b => some (decide (b ≤ a))
  | .inn, x, .lst ys => if okEq x (.lst ys) then some (among x ys) else none
  | .inn, x, .tup ys => if okEq x (.tup ys) then some (among x ys) else none
  | .nin, x, .lst ys => if okEq x (.lst ys) then some (!among x ys) else none
  | .nin, x, .tup ys => if okEq x (.tup ys) then some (!among x ys) else none
  | _, _, _ => none
/-- x is None, x is not None: of any value -/
def isNon : W → Bool
  | .v .non => true
  | _ => false
def cmpW (op : Cop) (st : Store) (a b : W) : Option Bool :=
  match op with
  | .isn => if isNon b then some (isNon a) else none
  | .nisn => if isNon b then some (!isNon a) else none
  | _ => match view st a, view st b with
    | some x, some y => cmpD op x y
    | _, _ => none
def boolOf : W → Option Bool
  | .v (.bl b) => some b
  | _ => none
def intOf : W → Option Int
  | .v (.int i) => some i
  | _ => none
def idxW (st : Store) (a b : W) : Option W :=
  match intOf b with
  | none => none
  | some i => match items st a with
    | some (_, xs) => L2.atI xs i
    | none => none
/-- all the ints, all the bools of a list of data -/
def intsD : List D → Option (List Int)
  | [] => some []
  | .int i :: ds => (intsD ds).map (i :: ·)
  | _ :: _ => none
def boolsD : List D → Option (List Bool)
  | [] => some []
  | .bl b :: ds => (boolsD ds).map (b :: ·)
  | _ :: _ => none
def least : Int → List Int → Int
  | m, [] => m
  | m, x :: xs => least (if x < m then x else m) xs
def most : Int → List Int → Int
  | m, [] => m
  | m, x :: xs => most (if m < x then x else m) xs
def isInt : D → Bool
  | .int _ => true
  | .bl _ => true
  | _ => false
def isBool : D → Bool
  | .bl _ => true
  | _ => false
def isStr : D → Bool
  | .str _ => true
  | _ => false
def isSeq : D → Bool
  | .tup _ => true
  | .lst _ => true
  | _ => false
/-- what kind of thing stands there, without its items -/
def kindC : Option Cell → Option D
  | some (.live _) => some (.lst [])
  | some (.frz d) => some d
  | none => none
def kindW (st : Store) : W → Option D
  | .v d => some d
  | .r n => kindC st[n]?
  | .x _ _ => none
/-- two ints, or none -/
def ints2 : List W → Option (Int × Int)
  | [.v (.int a), .v (.int b)] => some (a, b)
  | _ => none
def listI : Option D → Option (List Int)
  | some (.lst ds) => intsD ds
  | _ => none
def listB : Option D → Option (List Bool)
  | some (.lst ds) => boolsD ds
  | _ => none
def one1 : List W → Option W
  | [w] => some w
  | _ => none
def foldL (fo : Int → List Int → Int) : Option (List Int) → Option D
  | some (x :: xs) => some (.int (fo x xs))
  | _ => none
def foldW (two : Int → Int → Int) (fo : Int → List Int → Int) (st : Store) (ws : List W) : Option D :=
  match ints2 ws with
  | some p => some (.int (two p.1 p.2))
  | none => match one1 ws with
    | some w => foldL fo (listI (view st w))
    | none => none
def tupI : Option (Bool × List W) → Option D
  | some p => (dats p.2).map .tup
  | none => none
def bltW (b : Bfn) (st : Store) (ws : List W) : Option D :=
  match b, ws with
  | .len, [w] => (items st w).map fun p => .int p.2.length
  | .int, [.v (.int i)] => some (.int i)
  | .int, [.v (.bl k)] => some (.int (if k then 1 else 0))
  | .abs, [.v (.int i)] => some (.int (if i < 0 then -i else i))
  | .tuple, [w] => tupI (items st w)
  | .min, ws => foldW (fun a b => if b < a then b else a) least st ws
  | .max, ws => foldW (fun a b => if b > a then b else a) most st ws
  | .all, [w] => (listB (view st w)).map fun bs => .bl (bs.all id)
  | .any, [w] => (listB (view st w)).map fun bs => .bl (bs.any id)
  | .isint, [w] => (kindW st w).map fun d => .bl (isInt d)
  | .isbool, [w] => (kindW st w).map fun d => .bl (isBool d)
  | .isstr, [w] => (kindW st w).map fun d => .bl (isStr d)
  | .isseq, [w] => (kindW st w).map fun d => .bl (isSeq d)
  | _, _ => none
/-- ints in rising order -/
def ins1 (x : Int) : List Int → List Int
  | [] => [x]
  | y :: ys => if x ≤ y then x :: y :: ys else y :: ins1 x ys
def sortI : List Int → List Int
  | [] => []
  | x :: xs => ins1 x (sortI xs)
/-- freezing a pointer: its cell must hold data alone -/
def freezeC (st : Store) (n : Nat) : Option Cell → Option (D × Store)
  | some (.live xs) => (dats xs).map fun ds => (.lst ds, st.set n (.frz (.lst ds)))
  | some (.frz d) => some (d, st)
  | none => none
def freeze (st : Store) : W → Option (D × Store)
  | .v d => some (d, st)
  | .r n => freezeC st n st[n]?
  | .x _ _ => none
/-- what is walked -/
inductive It where
  | fix (xs : List (List W))
  | liv (en : Bool) (n : Nat)
/-- one turn's values for a target: one name, or several -/
def bindTg : List Nat → List W → Env → Option Env
  | [], [], env => some env
  | i :: is, w :: ws, env => bindTg is ws (env.set i (some w))
  | _, _, _ => none
/-- a value for a target: one name takes it; several names unpack it -/
def untup : W → Option (List W)
  | .v (.tup ds) => some (ds.map .v)
  | _ => none
def turnW (st : Store) (tg : List Nat) (w : W) : Option (List W) :=
  match tg with
  | [_] => some [w]
  | _ => untup w
def wipeE (env : Env) : List Nat → Env
  | [] => env
  | v :: vs => (wipeE env vs).set v none
def rangeW (lo : Int) : Nat → List W
  | 0 => []
  | n + 1 => .v (.int lo) :: rangeW (lo + 1) n
def enumW (k : Nat) : List W → List (List W)
  | [] => []
  | w :: ws => [.v (.int (k : Nat)), w] :: enumW (k + 1) ws
def zipW : List W → List W → List (List W)
  | a :: as, b :: bs => [a, b] :: zipW as bs
  | _, _ => []

/-- the context: own functions one level down, the bound on while's turns -/
structure Cx where
  call : Nat → List W → Store → R W
  turns : Nat

def argsOf (ws : List W) : List Ag → Option (List W)
  | [] => some []
  | .a i :: pm => match ws[i]? with
    | some w => (argsOf ws pm).map (w :: ·)
    | none => none
  | .d d :: pm => (argsOf ws pm).map (.v d :: ·)
def allV : List W → Bool
  | [] => true
  | .v _ :: ws => allV ws
  | _ :: _ => false
/-- what a pure call hands back: data alone -/
def pureS (st : Store) : R W → R W
  | .ok (.v d) _ => .ok (.v d) st
  | .exc e d _ => .exc e d st
  | _ => .stuck
/-- a call of an own function: a pure one runs over an empty store, takes data and hands data back -/
def callW (c : Cx) (k : Bool) (f : Nat) (ws : List W) (st : Store) : R W :=
  match k with
  | true => if allV ws = true then pureS st (c.call f ws []) else .stuck
  | false => c.call f ws st
def ofO {α : Type} (o : Option α) (st : Store) : R α :=
  match o with
  | some a => .ok a st
  | none => .stuck
/-- one turn that fills a list: the test, the item, what is left -/
def lcOne (t : R Bool) (e : Store → R W) (more : List W → Store → R (List W)) (acc : List W) : R (List W) :=
  match t with
  | .ok true st1 => match e st1 with
    | .ok w st2 => more (acc ++ [w]) st2
    | _ => .stuck
  | .ok false st1 => more acc st1
  | _ => .stuck
/-- a turn's names take their values -/
def turnS {α : Type} (o : Option Env) (f : Env → R α) : R α :=
  match o with
  | some env => f env
  | none => .stuck
/-- a walk over fixed turns, filling a list -/
def lcFix (tg : List Nat) (env : Env) (t : Env → Store → R Bool) (e : Env → Store → R W) : List (List W) → List W → Store → R (List W)
  | [], acc, st => .ok acc st
  | ws :: wss, acc, st => turnS (bindTg tg ws env) fun env' => lcOne (t env' st) (e env') (fun acc st => lcFix tg env t e wss acc st) acc
def liveC (i : Nat) : Option Cell → Option (Option W)
  | some (.live xs) => some xs[i]?
  | _ => none
def liveAt (st : Store) (n i : Nat) : Option (Option W) := liveC i st[n]?
/-- a turn's values over a list that may change; en: with its number -/
def turnL (en : Bool) (st : Store) (tg : List Nat) (i : Nat) (w : W) : Option (List W) :=
  if en then some [.v (.int (i : Nat)), w] else turnW st tg w
/-- one look at a list that may change: its end, or a turn's values -/
def lookS {α : Type} (o : Option (Option (List W))) (z : α) (s : α) (f : List W → α) : α :=
  match o with
  | none => s
  | some none => z
  | some (some ws) => f ws
def lookL (en : Bool) (st : Store) (tg : List Nat) (n i : Nat) : Option (Option (List W)) :=
  match liveAt st n i with
  | none => none
  | some none => some none
  | some (some w) => (turnL en st tg i w).map some
/-- a walk over a list that may change -/
def lcLiv (en : Bool) (tg : List Nat) (env : Env) (t : Env → Store → R Bool) (e : Env → Store → R W) (n : Nat) : Nat → Nat → List W → Store → R (List W)
  | 0, _, _, _ => .stuck
  | k + 1, i, acc, st => lookS (lookL en st tg n i) (.ok acc st) .stuck fun ws => turnS (bindTg tg ws env) fun env' =>
    if acc.length < LIM then lcOne (t env' st) (e env') (fun acc st => lcLiv en tg env t e n k (i + 1) acc st) acc else .stuck
/-- what is walked, told as turns of so many values -/
def fixOf (st : Store) (tg : List Nat) (ws : List W) : Option (List (List W)) :=
  match ws with
  | [] => some []
  | w :: ws => match turnW st tg w, fixOf st tg ws with
    | some a, some b => some (a :: b)
    | _, _ => none
/-- items of what may not change while it is walked -/
def frozenD : D → Option (List W)
  | .lst ds => some (ds.map .v)
  | .tup ds => some (ds.map .v)
  | _ => none
def frozenC : Option Cell → Option (List W)
  | some (.frz d) => frozenD d
  | _ => none
def frozen (st : Store) : W → Option (List W)
  | .v d => frozenD d
  | .r n => frozenC st[n]?
  | .x _ _ => none
def isLive : Option Cell → Bool
  | some (.live _) => true
  | _ => false
def seqIt (tg : List Nat) (st : Store) (w : W) : Option It :=
  match frozen st w with
  | some ws => (fixOf st tg ws).map .fix
  | none => match w with
    | .r n => if isLive st[n]? then some (.liv false n) else none
    | _ => none
def enuIt (tg : List Nat) (st : Store) (w : W) : Option It :=
  if tg.length = 2 then
    match frozen st w with
    | some ws => some (.fix (enumW 0 ws))
    | none => match w with
      | .r n => if isLive st[n]? then some (.liv true n) else none
      | _ => none
  else none
def popC (st : Store) (n : Nat) : Option Cell → R W
  | some (.live xs) => match xs[xs.length - 1]? with
    | some w => .ok w (st.set n (.live xs.dropLast))
    | none => .stuck
  | _ => .stuck
def popiC (st : Store) (n : Nat) (i : Int) : Option Cell → R W
  | some (.live xs) => if 0 ≤ i ∧ i < (xs.length : Int) then
      match xs[i.toNat]? with
      | some w => .ok w (st.set n (.live (xs.eraseIdx i.toNat)))
      | none => .stuck
    else .stuck
  | _ => .stuck
def appC (st : Store) (n : Nat) (y : W) : Option Cell → R W
  | some (.live xs) => if xs.length < LIM then .ok (.v .non) (st.set n (.live (xs ++ [y]))) else .stuck
  | _ => .stuck
def negS : W → Store → R W
  | .v (.int i), st => .ok (.v (.int (-i))) st
  | _, _ => .stuck
def dataS (o : Option D) (st : Store) : R W :=
  match o with
  | some d => .ok (.v d) st
  | none => .stuck
def bin2 (op : Bop) : Option D → Option D → Option D
  | some a, some b => binD op a b
  | _, _ => none
def binS (op : Bop) (x y : W) (st : Store) : R W := dataS (bin2 op (view st x) (view st y)) st
def cmpS (op : Cop) (x y : W) (st : Store) : R W := dataS ((cmpW op st x y).map .bl) st
def chnS (k : Option Bool) (more : Store → R W) (st : Store) : R W :=
  match k with
  | some true => more st
  | some false => .ok (.v (.bl false)) st
  | none => .stuck
def chnT (k : Option Bool) (more : Store → R Bool) (st : Store) : R Bool :=
  match k with
  | some true => more st
  | some false => .ok false st
  | none => .stuck
def notS (w : W) (st : Store) : R W := dataS ((boolOf w).map fun k => .bl (!k)) st
def orS (k : Option Bool) (more : Store → R W) (st : Store) : R W :=
  match k with
  | some true => .ok (.v (.bl true)) st
  | some false => more st
  | none => .stuck
def orT (k : Bool) (more : Store → R Bool) (st : Store) : R Bool :=
  match k with
  | true => .ok true st
  | false => more st
def andT (k : Bool) (more : Store → R Bool) (st : Store) : R Bool :=
  match k with
  | true => more st
  | false => .ok false st
def ifS {α : Type} (k : Bool) (a b : Store → α) (st : Store) : α :=
  match k with
  | true => a st
  | false => b st
def tupS (ws : List W) (st : Store) : R W := dataS ((dats ws).map .tup) st
def idxS (x y : W) (st : Store) : R W := ofO (idxW st x y) st
def slcD (i j : Option Int) : Option D → Option D
  | some (.tup ds) => some (.tup (cut ds i j))
  | some (.lst ds) => some (.lst (cut ds i j))
  | _ => none
def slcS (x : W) (i j : Option Int) (st : Store) : R W := dataS (slcD i j (view st x)) st
def frzS (ws : List W) (st : Store) : R W := dataS ((dats ws).map .lst) st
def livS (ws : List W) (st : Store) : R W := .ok (.r st.length) (st ++ [.live ws])
def fzS (w : W) (st : Store) : R W :=
  match freeze st w with
  | some p => .ok (.v p.1) p.2
  | none => .stuck
def callS (c : Cx) (k : Bool) (f : Nat) (pm : List Ag) (ws : List W) (st : Store) : R W :=
  match argsOf ws pm with
  | some as => callW c k f as st
  | none => .stuck
def bltS (b : Bfn) (ws : List W) (st : Store) : R W := dataS (bltW b st ws) st
def popS : W → Store → R W
  | .r n, st => popC st n st[n]?
  | _, _ => .stuck
def popiS : W → W → Store → R W
  | .r n, .v (.int i), st => popiC st n i st[n]?
  | _, _, _ => .stuck
def appS : W → W → Store → R W
  | .r n, y, st => appC st n y st[n]?
  | _, _, _ => .stuck
/-- what an exception that keeps nothing is told to keep -/
def bareD : D := .str [1114112]
def isBare : D → Bool
  | .str s => decide (s = [1114112])
  | _ => false
/-- what a caught exception keeps; ks: the classes that keep it by this name -/
def exatO (ks : List Nat) : Option (Option W) → Option W
  | some (some (.x k d)) => if (ks.contains k && !isBare d) = true then some (.v d) else none
  | _ => none
/-- what an exception made on the spot keeps -/
def mkxS : W → Store → R W
  | .v d, st => .ok (.v d) st
  | _, _ => .stuck
/-- a name's value; a caught exception is none -/
def varO : Option (Option W) → Option W
  | some (some (.v d)) => some (.v d)
  | some (some (.r n)) => some (.r n)
  | _ => none
def itemsS (o : Option (Bool × List W)) (st : Store) : R (List W) :=
  match o with
  | some p => .ok p.2 st
  | none => .stuck
def lstOf : Option (Bool × List W) → Option (List W)
  | some (false, ws) => some ws
  | _ => none
def listS (o : Option (List W)) (st : Store) : R (List W) := ofO o st
def catL : Option (List W) → Option (List W) → Option (List W)
  | some xs, some ys => if xs.length + ys.length ≤ LIM then some (xs ++ ys) else none
  | _, _ => none
def repL : Option (List W) → Option Int → Option (List W)
  | some xs, some i => if 0 ≤ i ∧ xs.length * i.toNat ≤ LIM ∧ i < 1000000 then some (List.replicate i.toNat xs).flatten else none
  | _, _ => none
def srtL : Option D → Option (List W)
  | some (.lst ds) => (intsD ds).map fun ns => (sortI ns).map fun i => .v (.int i)
  | _ => none
def rngI (tg : List Nat) (i j : Option Int) : Option It :=
  match i, j with
  | some i, some j => if tg.length = 1 ∧ (j ≤ 1000000 ∧ -1000000 ≤ j) ∧ (i ≤ 1000000 ∧ -1000000 ≤ i) then some (.fix ((rangeW i (j - i).toNat).map fun w => [w])) else none
  | _, _ => none
def sameK : Option (Bool × List W) → Option (Bool × List W) → Bool
  | some p, some q => p.1 == q.1
  | _, _ => false
def zpI (tg : List Nat) (k : Bool) : Option (List W) → Option (List W) → Option It
  | some xs, some ys => if tg.length = 2 ∧ k = true then some (.fix (zipW xs ys)) else none
  | _, _ => none
def needL (o : Option (List W)) (k : Store → R W) (st : Store) : R W :=
  match o with
  | some _ => k st
  | none => .stuck
def lcS (c : Cx) (tg : List Nat) (env : Env) (t : Env → Store → R Bool) (e : Env → Store → R W) (w : It) (st : Store) : R (List W) :=
  match w with
  | .fix wss => lcFix tg env t e wss [] st
  | .liv en n => lcLiv en tg env t e n c.turns 0 [] st
mutual
def evE (c : Cx) : E → Env → Store → R W
  | .var i, env, st => ofO (varO env[i]?) st
  | .lit d, _, st => .ok (.v d) st
  | .gl _ d, _, st => .ok (.v d) st
  | .neg a, env, st => (evE c a env st).bind negS
  | .bin op a b, env, st => (evE c a env st).bind fun x st1 => (evE c b env st1).bind fun y st2 => binS op x y st2
  | .cmp op a b, env, st => (evE c a env st).bind fun x st1 => (evE c b env st1).bind fun y st2 => cmpS op x y st2
  | .chn op op' a b d, env, st => (evE c a env st).bind fun x st1 => (evE c b env st1).bind fun y st2 =>
    chnS (cmpW op st2 x y) (fun st2 => (evE c d env st2).bind fun z st3 => cmpS op' y z st3) st2
  | .nott a, env, st => (evE c a env st).bind notS
  | .andd a b, env, st => (evE c a env st).bind fun w st1 => chnS (boolOf w) (fun st1 => evE c b env st1) st1
  | .orr a b, env, st => (evE c a env st).bind fun w st1 => orS (boolOf w) (fun st1 => evE c b env st1) st1
  | .one a, env, st => evE c a env st
  | .ife t a b, env, st => (evT c t env st).bind fun k st1 => ifS k (fun st1 => evE c a env st1) (fun st1 => evE c b env st1) st1
  | .tup es, env, st => (evEs c es env st).bind tupS
  | .idx a b, env, st => (evE c a env st).bind fun x st1 => (evE c b env st1).bind fun y st2 => idxS x y st2
  | .slc a lo hi, env, st => (evE c a env st).bind fun x st1 => (evO c lo env st1).bind fun i st2 => (evO c hi env st2).bind fun j st3 => slcS x i j st3
  | .frz l, env, st => (evL c l env st).bind frzS
  | .liv l, env, st => (evL c l env st).bind livS
  | .fz a, env, st => (evE c a env st).bind fzS
  | .call k f _ _ pm es, env, st => (evEs c es env st).bind fun ws st1 => callS c k f pm ws st1
  | .blt b es, env, st => (evEs c es env st).bind fun ws st1 => bltS b ws st1
  | .pop a, env, st => (evE c a env st).bind popS
  | .popi a b, env, st => (evE c a env st).bind fun x st1 => needL (lstOf (items st1 x)) (fun st1 => (evE c b env st1).bind fun y st2 => popiS x y st2) st1
  | .app a b, env, st => (evE c a env st).bind fun x st1 => needL (lstOf (items st1 x)) (fun st1 => (evE c b env st1).bind fun y st2 => appS x y st2) st1
  | .exat i ks _, env, st => ofO (exatO ks env[i]?) st
  | .mkx _ _ _ e, env, st => (evE c e env st).bind mkxS
def evT (c : Cx) : T → Env → Store → R Bool
  | .vv a, env, st => (evE c a env st).bind fun w st1 => ofO (boolOf w) st1
  | .cmp op a b, env, st => (evE c a env st).bind fun x st1 => (evE c b env st1).bind fun y st2 => ofO (cmpW op st2 x y) st2
  | .chn op op' a b d, env, st => (evE c a env st).bind fun x st1 => (evE c b env st1).bind fun y st2 =>
    chnT (cmpW op st2 x y) (fun st2 => (evE c d env st2).bind fun z st3 => ofO (cmpW op' st3 y z) st3) st2
  | .nott a, env, st => (evT c a env st).bind fun k st1 => .ok (!k) st1
  | .andd a b, env, st => (evT c a env st).bind fun k st1 => andT k (fun st1 => evT c b env st1) st1
  | .orr a b, env, st => (evT c a env st).bind fun k st1 => orT k (fun st1 => evT c b env st1) st1
  | .one a, env, st => evT c a env st
def evL (c : Cx) : L → Env → Store → R (List W)
  | .disp es, env, st => evEs c es env st
  | .lc vs tg it ts e, env, st => (evI c tg it env st).bind fun w st1 => lcS c tg (wipeE env vs) (fun env st => evTs c ts env st) (fun env st => evE c e env st) w st1
  | .lc2 _ _ _ _ _ _ _ _ _, _, _ => .stuck
  | .ofs a, env, st => (evE c a env st).bind fun x st1 => itemsS (items st1 x) st1
  | .slc a lo hi, env, st => (evE c a env st).bind fun x st1 => (evO c lo env st1).bind fun i st2 => (evO c hi env st2).bind fun j st3 => listS ((lstOf (items st3 x)).map fun ws => cut ws i j) st3
  | .rev a, env, st => (evE c a env st).bind fun x st1 => listS ((lstOf (items st1 x)).map List.reverse) st1
  | .cat a b, env, st => (evE c a env st).bind fun x st1 => (evE c b env st1).bind fun y st2 => listS (catL (lstOf (items st2 x)) (lstOf (items st2 y))) st2
  | .rep a b, env, st => (evE c a env st).bind fun x st1 => (evE c b env st1).bind fun y st2 => listS (repL (lstOf (items st2 x)) (intOf y)) st2
  | .srt a, env, st => (evE c a env st).bind fun x st1 => listS (srtL (view st1 x)) st1
def evI (c : Cx) (tg : List Nat) : I → Env → Store → R It
  | .seq a, env, st => (evE c a env st).bind fun w st1 => ofO (seqIt tg st1 w) st1
  | .rng1 a, env, st => (evE c a env st).bind fun w st1 => ofO (rngI tg (some 0) (intOf w)) st1
  | .rng2 a b, env, st => (evE c a env st).bind fun x st1 => (evE c b env st1).bind fun y st2 => ofO (rngI tg (intOf x) (intOf y)) st2
  | .enu a, env, st => (evE c a env st).bind fun w st1 => ofO (enuIt tg st1 w) st1
  | .zp a b, env, st => (evE c a env st).bind fun x st1 => (evE c b env st1).bind fun y st2 => ofO (zpI tg (sameK (items st2 x) (items st2 y)) (frozen st2 x) (frozen st2 y)) st2
def evEs (c : Cx) : Es → Env → Store → R (List W)
  | .nil, _, st => .ok [] st
  | .cons e es, env, st => (evE c e env st).bind fun w st1 => (evEs c es env st1).bind fun ws st2 => .ok (w :: ws) st2
def evTs (c : Cx) : Ts → Env → Store → R Bool
  | .yes, _, st => .ok true st
  | .one t, env, st => evT c t env st
def evO (c : Cx) : O → Env → Store → R (Option Int)
  | .none, _, st => .ok none st
  | .some e, env, st => (evE c e env st).bind fun w st1 => ofO ((intOf w).map some) st1
end
/-! ### statements -/
def bindG {α : Type} (r : R α) (env : Env) (f : α → Store → Rs) : Rs :=
  match r with
  | .ok w st => f w st
  | .exc c d st => .exc c d env st
  | .stuck => .stuck
def setC (st : Store) (n : Nat) (i : Int) (w : W) : Option Cell → Option Store
  | some (.live xs) => match L2.ixN xs.length i with
    | some j => some (st.set n (.live (xs.set j w)))
    | none => none
  | _ => none
def setIt (st : Store) (x : W) (i : Int) (w : W) : Option Store :=
  match x with
  | .r n => setC st n i w st[n]?
  | _ => none
/-- one turn of a loop: its suite's end, what is left -/
def foOne (r : Rs) (more : Env → Store → Rs) : Rs :=
  match r with
  | .nx env st => more env st
  | .cnt env st => more env st
  | .brk env st => .nx env st
  | r => r
def turnB (o : Option Env) (f : Env → Rs) : Rs :=
  match o with
  | some env => f env
  | none => .stuck
def foFix (tg : List Nat) (b : Env → Store → Rs) : List (List W) → Env → Store → Rs
  | [], env, st => .nx env st
  | ws :: wss, env, st => turnB (bindTg tg ws env) fun env' => foOne (b env' st) (fun env st => foFix tg b wss env st)
def foLiv (en : Bool) (tg : List Nat) (b : Env → Store → Rs) (n : Nat) : Nat → Nat → Env → Store → Rs
  | 0, _, _, _ => .stuck
  | k + 1, i, env, st => lookS (lookL en st tg n i) (.nx env st) .stuck fun ws => turnB (bindTg tg ws env) fun env' => foOne (b env' st) (fun env st => foLiv en tg b n k (i + 1) env st)
def whL (t : Env → Store → R Bool) (b : Env → Store → Rs) : Nat → Env → Store → Rs
  | 0, _, _ => .stuck
  | k + 1, env, st => bindG (t env st) env fun q st1 => match q with
    | false => .nx env st1
    | true => foOne (b env st1) (fun env st => whL t b k env st)
def setAll : List Nat → List W → Env → Option Env := bindTg
/-- what one exception keeps: the argument, or the default -1 -/
def keptOf (ws : List W) : Option D :=
  match ws with
  | [] => some (.int (-1))
  | [.v d] => some d
  | _ => none
def named (i : Option Nat) (k : Nat) (d : D) (env : Env) : Env :=
  match i with
  | some j => env.set j (some (.x k d))
  | none => env
/-- no caught exception stands in a slot -/
def plainE : Env → Bool
  | [] => true
  | some (.x _ _) :: _ => false
  | _ :: env => plainE env
def goneE (i : Option Nat) (env : Env) : Env :=
  match i with
  | some j => env.set j none
  | none => env
def goneS (env : Env) (r : Rs) : Rs := if plainE env = true then r else .stuck
/-- the except suite's end: its name goes -/
def gone (i : Option Nat) : Rs → Rs
  | .nx env st => goneS (goneE i env) (.nx (goneE i env) st)
  | .brk env st => goneS (goneE i env) (.brk (goneE i env) st)
  | .cnt env st => goneS (goneE i env) (.cnt (goneE i env) st)
  | .ret w st => .ret w st
  | .exc _ _ _ _ => .stuck
  | .stuck => .stuck
def envS (o : Option Env) (st : Store) : Rs :=
  match o with
  | some env => .nx env st
  | none => .stuck
def unpW (o : Option (Bool × List W)) : Option (List W) :=
  match o with
  | some (true, ws) => some ws
  | _ => none
def storeS (env : Env) (o : Option Store) : Rs :=
  match o with
  | some st => .nx env st
  | none => .stuck
def augI : Bop → Option Int → Option Int → Option Int
  | .add, some a, some b => some (a + b)
  | .sub, some a, some b => some (a - b)
  | _, _, _ => none
def thenS (r : Rs) (f : Env → Store → Rs) : Rs :=
  match r with
  | .nx env st => f env st
  | r => r
def catchS (r : Rs) (f : Nat → D → Env → Store → Rs) : Rs :=
  match r with
  | .exc k d env st => f k d env st
  | r => r
def raisS (k : Nat) (env : Env) (o : Option D) (st : Store) : Rs :=
  match o with
  | some d => .exc k d env st
  | none => .stuck
def foS (c : Cx) (tg : List Nat) (b : Env → Store → Rs) (env : Env) (w : It) (st : Store) : Rs :=
  match w with
  | .fix wss => foFix tg b wss env st
  | .liv en n => foLiv en tg b n c.turns 0 env st
mutual
def exS (c : Cx) : S → Env → Store → Rs
  | .pas, env, st => .nx env st
  | .brk, env, st => .brk env st
  | .cnt, env, st => .cnt env st
  | .retN, _, st => .ret (.v .non) st
  | .asg i e, env, st => bindG (evE c e env st) env fun w st1 => .nx (env.set i (some w)) st1
  | .par is es, env, st => bindG (evEs c es env st) env fun ws st1 => envS (bindTg is ws env) st1
  | .unp is e, env, st => bindG (evE c e env st) env fun w st1 => envS ((unpW (items st1 w)).bind fun ws => bindTg is ws env) st1
  | .seti a b e, env, st => bindG (evE c e env st) env fun w st1 => bindG (evE c a env st1) env fun x st2 => bindG (evE c b env st2) env fun y st3 => storeS env ((intOf y).bind fun i => setIt st3 x i w)
  | .aug i op e, env, st => bindG (ofO (varO env[i]?) st) env fun x st => bindG (evE c e env st) env fun y st1 => envS ((augI op (intOf x) (intOf y)).map fun z => env.set i (some (.v (.int z)))) st1
  | .ex e, env, st => bindG (evE c e env st) env fun _ st1 => .nx env st1
  | .ret e, env, st => bindG (evE c e env st) env fun w st1 => .ret w st1
  | .ite t a b, env, st => bindG (evT c t env st) env fun k st1 => ifS k (fun st1 => exSs c a env st1) (fun st1 => exSs c b env st1) st1
  | .fo tg it b, env, st => bindG (evI c tg it env st) env fun w st1 => foS c tg (fun env st => exSs c b env st) env w st1
  | .wh t b, env, st => whL (fun env st => evT c t env st) (fun env st => exSs c b env st) c.turns env st
  | .rais k es, env, st => bindG (evEs c es env st) env fun ws st1 => raisS k env (keptOf ws) st1
  | .raisB k, env, st => .exc k bareD env st
  | .tr b hs, env, st => catchS (exSs c b env st) fun k d env1 st1 => exHs c hs k d env1 st1
def exSs (c : Cx) : Ss → Env → Store → Rs
  | .nil, env, st => .nx env st
  | .cons s ss, env, st => thenS (exS c s env st) fun env1 st1 => exSs c ss env1 st1
/-- class 0 stands for all of them -/
def exHs (c : Cx) : Hs → Nat → D → Env → Store → Rs
  | .nil, k, d, env, st => .exc k d env st
  | .cons h i b hs, k, d, env, st => if h = 0 ∨ h = k then gone i (exSs c b (named i k d env) st) else exHs c hs k d env st
end
/-- an own function -/
structure Fd where
  ps : Nat
  n : Nat
  body : Ss
def backS : Rs → R W
  | .nx _ st => .ok (.v .non) st
  | .ret w st => .ok w st
  | .exc e d _ st => .exc e d st
  | _ => .stuck
def startE (n : Nat) (ws : List W) : Env := ws.map some ++ List.replicate (n - ws.length) none
/-- k levels of calls -/
def callF (tab : Nat → Option Fd) (turns : Nat) : Nat → Nat → List W → Store → R W
  | 0, _, _, _ => .stuck
  | k + 1, f, ws, st => match tab f with
    | none => .stuck
    | some fd => if ws.length = fd.ps then backS (exSs ⟨callF tab turns k, turns⟩ fd.body (startE fd.n ws) st) else .stuck
end Pf
set_option Elab.async false
set_option linter.all false
set_option maxRecDepth 100000
set_option maxHeartbeats 1000000
/-! Pf, part B: how data, values and the store lie in the abstract heap. -/
namespace Pf
open PySem PySem.Spec PyProof.Rows L2

theorem Same.new {H : Hp} {p : Addr} {o : HO} (h : H p = none) : Same H (upd H p o) := fun a u e => by
  rw [upd_ne (ne_of_none e h)]
  exact e
theorem sqT_mono {K : PySem.W.Frag} {H H' : Hp} {a : Addr} {xs : List V} (e : Same H H') (h : SqT K H a xs) : SqT K H' a xs := by
  rcases h with (h | ⟨o, h⟩) | h
  · exact .inl (.inl (e _ _ h))
  · exact .inl (.inr ⟨o, e _ _ h⟩)
  · exact .inr h

mutual
inductive RD (K : PySem.W.Frag) (H : Hp) : D → V → Prop
  | non : RD K H .non .non
  | bl (b : Bool) : RD K H (.bl b) (.bl b)
  | int (i : Int) : RD K H (.int i) (.int i)
  | str (s : List Nat) : RD K H (.str s) (.str ⟨s.toArray⟩)
  | tup {a : Addr} {vs : List V} {ds : List D} : SqT K H a vs → RDs K H ds vs → ds.length ≤ sizeLine → RD K H (.tup ds) (.ref a)
  | lst {a : Addr} {vs : List V} {ds : List D} : SqL K H a vs → RDs K H ds vs → ds.length ≤ sizeLine → RD K H (.lst ds) (.ref a)
inductive RDs (K : PySem.W.Frag) (H : Hp) : List D → List V → Prop
  | nil : RDs K H [] []
  | cons {d : D} {v : V} {ds : List D} {vs : List V} : RD K H d v → RDs K H ds vs → RDs K H (d :: ds) (v :: vs)
end
section
variable {K : PySem.W.Frag} {H H' : Hp}
mutual
theorem RD.mono (e : Same H H') : ∀ {d : D} {v : V}, RD K H d v → RD K H' d v
  | _, _, .non => .non
  | _, _, .bl b => .bl b
  | _, _, .int i => .int i
  | _, _, .str s => .str s
  | _, _, .tup h r l => .tup (sqT_mono e h) (RDs.mono e r) l
  | _, _, .lst h r l => .lst (e.seq h) (RDs.mono e r) l
theorem RDs.mono (e : Same H H') : ∀ {ds : List D} {vs : List V}, RDs K H ds vs → RDs K H' ds vs
  | _, _, .nil => .nil
  | _, _, .cons h t => .cons (RD.mono e h) (RDs.mono e t)
end
theorem RDs.length : ∀ {ds : List D} {vs : List V}, RDs K H ds vs → ds.length = vs.length
  | _, _, .nil => rfl
  | _, _, .cons _ t => by rw [List.length_cons, List.length_cons, RDs.length t]
theorem RDs.get : ∀ {ds : List D} {vs : List V} {i : Nat} {d : D}, RDs K H ds vs → ds[i]? = some d → ∃ v, vs[i]? = some v ∧ RD K H d v
  | _, _, _, _, .nil, h => by simp at h
  | _, _, 0, _, .cons r _, h => by simp at h; subst h; exact ⟨_, rfl, r⟩
  | _, _, i + 1, _, .cons _ t, h => by
    obtain ⟨v, h1, h2⟩ := RDs.get (i := i) t (by simpa using h)
    exact ⟨v, by simpa using h1, h2⟩
end

/-- the exceptions: class and the name of what it keeps, by number -/
structure Gx where
  K : PySem.W.Frag
  cls : Nat → Option (Addr × Str)

/-- an exception of a class that keeps d: its class, its dict -/
inductive Xkp (g : Gx) (Hb : Hp) : Nat → D → Addr → Option Addr → Prop
  | at {c : Nat} {d : D} {C : Addr} {nm : Str} {dd : Addr} {v : V} : g.cls c = some (C, nm) → Hb dd = some (.xd [(nm, v)]) → RD g.K Hb d v → Xkp g Hb c d C (some dd)
  | bare {c : Nat} {C : Addr} {nm : Str} : g.cls c = some (C, nm) → Xkp g Hb c bareD C none
theorem Xkp.mono {g : Gx} {Hb Hb' : Hp} (e : Same Hb Hb') {c : Nat} {d : D} {C : Addr} {od : Option Addr} : Xkp g Hb c d C od → Xkp g Hb' c d C od
  | .at h1 h2 h3 => .at h1 (e _ _ h2) (h3.mono e)
  | .bare h => .bare h
theorem Xkp.cls {g : Gx} {Hb : Hp} {c : Nat} {d : D} {C : Addr} {od : Option Addr} : Xkp g Hb c d C od → ∃ nm, g.cls c = some (C, nm)
  | .at h _ _ => ⟨_, h⟩
  | .bare h => ⟨_, h⟩
/-- values -/
def RW (g : Gx) (H : Hp) (m : List Addr) : W → V → Prop
  | .v d, x => RD g.K H d x
  | .r n, x => ∃ p, m[n]? = some p ∧ x = .ref p
  | .x _ _, _ => False
inductive RWs (g : Gx) (H : Hp) (m : List Addr) : List W → List V → Prop
  | nil : RWs g H m [] []
  | cons {w : W} {v : V} {ws : List W} {vs : List V} : RW g H m w v → RWs g H m ws vs → RWs g H m (w :: ws) (v :: vs)

/-- m before, m' behind -/
def Pre (m m' : List Addr) : Prop := ∀ (n : Nat) (p : Addr), m[n]? = some p → m'[n]? = some p
theorem Pre.refl (m : List Addr) : Pre m m := fun _ _ h => h
theorem Pre.trans {a b c : List Addr} (h : Pre a b) (k : Pre b c) : Pre a c := fun n p e => k n p (h n p e)
theorem Pre.snoc (m : List Addr) (p : Addr) : Pre m (m ++ [p]) := fun n q e => by
  have h := (List.getElem?_eq_some_iff.mp e).1
  rw [List.getElem?_append_left h]
  exact e
section
variable {g : Gx} {H H' : Hp} {m m' : List Addr}
theorem RW.mono (e : Same H H') (k : Pre m m') : ∀ {w : W} {v : V}, RW g H m w v → RW g H' m' w v
  | .v _, _, h => RD.mono e h
  | .r _, _, ⟨p, h, q⟩ => ⟨p, k _ _ h, q⟩
  | .x _ _, _, h => h.elim
theorem RWs.mono (e : Same H H') (k : Pre m m') : ∀ {ws : List W} {vs : List V}, RWs g H m ws vs → RWs g H' m' ws vs
  | _, _, .nil => .nil
  | _, _, .cons h t => .cons (h.mono e k) (t.mono e k)
theorem RWs.length : ∀ {ws : List W} {vs : List V}, RWs g H m ws vs → ws.length = vs.length
  | _, _, .nil => rfl
  | _, _, .cons _ t => by rw [List.length_cons, List.length_cons, t.length]
theorem RWs.get : ∀ {ws : List W} {vs : List V} {i : Nat} {w : W}, RWs g H m ws vs → ws[i]? = some w → ∃ v, vs[i]? = some v ∧ RW g H m w v
  | _, _, _, _, .nil, h => by simp at h
  | _, _, 0, _, .cons r _, h => by simp at h; subst h; exact ⟨_, rfl, r⟩
  | _, _, i + 1, _, .cons _ t, h => by
    obtain ⟨v, h1, h2⟩ := RWs.get (i := i) t (by simpa using h)
    exact ⟨v, by simpa using h1, h2⟩
theorem RWs.append : ∀ {ws ws' : List W} {vs vs' : List V}, RWs g H m ws vs → RWs g H m ws' vs' → RWs g H m (ws ++ ws') (vs ++ vs')
  | _, _, _, _, .nil, h => h
  | _, _, _, _, .cons r t, h => .cons r (t.append h)
theorem RWs.take : ∀ {ws : List W} {vs : List V} (n : Nat), RWs g H m ws vs → RWs g H m (ws.take n) (vs.take n)
  | _, _, 0, _ => .nil
  | _, _, _ + 1, .nil => .nil
  | _, _, n + 1, .cons r t => .cons r (t.take n)
theorem RWs.drop : ∀ {ws : List W} {vs : List V} (n : Nat), RWs g H m ws vs → RWs g H m (ws.drop n) (vs.drop n)
  | _, _, 0, h => h
  | _, _, _ + 1, .nil => .nil
  | _, _, n + 1, .cons _ t => t.drop n
theorem RWs.set {w : W} {v : V} (r : RW g H m w v) : ∀ {ws : List W} {vs : List V} (i : Nat), RWs g H m ws vs → RWs g H m (ws.set i w) (vs.set i v)
  | _, _, _, .nil => .nil
  | _, _, 0, .cons _ t => .cons r t
  | _, _, i + 1, .cons q t => .cons q (RWs.set r i t)
theorem RWs.erase : ∀ {ws : List W} {vs : List V} (i : Nat), RWs g H m ws vs → RWs g H m (ws.eraseIdx i) (vs.eraseIdx i)
  | _, _, _, .nil => .nil
  | _, _, 0, .cons _ t => t
  | _, _, i + 1, .cons q t => .cons q (t.erase i)
theorem RWs.dropLast : ∀ {ws : List W} {vs : List V}, RWs g H m ws vs → RWs g H m ws.dropLast vs.dropLast
  | _, _, .nil => .nil
  | _, _, .cons _ .nil => .nil
  | _, _, .cons q (.cons r t) => .cons q (RWs.dropLast (.cons r t))
theorem RWs.reverse : ∀ {ws : List W} {vs : List V}, RWs g H m ws vs → RWs g H m ws.reverse vs.reverse
  | _, _, .nil => .nil
  | _, _, .cons q t => by
    rw [List.reverse_cons, List.reverse_cons]
    exact t.reverse.append (.cons q .nil)
theorem RWs.ofD : ∀ {ds : List D} {vs : List V}, RDs g.K H ds vs → RWs g H m (ds.map .v) vs
  | _, _, .nil => .nil
  | _, _, .cons h t => .cons h (RWs.ofD t)
theorem RWs.dats : ∀ {ws : List W} {vs : List V} {ds : List D}, RWs g H m ws vs → Pf.dats ws = some ds → RDs g.K H ds vs
  | _, _, _, .nil, e => by
    cases e
    exact .nil
  | .v d :: ws, _, ds, .cons h t, e => by
    unfold Pf.dats at e
    cases q : Pf.dats ws with
    | none =>
      rw [q] at e
      cases e
    | some es =>
      rw [q] at e
      cases e
      exact .cons h (t.dats q)
  | .r n :: ws, _, ds, .cons h t, e => by cases e
  | .x c d :: ws, _, ds, .cons h t, e => by cases e
end
theorem dats_length : ∀ {ws : List W} {ds : List D}, dats ws = some ds → ds.length = ws.length
  | [], _, e => by
    cases e
    rfl
  | .v d :: ws, ds, e => by
    unfold dats at e
    cases q : dats ws with
    | none =>
      rw [q] at e
      cases e
    | some es =>
      rw [q] at e
      cases e
      rw [List.length_cons, List.length_cons, dats_length q]
  | .r n :: ws, ds, e => by cases e
  | .x c d :: ws, ds, e => by cases e

/-- a cell -/
def CellOk (g : Gx) (H Hb Fr : Hp) (m : List Addr) (p : Addr) : Cell → Prop
  | .live ws => Hb p = none ∧ Fr p = none ∧ ∃ vs, H p = some (.lst vs) ∧ RWs g Hb m ws vs ∧ ws.length ≤ sizeLine
  | .frz d => (∃ o, Hb p = some o) ∧ RD g.K Hb d (.ref p)
/-- the store lies in the heap: Hb what never changes, Fr what is not ours -/
structure Sim (g : Gx) (st : Store) (H Hb Fr : Hp) (m : List Addr) : Prop where
  hb : Same Hb H
  fr : Same Fr H
  dj : ∀ p, Fr p ≠ none → Hb p = none
  len : m.length = st.length
  inj : ∀ (i j : Nat) (p : Addr), m[i]? = some p → m[j]? = some p → i = j
  cell : ∀ (n : Nat) (c : Cell) (p : Addr), st[n]? = some c → m[n]? = some p → CellOk g H Hb Fr m p c
section
variable {g : Gx} {st : Store} {H Hb Fr : Hp} {m : List Addr}
theorem Sim.at (S : Sim g st H Hb Fr m) {n : Nat} {c : Cell} (h : st[n]? = some c) : ∃ p, m[n]? = some p ∧ CellOk g H Hb Fr m p c := by
  have hn : n < m.length := by
    rw [S.len]
    exact (List.getElem?_eq_some_iff.mp h).1
  exact ⟨m[n], List.getElem?_eq_getElem hn, S.cell n c _ h (List.getElem?_eq_getElem hn)⟩
theorem CellOk.mono {H' Hb' : Hp} {m' : List Addr} {p : Addr} {c : Cell} (h : CellOk g H Hb Fr m p c) (e : Same Hb Hb') (k : Pre m m') (hl : ∀ ws, c = .live ws → Hb' p = none ∧ H' p = H p) : CellOk g H' Hb' Fr m' p c := by
  cases c with
  | live ws =>
    obtain ⟨h1, h2, vs, h3, h4, h5⟩ := h
    obtain ⟨k1, k2⟩ := hl ws rfl
    exact ⟨k1, h2, vs, by rw [k2]; exact h3, h4.mono e k, h5⟩
  | frz d =>
    obtain ⟨⟨o, h1⟩, h2⟩ := h
    exact ⟨⟨o, e _ _ h1⟩, h2.mono e⟩
/-- a new thing that never changes -/
theorem Sim.newD {p : Addr} {o : HO} (S : Sim g st H Hb Fr m) (hp : H p = none) : Sim g st (upd H p o) (upd Hb p o) Fr m where
  hb := fun a u e => by
    by_cases ha : a = p
    · subst ha
      rw [upd_same] at e ⊢
      exact e
    · rw [upd_ne ha] at e ⊢
      exact S.hb a u e
  fr := fun a u e => by
    have h1 := S.fr a u e
    rw [upd_ne (ne_of_none h1 hp)]
    exact h1
  dj := fun a h => by
    have hne : a ≠ p := fun e => by
      subst e
      cases q : Fr a with
      | none => exact h q
      | some o => rw [S.fr a o q] at hp; cases hp
    rw [upd_ne hne]
    exact S.dj a h
  len := S.len
  inj := S.inj
  cell := fun n c q h1 h2 => by
    have hb0 : Hb p = none := by
      cases e : Hb p with
      | none => rfl
      | some u => rw [S.hb _ _ e] at hp; cases hp
    refine (S.cell n c q h1 h2).mono (Same.new hb0) (Pre.refl m) fun ws ec => ?_
    subst ec
    obtain ⟨k1, k2, vs, k3, _⟩ := S.cell n _ q h1 h2
    have hne : q ≠ p := ne_of_none k3 hp
    rw [upd_ne hne, upd_ne hne]
    exact ⟨k1, rfl⟩
theorem Sim.fresh (S : Sim g st H Hb Fr m) {p : Addr} (hp : H p = none) : Hb p = none := by
  cases e : Hb p with
  | none => rfl
  | some u => rw [S.hb _ _ e] at hp; cases hp
theorem Sim.freshF (S : Sim g st H Hb Fr m) {p : Addr} (hp : H p = none) : Fr p = none := by
  cases e : Fr p with
  | none => rfl
  | some u => rw [S.fr _ _ e] at hp; cases hp
/-- a cell's place that is not p -/
theorem Sim.live_ne (S : Sim g st H Hb Fr m) {p q : Addr} {n : Nat} {ws : List W} (hp : H p = none) (h1 : st[n]? = some (.live ws)) (h2 : m[n]? = some q) : q ≠ p := by
  obtain ⟨_, _, vs, k3, _⟩ := S.cell n _ q h1 h2
  exact ne_of_none k3 hp
theorem Sim.away (S : Sim g st H Hb Fr m) {p : Addr} (hp : H p = none) (n : Nat) : m[n]? ≠ some p := fun e => by
  have hn : n < st.length := by
    rw [← S.len]
    exact (List.getElem?_eq_some_iff.mp e).1
  have h1 := S.cell n st[n] p (List.getElem?_eq_getElem hn) e
  cases hc : st[n] with
  | live ws =>
    rw [hc] at h1
    obtain ⟨_, _, vs, k3, _⟩ := h1
    rw [hp] at k3
    cases k3
  | frz d =>
    rw [hc] at h1
    obtain ⟨⟨o, k⟩, _⟩ := h1
    rw [S.hb _ _ k] at hp
    cases hp
/-- a new list that may change; every cell's place stands in H -/
theorem Sim.newL {p : Addr} {ws : List W} {vs : List V} (S : Sim g st H Hb Fr m) (hp : H p = none) (r : RWs g Hb m ws vs) (l : ws.length ≤ sizeLine) :
    Sim g (st ++ [.live ws]) (upd H p (.lst vs)) Hb Fr (m ++ [p]) where
  hb := fun a u e => by
    have h1 := S.hb a u e
    rw [upd_ne (ne_of_none h1 hp)]
    exact h1
  fr := fun a u e => by
    have h1 := S.fr a u e
    rw [upd_ne (ne_of_none h1 hp)]
    exact h1
  dj := S.dj
  len := by rw [List.length_append, List.length_append, S.len]; rfl
  inj := fun i j q h1 h2 => by
    have key : ∀ {i : Nat} {q : Addr}, (m ++ [p])[i]? = some q → m[i]? = some q ∨ (i = m.length ∧ q = p) := fun {i q} h => by
      by_cases hi : i < m.length
      · rw [List.getElem?_append_left hi] at h
        exact .inl h
      · rw [List.getElem?_append_right (by omega)] at h
        have h3 := (List.getElem?_eq_some_iff.mp h).1
        have e : i = m.length := by
          have h4 : i - m.length < 1 := h3
          omega
        subst e
        rw [Nat.sub_self] at h
        exact .inr ⟨rfl, (Option.some.inj h).symm⟩
    rcases key h1 with a | ⟨a, b⟩
    · rcases key h2 with c | ⟨c, d⟩
      · exact S.inj i j q a c
      · subst d
        exact absurd a (S.away hp i)
    · rcases key h2 with c | ⟨c, d⟩
      · subst b
        exact absurd c (S.away hp j)
      · rw [a, c]
  cell := fun n c q h1 h2 => by
    by_cases hn : n < st.length
    · rw [List.getElem?_append_left hn] at h1
      rw [List.getElem?_append_left (by rw [S.len]; exact hn)] at h2
      refine (S.cell n c q h1 h2).mono (fun _ _ e => e) (Pre.snoc m p) fun ws' ec => ?_
      subst ec
      obtain ⟨k1, k2, vs', k3, _⟩ := S.cell n _ q h1 h2
      rw [upd_ne (ne_of_none k3 hp)]
      exact ⟨k1, rfl⟩
    · rw [List.getElem?_append_right (by omega)] at h1
      have h3 : n - st.length < 1 := (List.getElem?_eq_some_iff.mp h1).1
      have en : n = st.length := by omega
      subst en
      rw [Nat.sub_self] at h1
      have ec : Cell.live ws = c := Option.some.inj h1
      subst ec
      rw [← S.len, List.getElem?_append_right (Nat.le_refl _), Nat.sub_self] at h2
      have eq : p = q := Option.some.inj h2
      subst eq
      exact ⟨S.fresh hp, S.freshF hp, vs, upd_same, r.mono (fun _ _ e => e) (Pre.snoc m p), l⟩
/-- a list is written -/
theorem Sim.write {n : Nat} {p : Addr} {ws ws' : List W} {vs' : List V} (S : Sim g st H Hb Fr m) (h1 : st[n]? = some (.live ws)) (h2 : m[n]? = some p) (r : RWs g Hb m ws' vs') (l : ws'.length ≤ sizeLine) :
    Sim g (st.set n (.live ws')) (upd H p (.lst vs')) Hb Fr m := by
  obtain ⟨k1, k2, vs, k3, _⟩ := S.cell n _ p h1 h2
  refine ⟨fun a u e => ?_, fun a u e => ?_, S.dj, by rw [List.length_set]; exact S.len, S.inj, fun j c q e1 e2 => ?_⟩
  · have hne : a ≠ p := fun z => by rw [z, k1] at e; cases e
    rw [upd_ne hne]
    exact S.hb a u e
  · have hne : a ≠ p := fun z => by rw [z, k2] at e; cases e
    rw [upd_ne hne]
    exact S.fr a u e
  · by_cases hj : j = n
    · subst hj
      have hl : j < st.length := (List.getElem?_eq_some_iff.mp h1).1
      rw [List.getElem?_set_self hl] at e1
      have ec : Cell.live ws' = c := Option.some.inj e1
      subst ec
      rw [h2] at e2
      have ep : p = q := Option.some.inj e2
      subst ep
      exact ⟨k1, k2, vs', upd_same, r, l⟩
    · rw [List.getElem?_set_ne (Ne.symm hj)] at e1
      have hq : q ≠ p := fun z => hj (S.inj j n p (by rw [← z]; exact e2) h2)
      refine (S.cell j c q e1 e2).mono (fun _ _ e => e) (Pre.refl m) fun ws2 ec => ?_
      subst ec
      obtain ⟨k1', _⟩ := S.cell j _ q e1 e2
      rw [upd_ne hq]
      exact ⟨k1', rfl⟩
/-- a list is frozen -/
theorem Sim.freeze {n : Nat} {p : Addr} {ws : List W} {ds : List D} {vs : List V} (S : Sim g st H Hb Fr m) (h1 : st[n]? = some (.live ws)) (h2 : m[n]? = some p) (hv : H p = some (.lst vs)) (hd : RDs g.K Hb ds vs) (hl : ds.length ≤ sizeLine) :
    Sim g (st.set n (.frz (.lst ds))) H (upd Hb p (.lst vs)) Fr m := by
  obtain ⟨k1, k2, _⟩ := S.cell n _ p h1 h2
  refine ⟨fun a u e => ?_, S.fr, fun a h => ?_, by rw [List.length_set]; exact S.len, S.inj, fun j c q e1 e2 => ?_⟩
  · by_cases ha : a = p
    · subst ha
      rw [upd_same] at e
      cases e
      exact hv
    · rw [upd_ne ha] at e
      exact S.hb a u e
  · have hne : a ≠ p := fun z => by
      rw [z, k2] at h
      exact h rfl
    rw [upd_ne hne]
    exact S.dj a h
  · by_cases hj : j = n
    · subst hj
      have hlt : j < st.length := (List.getElem?_eq_some_iff.mp h1).1
      rw [List.getElem?_set_self hlt] at e1
      have ec : Cell.frz (.lst ds) = c := Option.some.inj e1
      subst ec
      rw [h2] at e2
      have ep : p = q := Option.some.inj e2
      subst ep
      exact ⟨⟨_, upd_same⟩, .lst (SqL.of upd_same) (hd.mono (Same.new k1)) hl⟩
    · rw [List.getElem?_set_ne (Ne.symm hj)] at e1
      have hq : q ≠ p := fun z => hj (S.inj j n p (by rw [← z]; exact e2) h2)
      refine (S.cell j c q e1 e2).mono (Same.new k1) (Pre.refl m) fun ws2 ec => ?_
      subst ec
      obtain ⟨k1', _⟩ := S.cell j _ q e1 e2
      rw [upd_ne hq]
      exact ⟨k1', rfl⟩
end

/-! ### the slots -/
/-- xa: the exception that is handled: where, its dict, its class -/
def RV (g : Gx) (xa : Option (Addr × Option Addr × Addr)) (H : Hp) (m : List Addr) : W → V → Prop
  | .v d, x => RW g H m (.v d) x
  | .r n, x => RW g H m (.r n) x
  | .x c d, x => ∃ a od C, xa = some (a, od, C) ∧ x = .ref a ∧ Xkp g H c d C od
theorem RV.of {g : Gx} {xa : Option (Addr × Option Addr × Addr)} {H : Hp} {m : List Addr} : ∀ {w : W} {v : V}, RW g H m w v → RV g xa H m w v
  | .v _, _, h => h
  | .r _, _, h => h
  | .x _ _, _, h => h.elim
theorem RV.mono {g : Gx} {xa : Option (Addr × Option Addr × Addr)} {H H' : Hp} {m m' : List Addr} (e : Same H H') (k : Pre m m') : ∀ {w : W} {v : V}, RV g xa H m w v → RV g xa H' m' w v
  | .v _, _, h => RD.mono e h
  | .r _, _, ⟨p, h, q⟩ => ⟨p, k _ _ h, q⟩
  | .x _ _, _, ⟨a, od, C, h1, h2, h3⟩ => ⟨a, od, C, h1, h2, h3.mono e⟩
structure RE (g : Gx) (xa : Option (Addr × Option Addr × Addr)) (Hb : Hp) (m : List Addr) (env : Env) (σ : L2.St) : Prop where
  len : env.length = σ.length
  val : ∀ (i : Nat) (w : W), env[i]? = some (some w) → ∃ v, σ[i]? = some (some v) ∧ RV g xa Hb m w v
section
variable {g : Gx} {xa : Option (Addr × Option Addr × Addr)} {Hb Hb' : Hp} {m m' : List Addr} {env : Env} {σ : L2.St}
theorem RE.mono (r : RE g xa Hb m env σ) (e : Same Hb Hb') (k : Pre m m') : RE g xa Hb' m' env σ :=
  ⟨r.len, fun i w h => let ⟨v, h1, h2⟩ := r.val i w h; ⟨v, h1, h2.mono e k⟩⟩
theorem RE.setV (r : RE g xa Hb m env σ) {i : Nat} {w : W} {v : V} (h : RV g xa Hb m w v) : RE g xa Hb m (env.set i (some w)) (σ.set i (some v)) :=
  ⟨by rw [List.length_set, List.length_set]; exact r.len, fun j u e => by
    by_cases hj : i = j
    · subst hj
      have hl : i < env.length := by
        have h1 := (List.getElem?_eq_some_iff.mp e).1
        rw [List.length_set] at h1
        exact h1
      rw [List.getElem?_set_self hl] at e
      have eu : w = u := Option.some.inj (Option.some.inj e)
      subst eu
      exact ⟨v, List.getElem?_set_self (by rw [← r.len]; exact hl), h⟩
    · rw [List.getElem?_set_ne hj] at e
      rw [List.getElem?_set_ne hj]
      exact r.val j u e⟩
theorem RE.set (r : RE g xa Hb m env σ) {i : Nat} {w : W} {v : V} (h : RW g Hb m w v) : RE g xa Hb m (env.set i (some w)) (σ.set i (some v)) := r.setV (.of h)
theorem RE.unset (r : RE g xa Hb m env σ) (i : Nat) : RE g xa Hb m (env.set i none) (σ.set i none) :=
  ⟨by rw [List.length_set, List.length_set]; exact r.len, fun j u e => by
    by_cases hj : i = j
    · subst hj
      have hl : i < env.length := by
        have h1 := (List.getElem?_eq_some_iff.mp e).1
        rw [List.length_set] at h1
        exact h1
      rw [List.getElem?_set_self hl] at e
      cases e
    · rw [List.getElem?_set_ne hj] at e
      rw [List.getElem?_set_ne hj]
      exact r.val j u e⟩
theorem RE.wipe (r : RE g xa Hb m env σ) : ∀ vs : List Nat, RE g xa Hb m (wipeE env vs) (L2.wipe σ vs)
  | [] => r
  | v :: vs => (RE.wipe r vs).unset v
end

/-! ### outcomes -/
/-- what is wanted of an outcome; WX: of exceptions -/
def Post {α : Type} (g : Gx) (wx : WX) (σ : L2.St) (Fr Hb : Hp) (m : List Addr) (r : R α) (k : α → Store → Hp → List Addr → Hp → Prop) : Prop :=
  match r with
  | .ok a st => ∀ H' Hb' m', Sim g st H' Hb' Fr m' → Same Hb Hb' → Pre m m' → k a st Hb' m' H'
  | .exc c d st => ∀ H' Hb' m' C od, Sim g st H' Hb' Fr m' → Same Hb Hb' → Pre m m' → Xkp g Hb' c d C od → wx (.ref C) od σ H'
  | .stuck => False
section
variable {α β : Type} {g : Gx} {wx : WX} {σ : L2.St} {Fr Hb : Hp} {m : List Addr} {k : β → Store → Hp → List Addr → Hp → Prop}
theorem Post.imp {r : R α} {k k' : α → Store → Hp → List Addr → Hp → Prop} (h : Post g wx σ Fr Hb m r k)
    (f : ∀ a st H' Hb' m', Sim g st H' Hb' Fr m' → Same Hb Hb' → Pre m m' → k a st Hb' m' H' → k' a st Hb' m' H') : Post g wx σ Fr Hb m r k' := by
  cases r with
  | ok a st => exact fun H' Hb' m' S e p => f a st H' Hb' m' S e p (h H' Hb' m' S e p)
  | exc c d st => exact h
  | stuck => exact h
/-- from an earlier ground -/
theorem Post.later {r : R α} {k : α → Store → Hp → List Addr → Hp → Prop} {Hb1 : Hp} {m1 : List Addr} (h : Post g wx σ Fr Hb m r k) (e : Same Hb Hb1) (p : Pre m m1) : Post g wx σ Fr Hb1 m1 r k := by
  cases r with
  | ok a st => exact fun H' Hb' m' S e' p' => h H' Hb' m' S (e.trans e') (p.trans p')
  | exc c d st => exact fun H' Hb' m' C od S e' p' => h H' Hb' m' C od S (e.trans e') (p.trans p')
  | stuck => exact h
theorem Post.bind {r : R α} {f : α → Store → R β} (h : Post g wx σ Fr Hb m (r.bind f) k) :
    Post g wx σ Fr Hb m r (fun a st Hb' m' _ => Post g wx σ Fr Hb' m' (f a st) k) := by
  cases r with
  | ok a st => exact fun H' Hb' m' _ e p => Post.later (r := f a st) h e p
  | exc c d st => exact h
  | stuck => exact h
/-- the same, with what is known behind the first part -/
theorem Post.thn {r : R α} {f : α → Store → R β} {k' : α → Store → Hp → List Addr → Hp → Prop} (h : Post g wx σ Fr Hb m (r.bind f) k)
    (q : ∀ a st H' Hb' m', Sim g st H' Hb' Fr m' → Same Hb Hb' → Pre m m' → Post g wx σ Fr Hb' m' (f a st) k → k' a st Hb' m' H') : Post g wx σ Fr Hb m r k' := h.bind.imp q
end

/-! ### the evaluator's readings -/
section
variable (g : Gx) (xa : Option (Addr × Option Addr × Addr)) (c : Pf.Cx) (wx : WX)
def tE (e : E) : TE := fun σ H Q => ∃ env st Hb Fr m, Sim g st H Hb Fr m ∧ RE g xa Hb m env σ ∧ Post g wx σ Fr Hb m (evE c e env st) fun w _ Hb' m' H' => ∀ v, RW g Hb' m' w v → Q v H'
def tT (t : T) : TT := fun σ H Q => ∃ env st Hb Fr m, Sim g st H Hb Fr m ∧ RE g xa Hb m env σ ∧ Post g wx σ Fr Hb m (evT c t env st) fun b _ _ _ H' => Q b H'
def tEs (es : Es) : TA := fun σ H Q => ∃ env st Hb Fr m, Sim g st H Hb Fr m ∧ RE g xa Hb m env σ ∧ Post g wx σ Fr Hb m (evEs c es env st) fun ws _ Hb' m' H' => ∀ vs, RWs g Hb' m' ws vs → Q vs H'
def tTs (ts : Ts) : TT := fun σ H Q => ∃ env st Hb Fr m, Sim g st H Hb Fr m ∧ RE g xa Hb m env σ ∧ Post g wx σ Fr Hb m (evTs c ts env st) fun b _ _ _ H' => Q b H'
def tO (o : O) : TO := fun σ H Q => ∃ env st Hb Fr m, Sim g st H Hb Fr m ∧ RE g xa Hb m env σ ∧ Post g wx σ Fr Hb m (evO c o env st) fun i _ _ _ H' => Q i H'
/-- a fresh list: its place, the heap ahead of it -/
def tL (l : L) : TE := fun σ H Q => ∃ env st Hb Fr m, Sim g st H Hb Fr m ∧ RE g xa Hb m env σ ∧ Post g wx σ Fr Hb m (evL c l env st) fun ws _ Hb' m' H' => ∀ p vs, H' p = none → RWs g Hb' m' ws vs → ws.length ≤ sizeLine → Q (.ref p) (upd H' p (.lst vs))
end
end Pf
set_option Elab.async false
set_option linter.all false
set_option maxRecDepth 100000
set_option maxHeartbeats 1000000
/-! Pf, part C: when the text is the code's; the syntax's own facts. -/
namespace Pf
open PySem PySem.Spec PyProof.Rows L2

mutual
def deqD : D → D → Bool
  | .non, .non => true
  | .bl a, .bl b => a == b
  | .int a, .int b => decide (a = b)
  | .str a, .str b => decide (a = b)
  | .tup a, .tup b => deqDs a b
  | .lst a, .lst b => deqDs a b
  | _, _ => false
def deqDs : List D → List D → Bool
  | [], [] => true
  | a :: as, b :: bs => deqD a b && deqDs as bs
  | _, _ => false
end
theorem and2 {a b : Bool} (h : (a && b) = true) : a = true ∧ b = true := Bool.and_eq_true_iff.mp h
mutual
theorem deqD_ok : ∀ {a b : D}, deqD a b = true → a = b
  | .non, b, h => by cases b <;> first | rfl | cases h
  | .bl a, b, h => by
    cases b with
    | bl b => rw [eq_of_beq (show (a == b) = true from h)]
    | _ => cases h
  | .int a, b, h => by
    cases b with
    | int b => rw [of_decide_eq_true (show decide (a = b) = true from h)]
    | _ => cases h
  | .str a, b, h => by
    cases b with
    | str b => rw [of_decide_eq_true (show decide (a = b) = true from h)]
    | _ => cases h
  | .tup a, b, h => by
    cases b with
    | tup b => rw [deqDs_ok (show deqDs a b = true from h)]
    | _ => cases h
  | .lst a, b, h => by
    cases b with
    | lst b => rw [deqDs_ok (show deqDs a b = true from h)]
    | _ => cases h
theorem deqDs_ok : ∀ {a b : List D}, deqDs a b = true → a = b
  | [], b, h => by cases b <;> first | rfl | cases h
  | a :: as, b, h => by
    cases b with
    | nil => cases h
    | cons b bs =>
      obtain ⟨h1, h2⟩ := and2 (show (deqD a b && deqDs as bs) = true from h)
      rw [deqD_ok h1, deqDs_ok h2]
end
def deqAg : Ag → Ag → Bool
  | .a i, .a j => decide (i = j)
  | .d x, .d y => deqD x y
  | _, _ => false
def deqAgs : List Ag → List Ag → Bool
  | [], [] => true
  | a :: as, b :: bs => deqAg a b && deqAgs as bs
  | _, _ => false
theorem deqAg_ok {a b : Ag} (h : deqAg a b = true) : a = b := by
  cases a with
  | a i =>
    cases b with
    | a j => rw [of_decide_eq_true (show decide (i = j) = true from h)]
    | d y => cases h
  | d x =>
    cases b with
    | a j => cases h
    | d y => rw [deqD_ok (show deqD x y = true from h)]
theorem deqAgs_ok : ∀ {a b : List Ag}, deqAgs a b = true → a = b
  | [], [], _ => rfl
  | [], _ :: _, h => by cases h
  | _ :: _, [], h => by cases h
  | a :: as, b :: bs, h => by
    obtain ⟨h1, h2⟩ := and2 (show (deqAg a b && deqAgs as bs) = true from h)
    rw [deqAg_ok h1, deqAgs_ok h2]

/-! ### the forms of an expression -/
def isName : Expr → Option Str | .Name x _ => some x | _ => none
def isConst : Expr → Option Const | .Constant c _ _ => some c | _ => none
def isNeg : Expr → Option Expr | .UnaryOp .USub e _ => some e | _ => none
def isNot : Expr → Option Expr | .UnaryOp .Not e _ => some e | _ => none
def isBin : Expr → Option (Expr × Operator × Expr) | .BinOp a o b _ => some (a, o, b) | _ => none
def isCmp : Expr → Option (Expr × CmpOp × Expr) | .Compare a [o] [b] _ => some (a, o, b) | _ => none
def isChn : Expr → Option (Expr × CmpOp × CmpOp × Expr × Expr) | .Compare a [o, o'] [b, c] _ => some (a, o, o', b, c) | _ => none
def isBool1 : Expr → Option Expr | .BoolOp _ [a] _ => some a | _ => none
def isBool2 : Expr → Option (BoolOp × Expr × Expr) | .BoolOp o (a :: b :: r) pos => some (o, a, .BoolOp o (b :: r) pos) | _ => none
def isIf : Expr → Option (Expr × Expr × Expr) | .IfExp c a b _ => some (c, a, b) | _ => none
def isTup : Expr → Option (List Expr) | .Tuple es _ _ => some es | _ => none
def isLst : Expr → Option (List Expr) | .List es _ => some es | _ => none
def isIdx : Expr → Option (Expr × Expr) | .Subscript a b _ => some (a, b) | _ => none
def isSlc : Expr → Option (Expr × Option Expr × Option Expr) | .Subscript a (.Slice lo hi none _) _ => some (a, lo, hi) | _ => none
def isRev : Expr → Option Expr | .Subscript a (.Slice none none (some (.UnaryOp .USub (.Constant (.int 1) _ _) _)) _) _ => some a | _ => none
def isCall : Expr → Option (Str × List Expr × List Keyword) | .Call (.Name x _) es ks _ => some (x, es, ks) | _ => none
def isMeth : Expr → Option (Expr × Str × List Expr) | .Call (.Attribute o m ap) es [] pos => if (ap.endLine == pos.line) = true then some (o, m, es) else none | _ => none
def isAttr : Expr → Option (Expr × Str) | .Attribute o m _ => some (o, m) | _ => none
def isMkx : Expr → Option (Str × Str × Expr × Str) | .Attribute (.Call (.Name x _) [] [⟨some pn, y, _⟩] _) nm _ => some (x, pn, y, nm) | _ => none
def isLc : Expr → Option (Expr × Expr × Expr × List Expr × Scope) | .ListComp e [⟨t, i, fs, 0⟩] sc _ => some (e, t, i, fs, sc) | _ => none
section
variable {e : Expr}
theorem isName_ok {x : Str} (h : isName e = some x) : ∃ p, e = .Name x p := by
  unfold isName at h; split at h <;> first | (cases h; exact ⟨_, rfl⟩) | cases h
theorem isConst_ok {c : Const} (h : isConst e = some c) : ∃ k p, e = .Constant c k p := by
  unfold isConst at h; split at h <;> first | (cases h; exact ⟨_, _, rfl⟩) | cases h
theorem isNeg_ok {a : Expr} (h : isNeg e = some a) : ∃ p, e = .UnaryOp .USub a p := by
  unfold isNeg at h; split at h <;> first | (cases h; exact ⟨_, rfl⟩) | cases h
theorem isNot_ok {a : Expr} (h : isNot e = some a) : ∃ p, e = .UnaryOp .Not a p := by
  unfold isNot at h; split at h <;> first | (cases h; exact ⟨_, rfl⟩) | cases h
theorem isBin_ok {q : Expr × Operator × Expr} (h : isBin e = some q) : ∃ p, e = .BinOp q.1 q.2.1 q.2.2 p := by
  unfold isBin at h; split at h <;> first | (cases h; exact ⟨_, rfl⟩) | cases h
theorem isCmp_ok {q : Expr × CmpOp × Expr} (h : isCmp e = some q) : ∃ p, e = .Compare q.1 [q.2.1] [q.2.2] p := by
  unfold isCmp at h; split at h <;> first | (cases h; exact ⟨_, rfl⟩) | cases h
theorem isChn_ok {q : Expr × CmpOp × CmpOp × Expr × Expr} (h : isChn e = some q) : ∃ p, e = .Compare q.1 [q.2.1, q.2.2.1] [q.2.2.2.1, q.2.2.2.2] p := by
  unfold isChn at h; split at h <;> first | (cases h; exact ⟨_, rfl⟩) | cases h
theorem isBool1_ok {a : Expr} (h : isBool1 e = some a) : ∃ o p, e = .BoolOp o [a] p := by
  unfold isBool1 at h; split at h <;> first | (cases h; exact ⟨_, _, rfl⟩) | cases h
theorem isBool2_ok {q : BoolOp × Expr × Expr} (h : isBool2 e = some q) : ∃ b r p, e = .BoolOp q.1 (q.2.1 :: b :: r) p ∧ q.2.2 = .BoolOp q.1 (b :: r) p := by
  unfold isBool2 at h; split at h <;> first | (cases h; exact ⟨_, _, _, rfl, rfl⟩) | cases h
theorem isIf_ok {q : Expr × Expr × Expr} (h : isIf e = some q) : ∃ p, e = .IfExp q.1 q.2.1 q.2.2 p := by
  unfold isIf at h; split at h <;> first | (cases h; exact ⟨_, rfl⟩) | cases h
theorem isTup_ok {es : List Expr} (h : isTup e = some es) : ∃ k p, e = .Tuple es k p := by
  unfold isTup at h; split at h <;> first | (cases h; exact ⟨_, _, rfl⟩) | cases h
theorem isLst_ok {es : List Expr} (h : isLst e = some es) : ∃ p, e = .List es p := by
  unfold isLst at h; split at h <;> first | (cases h; exact ⟨_, rfl⟩) | cases h
theorem isIdx_ok {q : Expr × Expr} (h : isIdx e = some q) : ∃ p, e = .Subscript q.1 q.2 p := by
  unfold isIdx at h; split at h <;> first | (cases h; exact ⟨_, rfl⟩) | cases h
theorem isSlc_ok {q : Expr × Option Expr × Option Expr} (h : isSlc e = some q) : ∃ p p', e = .Subscript q.1 (.Slice q.2.1 q.2.2 none p') p := by
  unfold isSlc at h; split at h <;> first | (cases h; exact ⟨_, _, rfl⟩) | cases h
theorem isRev_ok {a : Expr} (h : isRev e = some a) : ∃ k p1 p2 p3 p, e = .Subscript a (.Slice none none (some (.UnaryOp .USub (.Constant (.int 1) k p1) p2)) p3) p := by
  unfold isRev at h; split at h <;> first | (cases h; exact ⟨_, _, _, _, _, rfl⟩) | cases h
theorem isCall_ok {q : Str × List Expr × List Keyword} (h : isCall e = some q) : ∃ p p', e = .Call (.Name q.1 p') q.2.1 q.2.2 p := by
  unfold isCall at h; split at h <;> first | (cases h; exact ⟨_, _, rfl⟩) | cases h
theorem isMeth_ok {q : Expr × Str × List Expr} (h : isMeth e = some q) : ∃ ap p, e = .Call (.Attribute q.1 q.2.1 ap) q.2.2 [] p ∧ (ap.endLine == p.line) = true := by
  unfold isMeth at h
  split at h
  · split at h
    · cases h
      exact ⟨_, _, rfl, by assumption⟩
    · cases h
  · cases h
theorem isAttr_ok {q : Expr × Str} (h : isAttr e = some q) : ∃ p, e = .Attribute q.1 q.2 p := by
  unfold isAttr at h; split at h <;> first | (cases h; exact ⟨_, rfl⟩) | cases h
theorem isMkx_ok {q : Str × Str × Expr × Str} (h : isMkx e = some q) : ∃ p kp pos pos2, e = .Attribute (.Call (.Name q.1 p) [] [⟨some q.2.1, q.2.2.1, kp⟩] pos) q.2.2.2 pos2 := by
  unfold isMkx at h; split at h <;> first | (cases h; exact ⟨_, _, _, _, rfl⟩) | cases h
theorem isLc_ok {q : Expr × Expr × Expr × List Expr × Scope} (h : isLc e = some q) : ∃ p, e = .ListComp q.1 [⟨q.2.1, q.2.2.1, q.2.2.2.1, 0⟩] q.2.2.2.2 p := by
  unfold isLc at h; split at h <;> first | (cases h; exact ⟨_, rfl⟩) | cases h
end

/-! ### plain ones -/
def notStar : Expr → Bool | .Starred .. => false | _ => true
def notSet : Expr → Bool | .Set .. => false | _ => true
def notSlice : Expr → Bool | .Slice .. => false | _ => true
/-- its truth is its value's -/
def plainT : Expr → Bool | .Name .. => true | .Call .. => true | .Subscript .. => true | .Attribute .. => true | _ => false
def notCall0 : Expr → Bool | .Call (.Name _ _) [] [] _ => false | _ => true
theorem star_cons {e : Expr} {es : List Expr} {env : PySem.Env} (h : notStar e = true) : starEach (e :: es) env = (false, eval e env) :: starEach es env := by
  cases e <;> first | rfl | cases h
theorem star_any {pos : Pos} {env : PySem.Env} : ∀ {es : List Expr}, es.all notStar = true → (backTo pos (starEach es env)).any (·.1) = false
  | [], _ => rfl
  | e :: es, h => by
    obtain ⟨h1, h2⟩ := and2 (show (notStar e && es.all notStar) = true from h)
    rw [star_cons h1]
    show ((false : Bool) || (backTo pos (starEach es env)).any (·.1)) = false
    rw [star_any h2]
    rfl
theorem star_len {pos : Pos} {env : PySem.Env} : ∀ {es : List Expr}, es.all notStar = true → (backTo pos (starEach es env)).length = es.length
  | [], _ => rfl
  | e :: es, h => by
    obtain ⟨h1, h2⟩ := and2 (show (notStar e && es.all notStar) = true from h)
    rw [star_cons h1]
    show (backTo pos (starEach es env)).length + 1 = es.length + 1
    rw [star_len h2]
theorem star_all {pos : Pos} {env : PySem.Env} : ∀ {es : List Expr}, es.all notStar = true → (backTo pos (starEach es env)).all (fun x => !x.1) = true
  | [], _ => rfl
  | e :: es, h => by
    obtain ⟨h1, h2⟩ := and2 (show (notStar e && es.all notStar) = true from h)
    rw [star_cons h1]
    show ((!false) && (backTo pos (starEach es env)).all (fun x => !x.1)) = true
    rw [star_all h2]
    rfl
theorem set_folded {e : Expr} {env : PySem.Env} (h : notSet e = true) : ∀ x, foldedSetIterable e env x = pure x := by
  intro x
  cases e <;> first | rfl | cases h
theorem set_marks {e : Expr} {op : CmpOp} (h : notSet e = true) : behindInMarks op e = false := by
  cases e <;> first | rfl | cases h
theorem slice_plain {e : Expr} (h : notSlice e = true) : PlainIx e := fun o i => by
  cases e <;> first | rfl | cases h
theorem plainT_ok {e : Expr} {env : PySem.Env} (h : plainT e = true) : ∀ whole, isTrue e env whole = (do let v ← whole; standAt e.pos; holding [v] (truthy v)) := by
  intro whole
  cases e <;> first | rfl | cases h
theorem base_plain {e : Expr} {m : Str} {env : PySem.Env} {whole : Sem Value} (h : notCall0 e = true) : attributeBase e m env whole = whole := by
  unfold attributeBase
  cases e with
  | Call f es ks p =>
    cases f with
    | Name x q =>
      cases es with
      | nil =>
        cases ks with
        | nil => cases h
        | cons _ _ => rfl
      | cons _ _ => rfl
    | _ => rfl
  | _ => rfl
/-- keywords by name -/
def kwOk : List Keyword → List Str → Bool
  | [], [] => true
  | ⟨some n, _, _⟩ :: ks, x :: xs => decide (n = x) && kwOk ks xs
  | _, _ => false
theorem kw_all {pos : Pos} {env : PySem.Env} : ∀ {ks : List Keyword} {xs : List Str}, kwOk ks xs = true → (backToKw pos (keywordEach ks env)).all (·.1.isSome) = true
  | [], _, _ => rfl
  | ⟨some n, v, p⟩ :: ks, [], h => by cases h
  | ⟨some n, v, p⟩ :: ks, x :: xs, h => by
    obtain ⟨h1, h2⟩ := and2 (show (decide (n = x) && kwOk ks xs) = true from h)
    show ((some n).isSome && (backToKw pos (keywordEach ks env)).all (·.1.isSome)) = true
    rw [kw_all h2]
    rfl
  | ⟨none, v, p⟩ :: ks, xs, h => by cases xs <;> cases h
theorem kw_names {pos : Pos} {env : PySem.Env} : ∀ {ks : List Keyword} {xs : List Str}, kwOk ks xs = true → (backToKw pos (keywordEach ks env)).filterMap (·.1) = xs
  | [], [], _ => rfl
  | [], _ :: _, h => by cases h
  | ⟨some n, v, p⟩ :: ks, [], h => by cases h
  | ⟨some n, v, p⟩ :: ks, x :: xs, h => by
    obtain ⟨h1, h2⟩ := and2 (show (decide (n = x) && kwOk ks xs) = true from h)
    have e : n = x := of_decide_eq_true h1
    subst e
    show n :: (backToKw pos (keywordEach ks env)).filterMap (·.1) = n :: xs
    rw [kw_names h2]
  | ⟨none, v, p⟩ :: ks, xs, h => by cases xs <;> cases h
theorem kw_any {pos : Pos} {env : PySem.Env} : ∀ {ks : List Keyword} {xs : List Str}, kwOk ks xs = true → (backToKw pos (keywordEach ks env)).any (·.1.isNone) = false
  | [], _, _ => rfl
  | ⟨some n, v, p⟩ :: ks, [], h => by cases h
  | ⟨some n, v, p⟩ :: ks, x :: xs, h => by
    obtain ⟨h1, h2⟩ := and2 (show (decide (n = x) && kwOk ks xs) = true from h)
    show ((some n).isNone || (backToKw pos (keywordEach ks env)).any (·.1.isNone)) = false
    rw [kw_any h2]
    rfl
  | ⟨none, v, p⟩ :: ks, xs, h => by cases xs <;> cases h
end Pf
set_option Elab.async false
set_option linter.all false
set_option maxRecDepth 100000
set_option maxHeartbeats 1000000
/-! Pf, part D: what the operations ask of the heap. -/
namespace Pf
open PySem PySem.Spec PyProof.Rows L2

mutual
def py : D → PyData
  | .non => .none
  | .bl b => .bool b
  | .int i => .int i
  | .str s => .str ⟨s.toArray⟩
  | .tup xs => .tuple (pys xs)
  | .lst xs => .list (pys xs)
def pys : List D → List PyData
  | [] => []
  | x :: xs => py x :: pys xs
end
mutual
theorem RD.dp {K : PySem.W.Frag} {H : Hp} : ∀ {d : D} {v : V}, RD K H d v → Dp K H v (py d)
  | _, _, .non => .non
  | _, _, .bl b => .bl b
  | _, _, .int i => .int i
  | _, _, .str s => .str _
  | _, _, .tup h r _ => .tup h (RDs.dp r)
  | _, _, .lst h r _ => .lst h (RDs.dp r)
theorem RDs.dp {K : PySem.W.Frag} {H : Hp} : ∀ {ds : List D} {vs : List V}, RDs K H ds vs → DpAll K H vs (pys ds)
  | _, _, .nil => .nil
  | _, _, .cons h t => .cons (RD.dp h) (RDs.dp t)
end
mutual
theorem eqv_py : ∀ (a b : D), PyData.eqv (py a) (py b) = eqv a b
  | .non, b => by cases b <;> simp [py, PyData.eqv, eqv]
  | .bl _, b => by cases b <;> simp [py, PyData.eqv, eqv]
  | .int _, b => by cases b <;> simp [py, PyData.eqv, eqv]
  | .str s, b => by
    cases b with
    | str t =>
      simp only [py, PyData.eqv, eqv]
      by_cases h : s = t
      · subst h
        simp
      · have h1 : (s == t) = false := beq_eq_false_iff_ne.mpr h
        have h2 : ((⟨s.toArray⟩ : Str) == ⟨t.toArray⟩) = false := beq_eq_false_iff_ne.mpr fun e => by
          injection e with e1
          exact h (by simpa using congrArg Array.toList e1)
        rw [h1, h2]
    | _ => simp [py, PyData.eqv, eqv]
  | .tup xs, b => by
    cases b with
    | tup ys => simp only [py, PyData.eqv, eqv]; exact eqvs_py xs ys
    | _ => simp [py, PyData.eqv, eqv]
  | .lst xs, b => by
    cases b with
    | lst ys => simp only [py, PyData.eqv, eqv]; exact eqvs_py xs ys
    | _ => simp [py, PyData.eqv, eqv]
theorem eqvs_py : ∀ (a b : List D), PyData.eqvAll (pys a) (pys b) = eqvs a b
  | [], [] => by simp [pys, PyData.eqvAll, eqvs]
  | [], _ :: _ => by simp [pys, PyData.eqvAll, eqvs]
  | _ :: _, [] => by simp [pys, PyData.eqvAll, eqvs]
  | a :: as, b :: bs => by simp only [pys, PyData.eqvAll, eqvs, eqv_py a b, eqvs_py as bs]
end
mutual
theorem shp_py : ∀ (n : Nat) (d : D), shp n d = true → (py d).canLay0 = true ∧ (py d).depth ≤ n
  | _, .non, _ => by simp [py, PyData.canLay0, PyData.depth]
  | _, .bl _, _ => by simp [py, PyData.canLay0, PyData.depth]
  | _, .int _, _ => by simp [py, PyData.canLay0, PyData.depth]
  | n, .str s, h => by
    have h' : PyData.strOk ⟨s.toArray⟩ = true := by
      cases n <;> simpa only [shp] using h
    simp only [py, PyData.canLay0, PyData.depth]
    exact ⟨h', Nat.zero_le _⟩
  | 0, .tup xs, h => by simp [shp] at h
  | 0, .lst xs, h => by simp [shp] at h
  | n + 1, .tup xs, h => by
    simp only [shp] at h
    obtain ⟨h1, h2⟩ := shps_py n xs h
    simp only [py, PyData.canLay0, PyData.depth]
    exact ⟨h1, Nat.succ_le_succ h2⟩
  | n + 1, .lst xs, h => by
    simp only [shp] at h
    obtain ⟨h1, h2⟩ := shps_py n xs h
    simp only [py, PyData.canLay0, PyData.depth]
    exact ⟨h1, Nat.succ_le_succ h2⟩
theorem shps_py : ∀ (n : Nat) (ds : List D), shps n ds = true → PyData.canLayAll0 (pys ds) = true ∧ PyData.depthAll (pys ds) ≤ n
  | _, [], _ => by simp [pys, PyData.canLayAll0, PyData.depthAll]
  | n, d :: ds, h => by
    simp only [shps] at h
    obtain ⟨h1, h2⟩ := and2 h
    obtain ⟨a1, a2⟩ := shp_py n d h1
    obtain ⟨b1, b2⟩ := shps_py n ds h2
    simp only [pys, PyData.canLayAll0, PyData.depthAll]
    exact ⟨by rw [a1, b1]; rfl, Nat.max_le.mpr ⟨a2, b2⟩⟩
end
theorem shaped_of {d : D} (h : shp 64 d = true) : SeqAt.shaped (py d) = true := by
  obtain ⟨h1, h2⟩ := shp_py 64 d h
  unfold SeqAt.shaped
  rw [h1, decide_eq_true h2]
  rfl
theorem among_py (x : D) : ∀ ys : List D, ((pys ys).any fun z => PyData.eqv z (py x)) = among x ys
  | [] => rfl
  | y :: ys => by
    show (PyData.eqv (py y) (py x) || (pys ys).any fun z => PyData.eqv z (py x)) = (eqv y x || ys.any fun y => eqv y x)
    rw [eqv_py, among_py x ys]
    rfl

/-- in a tuple of data -/
def rInDT (K : PySem.W.Frag) : R2 := fun x y H Q => ∃ d ds, Dp K H x d ∧ Dp K H y (.tuple ds) ∧ SeqAt.shaped d = true ∧ SeqAt.shaped (.tuple ds) = true ∧ Q (.bl (ds.any fun z => PyData.eqv z d)) H
def rNotInDT (K : PySem.W.Frag) : R2 := fun x y H Q => ∃ d ds, Dp K H x d ∧ Dp K H y (.tuple ds) ∧ SeqAt.shaped d = true ∧ SeqAt.shaped (.tuple ds) = true ∧ Q (.bl (!ds.any fun z => PyData.eqv z d)) H
theorem room_inT {A : Around} {d : PyData} {ds : List PyData} (h : SeqAt.shaped d = true) (hu : A.units + 65 < cLine) : A.units + 1 + min (PyData.depthAll ds) d.depth < cLine := by
  have h1 := SeqAt.depth_of_shaped h
  have h2 : min (PyData.depthAll ds) d.depth ≤ d.depth := Nat.min_le_right _ _
  omega
theorem op_inDT {X : L2.Cx} (hu : X.A.units + 65 < cLine) : OpR X (compareOp .In) (rInDT X.K) := by
  intro pins s σ H x y v u Q I rx ry h
  obtain ⟨d, ds, hd, he, sd, se, q⟩ := h
  obtain ⟨as, r1⟩ := Dp.reads I d x v hd rx
  obtain ⟨bs, r2⟩ := Dp.reads I _ y u he ry
  exact SeqAt.in_tuple_reads r2 r1 (by simpa [PyData.canLay0] using SeqAt.canLay_of_shaped se) (SeqAt.canLay_of_shaped sd) (room_inT sd hu) ⟨.bl _, H, I, rfl, q⟩
theorem op_notInDT {X : L2.Cx} (hu : X.A.units + 65 < cLine) : OpR X (compareOp .NotIn) (rNotInDT X.K) := by
  intro pins s σ H x y v u Q I rx ry h
  obtain ⟨d, ds, hd, he, sd, se, q⟩ := h
  obtain ⟨as, r1⟩ := Dp.reads I d x v hd rx
  obtain ⟨bs, r2⟩ := Dp.reads I _ y u he ry
  exact SeqAt.notIn_tuple_reads r2 r1 (by simpa [PyData.canLay0] using SeqAt.canLay_of_shaped se) (SeqAt.canLay_of_shaped sd) (room_inT sd hu) ⟨.bl _, H, I, rfl, q⟩

section
variable {g : Gx} {st : Store} {H Hb Fr : Hp} {m : List Addr} {w : W} {x : V}
/-- a cell by its number -/
theorem cell_at (S : Sim g st H Hb Fr m) {n : Nat} {p : Addr} {c : Cell} (hp : m[n]? = some p) (h : st[n]? = some c) : CellOk g H Hb Fr m p c := S.cell n c p h hp
theorem view_ok (S : Sim g st H Hb Fr m) (r : RW g Hb m w x) {d : D} (h : view st w = some d) : RD g.K H d x := by
  cases w with
  | v d' =>
    have e : d' = d := Option.some.inj h
    subst e
    exact RD.mono S.hb r
  | x c d' => cases h
  | r n =>
    obtain ⟨p, hp, rfl⟩ := r
    have h' : viewC st[n]? = some d := h
    cases hc : st[n]? with
    | none =>
      rw [hc] at h'
      cases h'
    | some c =>
      rw [hc] at h'
      have k := S.cell n c p hc hp
      cases c with
      | live ws =>
        obtain ⟨_, _, vs, h3, h4, h5⟩ := k
        have h2 : (dats ws).map D.lst = some d := h'
        cases hd : dats ws with
        | none =>
          rw [hd] at h2
          cases h2
        | some ds =>
          rw [hd] at h2
          cases h2
          refine .lst (SqL.of h3) ((h4.dats hd).mono S.hb) ?_
          rw [dats_length hd]
          exact h5
      | frz d' =>
        have e : d' = d := Option.some.inj h'
        subst e
        exact k.2.mono S.hb
/-- what items are -/
def Seq (g : Gx) (H Hb : Hp) (m : List Addr) (x : V) (t : Bool) (ws : List W) : Prop :=
  ∃ p vs, x = .ref p ∧ ((t = true ∧ SqT g.K H p vs) ∨ (t = false ∧ SqL g.K H p vs)) ∧ RWs g Hb m ws vs ∧ ws.length ≤ sizeLine
theorem itemsD_ok (e : Same Hb H) {d : D} (r : RD g.K Hb d x) {t : Bool} {ws : List W} (h : itemsD d = some (t, ws)) : Seq g H Hb m x t ws := by
  cases r with
  | tup hs rs hl =>
    have q : (true, _) = (t, ws) := Option.some.inj h
    injection q with e1 e2
    subst e1 e2
    exact ⟨_, _, rfl, .inl ⟨rfl, sqT_mono e hs⟩, RWs.ofD rs, by rw [List.length_map]; exact hl⟩
  | lst hs rs hl =>
    have q : (false, _) = (t, ws) := Option.some.inj h
    injection q with e1 e2
    subst e1 e2
    exact ⟨_, _, rfl, .inr ⟨rfl, e.seq hs⟩, RWs.ofD rs, by rw [List.length_map]; exact hl⟩
  | _ => cases h
theorem items_ok (S : Sim g st H Hb Fr m) (r : RW g Hb m w x) {t : Bool} {ws : List W} (h : items st w = some (t, ws)) : Seq g H Hb m x t ws := by
  cases w with
  | v d => exact itemsD_ok S.hb r h
  | x c d => cases h
  | r n =>
    obtain ⟨p, hp, rfl⟩ := r
    have h' : itemsC st[n]? = some (t, ws) := h
    cases hc : st[n]? with
    | none =>
      rw [hc] at h'
      cases h'
    | some c =>
      rw [hc] at h'
      have k := S.cell n c p hc hp
      cases c with
      | live xs =>
        obtain ⟨_, _, vs, h3, h4, h5⟩ := k
        have q : (false, xs) = (t, ws) := Option.some.inj h'
        injection q with e1 e2
        subst e1 e2
        exact ⟨p, vs, rfl, .inr ⟨rfl, SqL.of h3⟩, h4, h5⟩
      | frz d' => exact itemsD_ok S.hb k.2 h'
/-- the name of a value's type -/
def tyN : D → String
  | .non => "NoneType"
  | .bl _ => "bool"
  | .int _ => "int"
  | .str _ => "str"
  | .tup _ => "tuple"
  | .lst _ => "list"
theorem sqL_ty {K : PySem.W.Frag} {p : Addr} {vs : List V} (h : SqL K H p vs) : TyX K H (.ref p) (.type "list") := by
  rcases h with (h | ⟨o, h⟩) | h
  · exact .base (.lst h)
  · exact .base (.frz h)
  · obtain ⟨o, its, n, h1, h2, _⟩ := h
    exact .kList h1 h2
theorem sqT_ty {K : PySem.W.Frag} {p : Addr} {vs : List V} (h : SqT K H p vs) : TyX K H (.ref p) (.type "tuple") := by
  rcases h with (h | ⟨o, h⟩) | h
  · exact .base (.tup h)
  · exact .fTuple h
  · obtain ⟨o, its, n, h1, h2, _⟩ := h
    exact .kTuple h1 h2
theorem RD.ty {K : PySem.W.Frag} {d : D} {x : V} (r : RD K H d x) : TyX K H x (.type (tyN d)) := by
  cases r with
  | non => exact .base .non
  | bl b => exact .base (.bl b)
  | int i => exact .base (.int i)
  | str s => exact .base (.str _)
  | tup h _ _ => exact sqT_ty h
  | lst h _ _ => exact sqL_ty h
theorem kind_ok (S : Sim g st H Hb Fr m) (r : RW g Hb m w x) {d : D} (h : kindW st w = some d) : TyX g.K H x (.type (tyN d)) := by
  cases w with
  | v d' =>
    have e : d' = d := Option.some.inj h
    subst e
    exact (RD.mono S.hb r).ty
  | x c d' => cases h
  | r n =>
    obtain ⟨p, hp, rfl⟩ := r
    have h' : kindC st[n]? = some d := h
    cases hc : st[n]? with
    | none =>
      rw [hc] at h'
      cases h'
    | some c =>
      rw [hc] at h'
      have k := S.cell n c p hc hp
      cases c with
      | live ws =>
        obtain ⟨_, _, vs, h3, _⟩ := k
        cases h'
        exact .base (.lst h3)
      | frz d' =>
        have e : d' = d := Option.some.inj h'
        subst e
        exact (k.2.mono S.hb).ty
theorem kit_int (d : D) {K : PySem.W.Frag} : PySem.W.kitOne K (.type (tyN d)) (.type "int") = some (isInt d) := by
  cases d <;> (refine kit_ty ?_; dsimp only [tyN, isInt, isBool, isStr]; decide +kernel)
theorem kit_bool (d : D) {K : PySem.W.Frag} : PySem.W.kitOne K (.type (tyN d)) (.type "bool") = some (isBool d) := by
  cases d <;> (refine kit_ty ?_; dsimp only [tyN, isInt, isBool, isStr]; decide +kernel)
theorem kit_str (d : D) {K : PySem.W.Frag} : PySem.W.kitOne K (.type (tyN d)) (.type "str") = some (isStr d) := by
  cases d <;> (refine kit_ty ?_; dsimp only [tyN, isInt, isBool, isStr]; decide +kernel)
theorem kit_list (d : D) {K : PySem.W.Frag} : PySem.W.kitOne K (.type (tyN d)) (.type "list") = some (match d with | .lst _ => true | _ => false) := by
  cases d <;> (refine kit_ty ?_; dsimp only [tyN, isInt, isBool, isStr]; decide +kernel)
theorem kit_tuple (d : D) {K : PySem.W.Frag} : PySem.W.kitOne K (.type (tyN d)) (.type "tuple") = some (match d with | .tup _ => true | _ => false) := by
  cases d <;> (refine kit_ty ?_; dsimp only [tyN, isInt, isBool, isStr]; decide +kernel)
theorem kit_seq (d : D) {K : PySem.W.Frag} : PySem.W.kitAny K (.type (tyN d)) [.type "list", .type "tuple"] = some (isSeq d) := by
  unfold PySem.W.kitAny
  rw [kit_list d]
  unfold PySem.W.kitAny
  rw [kit_tuple d]
  unfold PySem.W.kitAny
  cases d <;> rfl
end
end Pf
set_option Elab.async false
set_option linter.all false
set_option maxRecDepth 100000
set_option maxHeartbeats 1000000
/-! Pf, part E: each construct of an expression keeps the evaluator's word. -/
namespace Pf
open PySem PySem.Spec PyProof.Rows L2

abbrev gX (X : L2.Cx) (cls : Nat → Option (Addr × Str)) : Gx := ⟨X.K, cls⟩

section
variable {g : Gx} {st : Store} {H Hb Fr : Hp} {m : List Addr} {w : W} {x : V}
theorem view_tup (S : Sim g st H Hb Fr m) (r : RW g Hb m w x) {ds : List D} (h : view st w = some (.tup ds)) : RD g.K Hb (.tup ds) x := by
  cases w with
  | v d' =>
    have e : d' = _ := Option.some.inj h
    subst e
    exact r
  | x c d' => cases h
  | r n =>
    obtain ⟨p, hp, rfl⟩ := r
    have h' : viewC st[n]? = some (.tup ds) := h
    cases hc : st[n]? with
    | none =>
      rw [hc] at h'
      cases h'
    | some c =>
      rw [hc] at h'
      have k := S.cell n c p hc hp
      cases c with
      | live ws =>
        have h2 : (dats ws).map D.lst = some (.tup ds) := h'
        cases hd : dats ws <;> rw [hd] at h2 <;> cases h2
      | frz d' =>
        have e : d' = _ := Option.some.inj h'
        subst e
        exact k.2
theorem rd_int {K : PySem.W.Frag} {i : Int} (h : RD K H (.int i) x) : x = .int i := by
  cases h
  rfl
theorem rd_bl {K : PySem.W.Frag} {b : Bool} (h : RD K H (.bl b) x) : x = .bl b := by
  cases h
  rfl
theorem RDs.append {K : PySem.W.Frag} : ∀ {as bs : List D} {xs ys : List V}, RDs K H as xs → RDs K H bs ys → RDs K H (as ++ bs) (xs ++ ys)
  | _, _, _, _, .nil, h => h
  | _, _, _, _, .cons r t, h => .cons r (t.append h)
theorem RDs.take {K : PySem.W.Frag} : ∀ {as : List D} {xs : List V} (n : Nat), RDs K H as xs → RDs K H (as.take n) (xs.take n)
  | _, _, 0, _ => .nil
  | _, _, _ + 1, .nil => .nil
  | _, _, n + 1, .cons r t => .cons r (t.take n)
theorem RDs.drop {K : PySem.W.Frag} : ∀ {as : List D} {xs : List V} (n : Nat), RDs K H as xs → RDs K H (as.drop n) (xs.drop n)
  | _, _, 0, h => h
  | _, _, _ + 1, .nil => .nil
  | _, _, n + 1, .cons _ t => t.drop n
theorem RDs.cut {K : PySem.W.Frag} {as : List D} {xs : List V} (h : RDs K H as xs) (lo hi : Option Int) : RDs K H (Pf.cut as lo hi) (cutV xs lo hi) := by
  unfold Pf.cut cutV
  rw [h.length]
  exact (h.drop _).take _
theorem RWs.cut {ws : List W} {xs : List V} (h : RWs g H m ws xs) (lo hi : Option Int) : RWs g H m (Pf.cut ws lo hi) (cutV xs lo hi) := by
  unfold Pf.cut cutV
  rw [h.length]
  exact (h.drop _).take _
theorem cut_len {α : Type} (xs : List α) (lo hi : Option Int) : (Pf.cut xs lo hi).length ≤ xs.length := by
  unfold Pf.cut
  rw [List.length_take, List.length_drop]
  omega
theorem lim_lt {n : Nat} (h : n ≤ LIM) : n < sizeLine := by
  have h1 : n ≤ 1000000 := h
  rw [sizeLine_eq]
  omega
end

section
variable {α β : Type} {g : Gx} {wx : WX} {σ : L2.St} {Fr H Hb : Hp} {m : List Addr} {st : Store}
theorem Post.now {a : α} {k : α → Store → Hp → List Addr → Hp → Prop} (P : Post g wx σ Fr Hb m (.ok a st) k) (S : Sim g st H Hb Fr m) : k a st Hb m H :=
  P H Hb m S (fun _ _ e => e) (Pre.refl m)
/-- a new thing that never changes is handed on -/
theorem Post.newD {a : α} {k : α → Store → Hp → List Addr → Hp → Prop} (P : Post g wx σ Fr Hb m (.ok a st) k) (S : Sim g st H Hb Fr m) {p : Addr} (hp : H p = none) (o : HO) : k a st (upd Hb p o) m (upd H p o) :=
  P _ _ m (S.newD hp) (Same.new (S.fresh hp)) (Pre.refl m)
theorem Post.stk {k : α → Store → Hp → List Addr → Hp → Prop} (P : Post g wx σ Fr Hb m (.stuck : R α) k) : False := P
end

section
variable {X : L2.Cx} {cls : Nat → Option (Addr × Str)} {xa : Option (Addr × Option Addr × Addr)} {c : Pf.Cx} {wx : WX}
theorem Post.ofO {α : Type} {g : Gx} {σ : L2.St} {Fr Hb H : Hp} {m : List Addr} {o : Option α} {st : Store} {k : α → Store → Hp → List Addr → Hp → Prop} (P : Post g wx σ Fr Hb m (ofO o st) k) (S : Sim g st H Hb Fr m) : ∃ a, o = some a ∧ k a st Hb m H := by
  cases o with
  | none => exact P.elim
  | some a => exact ⟨a, rfl, P.now S⟩
theorem Post.data {g : Gx} {σ : L2.St} {Fr Hb : Hp} {m : List Addr} {o : Option D} {st : Store} {k : W → Store → Hp → List Addr → Hp → Prop} (P : Post g wx σ Fr Hb m (dataS o st) k) : ∃ d, o = some d ∧ Post g wx σ Fr Hb m (.ok (.v d) st) k := by
  cases o with
  | none => exact P.elim
  | some d => exact ⟨d, rfl, P⟩
theorem varO_ok {o : Option (Option W)} {w : W} (h : varO o = some w) : o = some (some w) ∧ ∀ c d, w ≠ .x c d := by
  unfold varO at h
  split at h
  · cases h
    exact ⟨rfl, fun _ _ e => nomatch e⟩
  · cases h
    exact ⟨rfl, fun _ _ e => nomatch e⟩
  · cases h
theorem RV.plain {g : Gx} {xa : Option (Addr × Option Addr × Addr)} {H : Hp} {m : List Addr} {w : W} {v : V} (h : RV g xa H m w v) (n : ∀ c d, w ≠ .x c d) : RW g H m w v := by
  cases w with
  | v d => exact h
  | r n => exact h
  | x c d => exact absurd rfl (n c d)
theorem c_var {i : Nat} {x : Str} {pos : Pos} (hN : X.N[i]? = some x) (hv : Vis X.env.scope x) (hd : (x == ("__debug__" : Str)) = false) (hcd : (x == ("__classdict__" : Str)) = false) : PE X (.Name x pos) (tE (gX X cls) xa c wx (.var i)) :=
  ⟨fun pins s σ H Q I h => (pe_var hN hv hd hcd).run pins s σ H Q I (by
    obtain ⟨env, st, Hb, Fr, m, S, E, P⟩ := h
    rw [evE] at P
    obtain ⟨w, hw, q⟩ := P.ofO S
    obtain ⟨hw, hx⟩ := varO_ok hw
    obtain ⟨v, h1, h2⟩ := E.val i w hw
    exact ⟨v, h1, q v (h2.plain hx)⟩)⟩
theorem c_val {d : D} {v : V} {e : Expr} {c' : E} (hc : ∀ env st, evE c c' env st = .ok (.v d) st) (he : PE X e (tC v)) (hr : ∀ H, RD X.K H d v) : PE X e (tE (gX X cls) xa c wx c') :=
  ⟨fun pins s σ H Q I h => he.run pins s σ H Q I (by
    obtain ⟨env, st, Hb, Fr, m, S, E, P⟩ := h
    rw [hc] at P
    exact P.now S v (hr Hb))⟩
theorem c_neg {a : E} {x : Expr} {pos : Pos} (ha : PE X x (tE (gX X cls) xa c wx a)) : PE X (.UnaryOp .USub x pos) (tE (gX X cls) xa c wx (.neg a)) :=
  ⟨fun pins s σ H Q I h => (pe_un un_neg ha).run pins s σ H Q I (by
    obtain ⟨env, st, Hb, Fr, m, S, E, P⟩ := h
    rw [evE] at P
    refine ⟨env, st, Hb, Fr, m, S, E, P.thn fun w st1 H1 Hb1 m1 S1 e1 p1 P1 v rv => ?_⟩
    cases w with
    | v d =>
      cases d with
      | int i => exact ⟨i, rd_int rv, P1.now S1 _ (RD.int _)⟩
      | _ => exact P1.elim
    | _ => exact P1.elim)⟩
/-- two values, then one step -/
theorem c_two {a b e' : E} {r : R2} {f : W → W → Store → R W} (hf : ∀ env st, evE c e' env st = (evE c a env st).bind fun v st1 => (evE c b env st1).bind fun w st2 => f v w st2) {σ : L2.St} {H : Hp} {Q : VK}
    (hr : ∀ {st : Store} {H Hb Fr : Hp} {m : List Addr} {v w : W} {p q : V}, Sim (gX X cls) st H Hb Fr m → RW (gX X cls) Hb m v p → RW (gX X cls) Hb m w q →
      Post (gX X cls) wx σ Fr Hb m (f v w st) (fun w _ Hb' m' H' => ∀ v, RW (gX X cls) Hb' m' w v → Q v H') → r p q H Q)
    (h : tE (gX X cls) xa c wx e' σ H Q) : tOp r (tE (gX X cls) xa c wx a) (tE (gX X cls) xa c wx b) σ H Q := by
  obtain ⟨env, st, Hb, Fr, m, S, E, P⟩ := h
  rw [hf] at P
  refine ⟨env, st, Hb, Fr, m, S, E, P.thn fun v st1 H1 Hb1 m1 S1 e1 p1 P1 p rv => ?_⟩
  refine ⟨env, st1, Hb1, Fr, m1, S1, E.mono e1 p1, P1.thn fun w st2 H2 Hb2 m2 S2 e2 p2 P2 q rw' => ?_⟩
  exact hr S2 (rv.mono e2 p2) rw' P2
/-- the rule of an operator on data -/
def BinR (op : Bop) (K : PySem.W.Frag) : R2 := match op with
  | .add => fun x y H Q => rI0 (fun i j => .int (i + j)) x y H Q ∨ rCatA K x y H Q
  | .sub => rI0 fun i j => .int (i - j)
  | .mul => rI CMul fun i j => .int (i * j)
  | .fdiv => rI CDiv fun i j => .int (i / j)
  | .mod => rI (fun _ j => 0 < j) fun i j => .int (i % j)
  | .pow => rI CPow fun i j => .int (i ^ j.toNat)
def opOf : Bop → Operator
  | .add => .Add | .sub => .Sub | .mul => .Mult | .fdiv => .FloorDiv | .mod => .Mod | .pow => .Pow
theorem bin_rule (op : Bop) : OpR X (binaryOp (opOf op)) (BinR op X.K) := by
  cases op with
  | add => exact OpR.or op_add op_catA
  | sub => exact op_sub
  | mul => exact op_mul
  | fdiv => exact op_fdiv
  | mod => exact op_mod
  | pow => exact op_pow
theorem small_ok {i : Int} (h : small i = true) : -(2 ^ 64) < i ∧ i < 2 ^ 64 := by
  obtain ⟨h1, h2⟩ := and2 h
  exact ⟨of_decide_eq_true h1, of_decide_eq_true h2⟩
theorem c_bin {op : Bop} {a b : E} {x y : Expr} {pos : Pos} (ha : PE X x (tE (gX X cls) xa c wx a)) (hb : PE X y (tE (gX X cls) xa c wx b)) : PE X (.BinOp x (opOf op) y pos) (tE (gX X cls) xa c wx (.bin op a b)) :=
  ⟨fun pins s σ H Q I h => (pe_op (bin_rule op) ha hb).run pins s σ H Q I (by
    refine c_two (f := binS op) (fun env st => by rw [evE]) (fun {st H Hb Fr m v w p q} S rv rw' P => ?_) h
    obtain ⟨d, hb, P⟩ := P.data
    cases hv : view st v with
    | none =>
      rw [hv] at hb
      cases hb
    | some dx =>
      cases hw : view st w with
      | none =>
        rw [hv, hw] at hb
        cases hb
      | some dy =>
        rw [hv, hw] at hb
        have r1 := view_ok S rv hv
        have r2 := view_ok S rw' hw
        have hb : binD op dx dy = some d := hb
        revert hb
        have go : binD op dx dy = some d → BinR op X.K p q H Q := by
          intro hb
          cases dx with
          | int i =>
            cases dy with
            | int j =>
              have e1 := rd_int r1
              have e2 := rd_int r2
              cases op with
              | add =>
                cases hb
                exact .inl ⟨i, j, e1, e2, P.now S _ (RD.int _)⟩
              | sub =>
                cases hb
                exact ⟨i, j, e1, e2, P.now S _ (RD.int _)⟩
              | mul =>
                have hb : (if (small i || small j) = true then some (D.int (i * j)) else none) = some d := hb
                by_cases hs : (small i || small j) = true
                · rw [if_pos hs] at hb
                  cases hb
                  refine ⟨i, j, e1, e2, ?_, P.now S _ (RD.int _)⟩
                  rcases Bool.or_eq_true_iff.mp hs with z | z
                  · exact .inl (small_ok z)
                  · exact .inr (small_ok z)
                · rw [if_neg hs] at hb
                  cases hb
              | fdiv =>
                have hb : (if (decide (0 < j) && decide (j < 1073741824)) = true then some (D.int (i / j)) else none) = some d := hb
                by_cases hs : (decide (0 < j) && decide (j < 1073741824)) = true
                · rw [if_pos hs] at hb
                  cases hb
                  obtain ⟨z1, z2⟩ := and2 hs
                  exact ⟨i, j, e1, e2, ⟨of_decide_eq_true z1, of_decide_eq_true z2⟩, P.now S _ (RD.int _)⟩
                · rw [if_neg hs] at hb
                  cases hb
              | mod =>
                have hb : (if decide (0 < j) = true then some (D.int (i % j)) else none) = some d := hb
                by_cases hs : decide (0 < j) = true
                · rw [if_pos hs] at hb
                  cases hb
                  exact ⟨i, j, e1, e2, of_decide_eq_true hs, P.now S _ (RD.int _)⟩
                · rw [if_neg hs] at hb
                  cases hb
              | pow =>
                have hb : (if (decide (0 ≤ j) && (decide (j ≤ 1000) && decide (i.natAbs < 2 ^ 64))) = true then some (D.int (i ^ j.toNat)) else none) = some d := hb
                by_cases hs : (decide (0 ≤ j) && (decide (j ≤ 1000) && decide (i.natAbs < 2 ^ 64))) = true
                · rw [if_pos hs] at hb
                  cases hb
                  obtain ⟨z1, z2⟩ := and2 hs
                  obtain ⟨z2, z3⟩ := and2 z2
                  have z2 : j ≤ 1000 := of_decide_eq_true z2
                  exact ⟨i, j, e1, e2, ⟨of_decide_eq_true z1, by omega, of_decide_eq_true z3⟩, P.now S _ (RD.int _)⟩
                · rw [if_neg hs] at hb
                  cases hb
            | _ => cases op <;> cases hb
          | tup ds =>
            cases dy with
            | tup es =>
              cases op with
              | add =>
                have hb : (if ds.length + es.length ≤ LIM then some (D.tup (ds ++ es)) else none) = some d := hb
                by_cases hs : ds.length + es.length ≤ LIM
                · rw [if_pos hs] at hb
                  cases hb
                  have t1 := view_tup S rv hv
                  have t2 := view_tup S rw' hw
                  cases t1 with
                  | @tup a1 vs1 _ s1 d1 l1 =>
                    cases t2 with
                    | @tup a2 vs2 _ s2 d2 l2 =>
                      have n1 := d1.length
                      have n2 := d2.length
                      refine .inr ⟨a1, a2, vs1, vs2, rfl, rfl, sqT_mono S.hb s1, sqT_mono S.hb s2, by rw [← n1, ← n2]; exact Nat.le_of_lt (lim_lt hs), fun ez => ?_, fun _ ez => ?_, fun _ _ p hp => ?_⟩
                      · refine P.now S _ ?_
                        have e0 : ds = [] := List.eq_nil_of_length_eq_zero (by rw [n1, ez]; rfl)
                        subst e0
                        exact RD.tup s2 d2 l2
                      · refine P.now S _ ?_
                        have e0 : es = [] := List.eq_nil_of_length_eq_zero (by rw [n2, ez]; rfl)
                        subst e0
                        rw [List.append_nil]
                        exact RD.tup s1 d1 l1
                      · refine P.newD S hp _ _ ?_
                        exact RD.tup (SqT.of upd_same) ((d1.append d2).mono (Same.new (S.fresh hp))) (by rw [List.length_append]; exact Nat.le_of_lt (lim_lt hs))
                · rw [if_neg hs] at hb
                  cases hb
              | _ => cases hb
            | _ => cases op <;> cases hb
          | _ => cases op <;> cases dy <;> cases hb
        exact go)⟩

/-! ### comparisons -/
def copOf : Cop → CmpOp
  | .eq => .Eq | .ne => .NotEq | .lt => .Lt | .le => .LtE | .gt => .Gt | .ge => .GtE | .inn => .In | .nin => .NotIn | .isn => .Is | .nisn => .IsNot
def CmpR (op : Cop) (K : PySem.W.Frag) : R2 := match op with
  | .eq => rEqD K
  | .ne => rNeD K
  | .lt => rI0 fun i j => .bl (decide (i < j))
  | .le => rI0 fun i j => .bl (decide (i ≤ j))
  | .gt => rI0 fun i j => .bl (decide (j < i))
  | .ge => rI0 fun i j => .bl (decide (j ≤ i))
  | .inn => fun x y H Q => rInD K x y H Q ∨ rInDT K x y H Q
  | .nin => fun x y H Q => rNotInD K x y H Q ∨ rNotInDT K x y H Q
  | .isn => fun x y H Q => y = .non ∧ Q (.bl (decide (x = .non))) H
  | .nisn => fun x y H Q => y = .non ∧ Q (.bl (!decide (x = .non))) H
theorem cmp_rule (op : Cop) (hu : X.A.units + 65 < cLine) : OpR X (compareOp (copOf op)) (CmpR op X.K) := by
  have hu' : X.A.units + 64 < cLine := by omega
  cases op with
  | eq => exact op_eqD hu'
  | ne => exact op_neD hu'
  | lt => exact op_lt
  | le => exact op_le
  | gt => exact op_gt
  | ge => exact op_ge
  | inn => exact OpR.or (op_inD hu) (op_inDT hu)
  | nin => exact OpR.or (op_notInD hu) (op_notInDT hu)
  | isn => exact op_isN
  | nisn => exact op_notN
theorem non_iff {g : Gx} {Hb : Hp} {m : List Addr} {w : W} {p : V} (r : RW g Hb m w p) : decide (p = .non) = isNon w := by
  cases w with
  | v d => cases r <;> rfl
  | r n =>
    obtain ⟨a, _, rfl⟩ := r
    rfl
  | x c d => exact r.elim
theorem non_of {g : Gx} {Hb : Hp} {m : List Addr} {w : W} {p : V} (r : RW g Hb m w p) (h : isNon w = true) : p = .non := of_decide_eq_true ((non_iff r).trans h)
theorem cmpD_core {op : Cop} {K : PySem.W.Frag} {H : Hp} {a b : D} {p q : V} {k : Bool} {Q : VK} (h : cmpD op a b = some k) (ra : RD K H a p) (rb : RD K H b q) (hq : Q (.bl k) H) : CmpR op K p q H Q := by
  have ok : ∀ {a b : D} {t u : Bool}, (if okEq a b = true then some t else none) = some u → SeqAt.shaped (py a) = true ∧ SeqAt.shaped (py b) = true ∧ t = u := fun {a b t u} z => by
    by_cases hs : okEq a b = true
    · rw [if_pos hs] at z
      obtain ⟨z1, z2⟩ := and2 hs
      exact ⟨shaped_of z1, shaped_of z2, Option.some.inj z⟩
    · rw [if_neg hs] at z
      cases z
  have int2 : ∀ {f : Int → Int → V} {i j : Int}, a = .int i → b = .int j → Q (f i j) H → rI0 f p q H Q := fun {f i j} e1 e2 z => by
    subst e1 e2
    exact ⟨i, j, rd_int ra, rd_int rb, z⟩
  cases op with
  | eq =>
    obtain ⟨s1, s2, e⟩ := ok (show (if okEq a b = true then some (eqv a b) else none) = some k from h)
    subst e
    exact ⟨py a, py b, ra.dp, rb.dp, s1, s2, by rw [eqv_py]; exact hq⟩
  | ne =>
    obtain ⟨s1, s2, e⟩ := ok (show (if okEq a b = true then some (!eqv a b) else none) = some k from h)
    subst e
    exact ⟨py a, py b, ra.dp, rb.dp, s1, s2, by rw [eqv_py]; exact hq⟩
  | inn =>
    cases b with
    | lst ys =>
      obtain ⟨s1, s2, e⟩ := ok (show (if okEq a (.lst ys) = true then some (among a ys) else none) = some k from h)
      subst e
      exact .inl ⟨py a, pys ys, ra.dp, rb.dp, s1, s2, by rw [among_py]; exact hq⟩
    | tup ys =>
      obtain ⟨s1, s2, e⟩ := ok (show (if okEq a (.tup ys) = true then some (among a ys) else none) = some k from h)
      subst e
      exact .inr ⟨py a, pys ys, ra.dp, rb.dp, s1, s2, by rw [among_py]; exact hq⟩
    | _ => cases a <;> cases h
  | nin =>
    cases b with
    | lst ys =>
      obtain ⟨s1, s2, e⟩ := ok (show (if okEq a (.lst ys) = true then some (!among a ys) else none) = some k from h)
      subst e
      exact .inl ⟨py a, pys ys, ra.dp, rb.dp, s1, s2, by rw [among_py]; exact hq⟩
    | tup ys =>
      obtain ⟨s1, s2, e⟩ := ok (show (if okEq a (.tup ys) = true then some (!among a ys) else none) = some k from h)
      subst e
      exact .inr ⟨py a, pys ys, ra.dp, rb.dp, s1, s2, by rw [among_py]; exact hq⟩
    | _ => cases a <;> cases h
  | lt =>
    cases a <;> cases b <;> first | (cases h; exact int2 rfl rfl hq) | cases h
  | le =>
    cases a <;> cases b <;> first | (cases h; exact int2 rfl rfl hq) | cases h
  | gt =>
    cases a <;> cases b <;> first | (cases h; exact int2 rfl rfl hq) | cases h
  | ge =>
    cases a <;> cases b <;> first | (cases h; exact int2 rfl rfl hq) | cases h
  | isn => cases a <;> cases b <;> cases h
  | nisn => cases a <;> cases b <;> cases h
theorem cmp_core {op : Cop} {g : Gx} {st : Store} {H Hb Fr : Hp} {m : List Addr} {v w : W} {p q : V} {k : Bool} {Q : VK} (S : Sim g st H Hb Fr m) (rv : RW g Hb m v p) (rw' : RW g Hb m w q)
    (h : cmpW op st v w = some k) (hq : Q (.bl k) H) : CmpR op g.K p q H Q := by
  have go : (match view st v, view st w with
    | some x, some y => cmpD op x y
    | _, _ => none) = some k → CmpR op g.K p q H Q := fun z => by
    cases hv : view st v with
    | none => rw [hv] at z; cases z
    | some a =>
      cases hw : view st w with
      | none => rw [hv, hw] at z; cases z
      | some b =>
        rw [hv, hw] at z
        exact cmpD_core z (view_ok S rv hv) (view_ok S rw' hw) hq
  cases op with
  | isn =>
    have z : (if isNon w = true then some (isNon v) else none) = some k := h
    by_cases hn : isNon w = true
    · rw [if_pos hn] at z
      cases z
      exact ⟨non_of rw' hn, by rw [non_iff rv]; exact hq⟩
    · rw [if_neg hn] at z
      cases z
  | nisn =>
    have z : (if isNon w = true then some (!isNon v) else none) = some k := h
    by_cases hn : isNon w = true
    · rw [if_pos hn] at z
      cases z
      exact ⟨non_of rw' hn, by rw [non_iff rv]; exact hq⟩
    · rw [if_neg hn] at z
      cases z
  | _ => exact go h
theorem c_cmp {op : Cop} {a b : E} {x y : Expr} {pos : Pos} (hu : X.A.units + 65 < cLine) (hs : notSet y = true) (ha : PE X x (tE (gX X cls) xa c wx a)) (hb : PE X y (tE (gX X cls) xa c wx b)) :
    PE X (.Compare x [copOf op] [y] pos) (tE (gX X cls) xa c wx (.cmp op a b)) :=
  ⟨fun pins s σ H Q I h => (pe_cmpR (cmp_rule op hu) ha hb (set_marks hs)).run pins s σ H Q I (by
    refine c_two (f := cmpS op) (fun env st => by rw [evE]) (fun {st H Hb Fr m v w p q} S rv rw' P => ?_) h
    obtain ⟨d, hd, P⟩ := P.data
    cases hk : cmpW op st v w with
    | none => rw [hk] at hd; cases hd
    | some k =>
      rw [hk] at hd
      cases hd
      exact cmp_core S rv rw' hk (P.now S _ (RD.bl _)))⟩
theorem t_cmp {op : Cop} {a b : E} {x y : Expr} {pos : Pos} (hu : X.A.units + 65 < cLine) (hs : notSet y = true) (ha : PE X x (tE (gX X cls) xa c wx a)) (hb : PE X y (tE (gX X cls) xa c wx b)) :
    PT X (.Compare x [copOf op] [y] pos) (tT (gX X cls) xa c wx (.cmp op a b)) :=
  ⟨fun pins s σ H Q I h => (pt_cmpR (cmp_rule op hu) ha hb (set_marks hs)).run pins s σ H Q I (by
    obtain ⟨env, st, Hb, Fr, m, S, E, P⟩ := h
    rw [evT] at P
    refine ⟨env, st, Hb, Fr, m, S, E, P.thn fun v st1 H1 Hb1 m1 S1 e1 p1 P1 p rv => ?_⟩
    refine ⟨env, st1, Hb1, Fr, m1, S1, E.mono e1 p1, P1.thn fun w st2 H2 Hb2 m2 S2 e2 p2 P2 q rw' => ?_⟩
    obtain ⟨k, hk, P2⟩ := P2.ofO S2
    exact cmp_core S2 (rv.mono e2 p2) rw' hk ⟨k, rfl, P2⟩)⟩
theorem last_marks {op op' : CmpOp} {b c : Expr} (h : notSet c = true) : lastMarks [op, op'] [b, c] = false := by
  show behindInMarks op' c = false
  exact set_marks h
theorem c_chn {op op' : Cop} {a b d : E} {x y z : Expr} {pos : Pos} (hu : X.A.units + 65 < cLine) (hs : notSet z = true) (ha : PE X x (tE (gX X cls) xa c wx a)) (hb : PE X y (tE (gX X cls) xa c wx b)) (hd : PE X z (tE (gX X cls) xa c wx d)) :
    PE X (.Compare x [copOf op, copOf op'] [y, z] pos) (tE (gX X cls) xa c wx (.chn op op' a b d)) :=
  ⟨fun pins s σ H Q I h => (pe_chain (cmp_rule op hu) (cmp_rule op' hu) ha hb hd (last_marks hs)).run pins s σ H Q I (by
    obtain ⟨env, st, Hb, Fr, m, S, E, P⟩ := h
    rw [evE] at P
    refine ⟨env, st, Hb, Fr, m, S, E, P.thn fun v st1 H1 Hb1 m1 S1 e1 p1 P1 p rv => ?_⟩
    refine ⟨env, st1, Hb1, Fr, m1, S1, E.mono e1 p1, P1.thn fun w st2 H2 Hb2 m2 S2 e2 p2 P2 q rw' => ?_⟩
    cases hk : cmpW op st2 v w with
    | none =>
      rw [hk] at P2
      exact P2.elim
    | some k =>
      rw [hk] at P2
      refine cmp_core S2 (rv.mono e2 p2) rw' hk ⟨k, rfl, ?_⟩
      cases k with
      | false =>
        rw [if_neg Bool.false_ne_true]
        exact Post.now P2 S2 _ (RD.bl _)
      | true =>
        rw [if_pos rfl]
        refine ⟨env, st2, Hb2, Fr, m2, S2, E.mono (e1.trans e2) (p1.trans p2), Post.thn P2 fun u st3 H3 Hb3 m3 S3 e3 p3 P3 r ru => ?_⟩
        obtain ⟨dd, hdd, P3⟩ := P3.data
        cases hk2 : cmpW op' st3 w u with
        | none => rw [hk2] at hdd; cases hdd
        | some k2 =>
          rw [hk2] at hdd
          cases hdd
          exact cmp_core S3 (rw'.mono e3 p3) ru hk2 (P3.now S3 _ (RD.bl _)))⟩
theorem t_chn {op op' : Cop} {a b d : E} {x y z : Expr} {pos : Pos} (hu : X.A.units + 65 < cLine) (hs : notSet z = true) (ha : PE X x (tE (gX X cls) xa c wx a)) (hb : PE X y (tE (gX X cls) xa c wx b)) (hd : PE X z (tE (gX X cls) xa c wx d)) :
    PT X (.Compare x [copOf op, copOf op'] [y, z] pos) (tT (gX X cls) xa c wx (.chn op op' a b d)) :=
  ⟨fun pins s σ H Q I h => (pt_chain (cmp_rule op hu) (cmp_rule op' hu) ha hb hd (last_marks hs)).run pins s σ H Q I (by
    obtain ⟨env, st, Hb, Fr, m, S, E, P⟩ := h
    rw [evT] at P
    refine ⟨env, st, Hb, Fr, m, S, E, P.thn fun v st1 H1 Hb1 m1 S1 e1 p1 P1 p rv => ?_⟩
    refine ⟨env, st1, Hb1, Fr, m1, S1, E.mono e1 p1, P1.thn fun w st2 H2 Hb2 m2 S2 e2 p2 P2 q rw' => ?_⟩
    cases hk : cmpW op st2 v w with
    | none =>
      rw [hk] at P2
      exact P2.elim
    | some k =>
      rw [hk] at P2
      refine cmp_core S2 (rv.mono e2 p2) rw' hk ⟨k, rfl, ?_⟩
      cases k with
      | false =>
        rw [if_neg Bool.false_ne_true]
        exact ⟨false, rfl, Post.now P2 S2⟩
      | true =>
        rw [if_pos rfl]
        refine ⟨env, st2, Hb2, Fr, m2, S2, E.mono (e1.trans e2) (p1.trans p2), Post.thn P2 fun u st3 H3 Hb3 m3 S3 e3 p3 P3 r ru => ?_⟩
        obtain ⟨k2, hk2, P3⟩ := P3.ofO S3
        exact cmp_core S3 (rw'.mono e3 p3) ru hk2 ⟨k2, rfl, P3⟩)⟩

/-! ### truth -/
theorem bool_of {g : Gx} {Hb : Hp} {m : List Addr} {w : W} {p : V} {k : Bool} (r : RW g Hb m w p) (h : boolOf w = some k) : p = .bl k := by
  cases w with
  | v d =>
    cases d with
    | bl b =>
      cases h
      exact rd_bl r
    | _ => cases h
  | _ => cases h
theorem int_of {g : Gx} {Hb : Hp} {m : List Addr} {w : W} {p : V} {i : Int} (r : RW g Hb m w p) (h : intOf w = some i) : p = .int i := by
  cases w with
  | v d =>
    cases d with
    | int b =>
      cases h
      exact rd_int r
    | _ => cases h
  | _ => cases h
theorem c_not {a : E} {x : Expr} {pos : Pos} (ha : PE X x (tE (gX X cls) xa c wx a)) : PE X (.UnaryOp .Not x pos) (tE (gX X cls) xa c wx (.nott a)) :=
  ⟨fun pins s σ H Q I h => (pe_not ha).run pins s σ H Q I (by
    obtain ⟨env, st, Hb, Fr, m, S, E, P⟩ := h
    rw [evE] at P
    refine ⟨env, st, Hb, Fr, m, S, E, P.thn fun w st1 H1 Hb1 m1 S1 e1 p1 P1 v rv => ?_⟩
    obtain ⟨d, hd, P1⟩ := Post.data P1
    cases hk : boolOf w with
    | none => rw [hk] at hd; cases hd
    | some k =>
      rw [hk] at hd
      cases hd
      exact ⟨k, bool_of rv hk, P1.now S1 _ (RD.bl _)⟩)⟩
theorem c_and {a b : E} {x y : Expr} {r : List Expr} {pos : Pos} (ha : PE X x (tE (gX X cls) xa c wx a)) (hb : PE X (.BoolOp .And (y :: r) pos) (tE (gX X cls) xa c wx b)) :
    PE X (.BoolOp .And (x :: y :: r) pos) (tE (gX X cls) xa c wx (.andd a b)) :=
  ⟨fun pins s σ H Q I h => (pe_and ha hb).run pins s σ H Q I (by
    obtain ⟨env, st, Hb, Fr, m, S, E, P⟩ := h
    rw [evE] at P
    refine ⟨env, st, Hb, Fr, m, S, E, P.thn fun w st1 H1 Hb1 m1 S1 e1 p1 P1 v rv => ?_⟩
    cases hk : boolOf w with
    | none =>
      rw [hk] at P1
      exact P1.elim
    | some k =>
      rw [hk] at P1
      refine ⟨k, bool_of rv hk, ?_⟩
      cases k with
      | false =>
        rw [if_neg Bool.false_ne_true]
        exact Post.now P1 S1 _ (RD.bl _)
      | true =>
        rw [if_pos rfl]
        exact ⟨env, st1, Hb1, Fr, m1, S1, E.mono e1 p1, P1⟩)⟩
theorem c_or {a b : E} {x y : Expr} {r : List Expr} {pos : Pos} (ha : PE X x (tE (gX X cls) xa c wx a)) (hb : PE X (.BoolOp .Or (y :: r) pos) (tE (gX X cls) xa c wx b)) :
    PE X (.BoolOp .Or (x :: y :: r) pos) (tE (gX X cls) xa c wx (.orr a b)) :=
  ⟨fun pins s σ H Q I h => (pe_or ha hb).run pins s σ H Q I (by
    obtain ⟨env, st, Hb, Fr, m, S, E, P⟩ := h
    rw [evE] at P
    refine ⟨env, st, Hb, Fr, m, S, E, P.thn fun w st1 H1 Hb1 m1 S1 e1 p1 P1 v rv => ?_⟩
    cases hk : boolOf w with
    | none =>
      rw [hk] at P1
      exact P1.elim
    | some k =>
      rw [hk] at P1
      refine ⟨k, bool_of rv hk, ?_⟩
      cases k with
      | true =>
        rw [if_pos rfl]
        exact Post.now P1 S1 _ (RD.bl _)
      | false =>
        rw [if_neg Bool.false_ne_true]
        exact ⟨env, st1, Hb1, Fr, m1, S1, E.mono e1 p1, P1⟩)⟩
theorem c_one {a : E} {x : Expr} {o : BoolOp} {pos : Pos} (ha : PE X x (tE (gX X cls) xa c wx a)) : PE X (.BoolOp o [x] pos) (tE (gX X cls) xa c wx (.one a)) :=
  ⟨fun pins s σ H Q I h => (pe_one ha).run pins s σ H Q I (by
    obtain ⟨env, st, Hb, Fr, m, S, E, P⟩ := h
    rw [evE] at P
    exact ⟨env, st, Hb, Fr, m, S, E, P⟩)⟩
theorem c_ife {t : T} {a b : E} {x y z : Expr} {pos : Pos} (ht : PT X x (tT (gX X cls) xa c wx t)) (ha : PE X y (tE (gX X cls) xa c wx a)) (hb : PE X z (tE (gX X cls) xa c wx b)) :
    PE X (.IfExp x y z pos) (tE (gX X cls) xa c wx (.ife t a b)) :=
  ⟨fun pins s σ H Q I h => (pe_ifExp ht ha hb).run pins s σ H Q I (by
    obtain ⟨env, st, Hb, Fr, m, S, E, P⟩ := h
    rw [evE] at P
    refine ⟨env, st, Hb, Fr, m, S, E, P.thn fun k st1 H1 Hb1 m1 S1 e1 p1 P1 => ?_⟩
    cases k with
    | true =>
      rw [if_pos rfl]
      exact ⟨env, st1, Hb1, Fr, m1, S1, E.mono e1 p1, P1⟩
    | false =>
      rw [if_neg Bool.false_ne_true]
      exact ⟨env, st1, Hb1, Fr, m1, S1, E.mono e1 p1, P1⟩)⟩
theorem t_vv {a : E} {x : Expr} (hp : plainT x = true) (ha : PE X x (tE (gX X cls) xa c wx a)) : PT X x (tT (gX X cls) xa c wx (.vv a)) :=
  ⟨fun pins s σ H Q I h => (pt_val ha (plainT_ok hp)).run pins s σ H Q I (by
    obtain ⟨env, st, Hb, Fr, m, S, E, P⟩ := h
    rw [evT] at P
    refine ⟨env, st, Hb, Fr, m, S, E, P.thn fun w st1 H1 Hb1 m1 S1 e1 p1 P1 v rv => ?_⟩
    obtain ⟨k, hk, q⟩ := P1.ofO S1
    exact ⟨k, bool_of rv hk, q⟩)⟩
theorem t_not {a : T} {x : Expr} {pos : Pos} (ha : PT X x (tT (gX X cls) xa c wx a)) : PT X (.UnaryOp .Not x pos) (tT (gX X cls) xa c wx (.nott a)) :=
  ⟨fun pins s σ H Q I h => (pt_not ha).run pins s σ H Q I (by
    obtain ⟨env, st, Hb, Fr, m, S, E, P⟩ := h
    rw [evT] at P
    exact ⟨env, st, Hb, Fr, m, S, E, P.thn fun k st1 H1 Hb1 m1 S1 e1 p1 P1 => Post.now P1 S1⟩)⟩
theorem t_and {a b : T} {x y : Expr} {r : List Expr} {pos : Pos} (ha : PT X x (tT (gX X cls) xa c wx a)) (hb : PW X (.BoolOp .And (y :: r) pos) (tT (gX X cls) xa c wx b)) :
    PW X (.BoolOp .And (x :: y :: r) pos) (tT (gX X cls) xa c wx (.andd a b)) :=
  ⟨fun whole pins s σ H Q I h => (pw_and ha hb).run whole pins s σ H Q I (by
    obtain ⟨env, st, Hb, Fr, m, S, E, P⟩ := h
    rw [evT] at P
    refine ⟨env, st, Hb, Fr, m, S, E, P.thn fun k st1 H1 Hb1 m1 S1 e1 p1 P1 => ?_⟩
    cases k with
    | false =>
      rw [if_neg Bool.false_ne_true]
      exact Post.now P1 S1
    | true =>
      rw [if_pos rfl]
      exact ⟨env, st1, Hb1, Fr, m1, S1, E.mono e1 p1, P1⟩)⟩
theorem t_or {a b : T} {x y : Expr} {r : List Expr} {pos : Pos} (ha : PT X x (tT (gX X cls) xa c wx a)) (hb : PW X (.BoolOp .Or (y :: r) pos) (tT (gX X cls) xa c wx b)) :
    PW X (.BoolOp .Or (x :: y :: r) pos) (tT (gX X cls) xa c wx (.orr a b)) :=
  ⟨fun whole pins s σ H Q I h => (pw_or ha hb).run whole pins s σ H Q I (by
    obtain ⟨env, st, Hb, Fr, m, S, E, P⟩ := h
    rw [evT] at P
    refine ⟨env, st, Hb, Fr, m, S, E, P.thn fun k st1 H1 Hb1 m1 S1 e1 p1 P1 => ?_⟩
    cases k with
    | true =>
      rw [if_pos rfl]
      exact Post.now P1 S1
    | false =>
      rw [if_neg Bool.false_ne_true]
      exact ⟨env, st1, Hb1, Fr, m1, S1, E.mono e1 p1, P1⟩)⟩
theorem t_one {a : T} {x : Expr} {o : BoolOp} {pos : Pos} (ha : PT X x (tT (gX X cls) xa c wx a)) : PW X (.BoolOp o [x] pos) (tT (gX X cls) xa c wx (.one a)) := by
  have go : PW X (.BoolOp o [x] pos) (tT (gX X cls) xa c wx a) := by
    cases o with
    | And => exact pw_and1 ha
    | Or => exact pw_or1 ha
  exact ⟨fun whole pins s σ H Q I h => go.run whole pins s σ H Q I (by
    obtain ⟨env, st, Hb, Fr, m, S, E, P⟩ := h
    rw [evT] at P
    exact ⟨env, st, Hb, Fr, m, S, E, P⟩)⟩
end
end Pf
set_option Elab.async false
set_option linter.all false
set_option maxRecDepth 100000
set_option maxHeartbeats 1000000
/-! Pf, part F: displays, places, slices, lists. -/
namespace Pf
open PySem PySem.Spec PyProof.Rows L2

theorem R.bind_ok {α β : Type} {r : R α} {f : α → Store → R β} {b : β} {st : Store} (h : r.bind f = .ok b st) : ∃ a st1, r = .ok a st1 ∧ f a st1 = .ok b st := by
  cases r with
  | ok a st1 => exact ⟨a, st1, rfl, h⟩
  | exc c d st1 => cases h
  | stuck => cases h
def esLen : Es → Nat
  | .nil => 0
  | .cons _ es => esLen es + 1
theorem evEs_len {c : Pf.Cx} : ∀ {es : Es} {env : Env} {st st' : Store} {ws : List W}, evEs c es env st = .ok ws st' → ws.length = esLen es
  | .nil, env, st, st', ws, h => by
    rw [evEs] at h
    cases h
    rfl
  | .cons e es, env, st, st', ws, h => by
    rw [evEs] at h
    obtain ⟨w, st1, h1, h2⟩ := R.bind_ok h
    obtain ⟨ws', st2, h3, h4⟩ := R.bind_ok h2
    cases h4
    rw [List.length_cons, evEs_len h3]
    rfl
section
variable {α β : Type} {g : Gx} {wx : WX} {σ : L2.St} {Fr Hb : Hp} {m : List Addr} {k : β → Store → Hp → List Addr → Hp → Prop}
theorem Post.thnE {r : R α} {f : α → Store → R β} {k' : α → Store → Hp → List Addr → Hp → Prop} (h : Post g wx σ Fr Hb m (r.bind f) k)
    (q : ∀ a st H' Hb' m', r = .ok a st → Sim g st H' Hb' Fr m' → Same Hb Hb' → Pre m m' → Post g wx σ Fr Hb' m' (f a st) k → k' a st Hb' m' H') : Post g wx σ Fr Hb m r k' := by
  cases r with
  | ok a st => exact fun H' Hb' m' S e p => q a st H' Hb' m' rfl S e p (Post.later (r := f a st) h e p)
  | exc c d st => exact h
  | stuck => exact h
end
theorem at_get {α : Type} {xs : List α} {i : Int} {x : α} (h : L2.atI xs i = some x) : ∃ j, L2.ixN xs.length i = some j ∧ xs[j]? = some x := by
  unfold L2.atI at h
  cases hj : L2.ixN xs.length i with
  | none => rw [hj] at h; cases h
  | some j => rw [hj] at h; exact ⟨j, rfl, h⟩
theorem RWs.at {g : Gx} {H : Hp} {m : List Addr} {ws : List W} {vs : List V} {i : Int} {w : W} (r : RWs g H m ws vs) (h : L2.atI ws i = some w) : ∃ v, L2.atI vs i = some v ∧ RW g H m w v := by
  obtain ⟨j, h1, h2⟩ := at_get h
  obtain ⟨v, h3, h4⟩ := r.get h2
  refine ⟨v, ?_, h4⟩
  unfold L2.atI
  rw [← r.length, h1]
  exact h3
theorem view_lst {g : Gx} {st : Store} {H Hb Fr : Hp} {m : List Addr} {w : W} {x : V} (S : Sim g st H Hb Fr m) (r : RW g Hb m w x) {ds : List D} (h : view st w = some (.lst ds)) :
    ∃ p vs, x = .ref p ∧ SqL g.K H p vs ∧ RDs g.K Hb ds vs ∧ ds.length ≤ sizeLine := by
  cases w with
  | v d' =>
    have e : d' = _ := Option.some.inj h
    subst e
    cases r with
    | lst hs rs hl => exact ⟨_, _, rfl, S.hb.seq hs, rs, hl⟩
  | x c d' => cases h
  | r n =>
    obtain ⟨p, hp, rfl⟩ := r
    have h' : viewC st[n]? = some (.lst ds) := h
    cases hc : st[n]? with
    | none =>
      rw [hc] at h'
      cases h'
    | some c =>
      rw [hc] at h'
      have k := S.cell n c p hc hp
      cases c with
      | live ws =>
        obtain ⟨_, _, vs, h3, h4, h5⟩ := k
        have h2 : (dats ws).map D.lst = some (.lst ds) := h'
        cases hd : dats ws with
        | none =>
          rw [hd] at h2
          cases h2
        | some es =>
          rw [hd] at h2
          cases h2
          exact ⟨p, vs, rfl, SqL.of h3, h4.dats hd, by rw [dats_length hd]; exact h5⟩
      | frz d' =>
        have e : d' = _ := Option.some.inj h'
        subst e
        have k2 := k.2
        cases k2 with
        | lst hs rs hl => exact ⟨_, _, rfl, S.hb.seq hs, rs, hl⟩

section
variable {X : L2.Cx} {cls : Nat → Option (Addr × Str)} {xa : Option (Addr × Option Addr × Addr)} {c : Pf.Cx} {wx : WX}
/-! ### values in a row -/
theorem a_nil : PA X [] (tEs (gX X cls) xa c wx .nil) :=
  ⟨fun pos pins s σ H Q I h => pa_nil.run pos pins s σ H Q I (by
    obtain ⟨env, st, Hb, Fr, m, S, E, P⟩ := h
    rw [evEs] at P
    exact P.now S [] .nil)⟩
theorem a_cons {e : E} {es : Es} {x : Expr} {xs : List Expr} (hn : notStar x = true) (h1 : PE X x (tE (gX X cls) xa c wx e)) (h2 : PA X xs (tEs (gX X cls) xa c wx es)) : PA X (x :: xs) (tEs (gX X cls) xa c wx (.cons e es)) :=
  ⟨fun pos pins s σ H Q I h => (pa_cons h1 h2 (star_cons hn)).run pos pins s σ H Q I (by
    obtain ⟨env, st, Hb, Fr, m, S, E, P⟩ := h
    rw [evEs] at P
    refine ⟨env, st, Hb, Fr, m, S, E, P.thn fun w st1 H1 Hb1 m1 S1 e1 p1 P1 v rv => ?_⟩
    exact ⟨env, st1, Hb1, Fr, m1, S1, E.mono e1 p1, P1.thn fun ws st2 H2 Hb2 m2 S2 e2 p2 P2 vs rvs => P2.now S2 (v :: vs) (.cons (rv.mono e2 p2) rvs)⟩)⟩
theorem o_none : PO X none (tO (gX X cls) xa c wx .none) :=
  ⟨fun pins s σ H Q I h => po_none.run pins s σ H Q I (by
    obtain ⟨env, st, Hb, Fr, m, S, E, P⟩ := h
    rw [evO] at P
    exact P.now S)⟩
theorem o_some {e : E} {x : Expr} (h : PE X x (tE (gX X cls) xa c wx e)) : PO X (some x) (tO (gX X cls) xa c wx (.some e)) :=
  ⟨fun pins s σ H Q I h' => (po_some h).run pins s σ H Q I (by
    obtain ⟨env, st, Hb, Fr, m, S, E, P⟩ := h'
    rw [evO] at P
    refine ⟨env, st, Hb, Fr, m, S, E, P.thn fun w st1 H1 Hb1 m1 S1 e1 p1 P1 v rv => ?_⟩
    obtain ⟨o, ho, q⟩ := P1.ofO S1
    cases hi : intOf w with
    | none => rw [hi] at ho; cases ho
    | some i =>
      rw [hi] at ho
      cases ho
      exact ⟨i, int_of rv hi, q⟩)⟩
theorem c_tup {es : Es} {xs : List Expr} {kk : Nat} {pos : Pos} (hl : esLen es ≤ LIM) (h : PA X xs (tEs (gX X cls) xa c wx es)) : PE X (.Tuple xs kk pos) (tE (gX X cls) xa c wx (.tup es)) :=
  ⟨fun pins s σ H Q I h' => (pe_tup h).run pins s σ H Q I (by
    obtain ⟨env, st, Hb, Fr, m, S, E, P⟩ := h'
    rw [evE] at P
    refine ⟨env, st, Hb, Fr, m, S, E, P.thnE fun ws st1 H1 Hb1 m1 eq S1 e1 p1 P1 vs rvs => ?_⟩
    have hz : ws.length ≤ sizeLine := by
      rw [evEs_len eq]
      exact Nat.le_of_lt (lim_lt hl)
    refine ⟨by rw [← rvs.length]; exact hz, fun p hp => ?_⟩
    obtain ⟨d, hd, P1⟩ := P1.data
    cases hds : dats ws with
    | none => rw [hds] at hd; cases hd
    | some ds =>
      rw [hds] at hd
      cases hd
      exact P1.newD S1 hp _ _ (RD.tup (SqT.of upd_same) ((rvs.dats hds).mono (Same.new (S1.fresh hp))) (by rw [dats_length hds]; exact hz)))⟩
theorem c_idx {a b : E} {x y : Expr} {pos : Pos} (hs : notSlice y = true) (ha : PE X x (tE (gX X cls) xa c wx a)) (hb : PE X y (tE (gX X cls) xa c wx b)) : PE X (.Subscript x y pos) (tE (gX X cls) xa c wx (.idx a b)) :=
  ⟨fun pins s σ H Q I h => (pe_ix (ix_list.or ix_tup) ha hb (slice_plain hs)).run pins s σ H Q I (by
    refine c_two (f := idxS) (fun env st => by rw [evE]) (fun {st H Hb Fr m v w p q} S rv rw' P => ?_) h
    obtain ⟨u, hu, P⟩ := P.ofO S
    unfold idxW at hu
    cases hi : intOf w with
    | none => rw [hi] at hu; cases hu
    | some i =>
      rw [hi] at hu
      have ei := int_of rw' hi
      cases hit : items st v with
      | none => rw [hit] at hu; cases hu
      | some tx =>
        obtain ⟨t, ws⟩ := tx
        rw [hit] at hu
        obtain ⟨a, vs, ex, hsq, rs, _⟩ := items_ok S rv hit
        obtain ⟨z, hz, rz⟩ := rs.at hu
        rcases hsq with ⟨_, hsq⟩ | ⟨_, hsq⟩
        · exact .inr ⟨a, vs, i, z, ex, ei, hsq, hz, P z rz⟩
        · exact .inl ⟨a, vs, i, z, ex, ei, hsq, hz, P z rz⟩)⟩
theorem cut_all {α : Type} {xs : List α} {lo hi : Option Int} (h : HT.sIx xs.length 0 lo = 0 ∧ HT.sIx xs.length xs.length hi = xs.length) : Pf.cut xs lo hi = xs := by
  unfold Pf.cut
  rw [h.1, h.2, List.drop_zero, Nat.sub_zero, List.take_length]
/-- the three parts of a slice -/
theorem slc_thn {a : E} {lo hi : O} {α : Type} {r : V → Option Int → Option Int → Hp → VK → Prop} {f : W → Option Int → Option Int → Store → R α} {ev : R α} {env : Env} {st : Store} {σ : L2.St} {H Hb Fr : Hp} {m : List Addr} {k : α → Store → Hp → List Addr → Hp → Prop} {Q : VK}
    (S : Sim (gX X cls) st H Hb Fr m) (E : RE (gX X cls) xa Hb m env σ)
    (P : Post (gX X cls) wx σ Fr Hb m ((evE c a env st).bind fun x st1 => (evO c lo env st1).bind fun i st2 => (evO c hi env st2).bind fun j st3 => f x i j st3) k)
    (hr : ∀ {st : Store} {H Hb : Hp} {m : List Addr} {w : W} {x : V} {i j : Option Int}, Sim (gX X cls) st H Hb Fr m → RW (gX X cls) Hb m w x → Post (gX X cls) wx σ Fr Hb m (f w i j st) k → r x i j H Q) :
    tSl r (tE (gX X cls) xa c wx a) (tO (gX X cls) xa c wx lo) (tO (gX X cls) xa c wx hi) σ H Q := by
  refine ⟨env, st, Hb, Fr, m, S, E, P.thn fun w st1 H1 Hb1 m1 S1 e1 p1 P1 x rx => ?_⟩
  refine ⟨env, st1, Hb1, Fr, m1, S1, E.mono e1 p1, P1.thn fun i st2 H2 Hb2 m2 S2 e2 p2 P2 => ?_⟩
  refine ⟨env, st2, Hb2, Fr, m2, S2, E.mono (e1.trans e2) (p1.trans p2), P2.thn fun j st3 H3 Hb3 m3 S3 e3 p3 P3 => ?_⟩
  exact hr S3 (rx.mono (e2.trans e3) (p2.trans p3)) P3
theorem c_slc {a : E} {lo hi : O} {x : Expr} {l h : Option Expr} {p2 pos : Pos} (ha : PE X x (tE (gX X cls) xa c wx a)) (hl : PO X l (tO (gX X cls) xa c wx lo)) (hh : PO X h (tO (gX X cls) xa c wx hi)) :
    PE X (.Subscript x (.Slice l h none p2) pos) (tE (gX X cls) xa c wx (.slc a lo hi)) :=
  ⟨fun pins s σ H Q I q => (pe_slice (sl_list.or sl_tupA) ha hl hh).run pins s σ H Q I (by
    obtain ⟨env, st, Hb, Fr, m, S, E, P⟩ := q
    rw [evE] at P
    refine slc_thn (ev := .stuck) S E P fun {st H Hb m w x i j} S rx P => ?_
    obtain ⟨d, hd, P⟩ := P.data
    cases hv : view st w with
    | none => rw [hv] at hd; cases hd
    | some dv =>
      rw [hv] at hd
      cases dv with
      | tup ds =>
        cases hd
        have t1 := view_tup S rx hv
        cases t1 with
        | tup s1 d1 l1 =>
          refine .inr ⟨_, _, rfl, sqT_mono S.hb s1, fun hw => ?_, fun _ p hp => ?_⟩
          · refine P.now S _ ?_
            have e := cut_all (xs := ds) (lo := i) (hi := j) (by rw [d1.length]; exact hw)
            rw [e]
            exact RD.tup s1 d1 l1
          · refine P.newD S hp _ _ ?_
            exact RD.tup (SqT.of upd_same) ((d1.cut i j).mono (Same.new (S.fresh hp))) (Nat.le_trans (cut_len ds i j) l1)
      | lst ds =>
        cases hd
        obtain ⟨p, vs, ex, s1, d1, l1⟩ := view_lst S rx hv
        refine .inl ⟨p, vs, ex, s1, fun q hq => ?_⟩
        refine P.newD S hq _ _ ?_
        exact RD.lst (SqL.of upd_same) ((d1.cut i j).mono (Same.new (S.fresh hq))) (Nat.le_trans (cut_len ds i j) l1)
      | _ => cases hd)⟩

/-! ### fresh lists -/
/-- a new list is handed on as data -/
theorem frz_imp {l : L} {σ : L2.St} {H : Hp} {Q : VK} (q : tE (gX X cls) xa c wx (.frz l) σ H Q) : tL (gX X cls) xa c wx l σ H Q := by
    obtain ⟨env, st, Hb, Fr, m, S, E, P⟩ := q
    rw [evE] at P
    refine ⟨env, st, Hb, Fr, m, S, E, P.thn fun ws st1 H1 Hb1 m1 S1 e1 p1 P1 p vs hp rvs hz => ?_⟩
    obtain ⟨d, hd, P1⟩ := P1.data
    cases hds : dats ws with
    | none => rw [hds] at hd; cases hd
    | some ds =>
      rw [hds] at hd
      cases hd
      exact P1.newD S1 hp _ _ (RD.lst (SqL.of upd_same) ((rvs.dats hds).mono (Same.new (S1.fresh hp))) (by rw [dats_length hds]; exact hz))
theorem c_frz {l : L} {x : Expr} (h : PE X x (tL (gX X cls) xa c wx l)) : PE X x (tE (gX X cls) xa c wx (.frz l)) := ⟨fun pins s σ H Q I q => h.run pins s σ H Q I (frz_imp q)⟩
/-- a new list that may change -/
theorem liv_imp {l : L} {σ : L2.St} {H : Hp} {Q : VK} (q : tE (gX X cls) xa c wx (.liv l) σ H Q) : tL (gX X cls) xa c wx l σ H Q := by
    obtain ⟨env, st, Hb, Fr, m, S, E, P⟩ := q
    rw [evE] at P
    refine ⟨env, st, Hb, Fr, m, S, E, P.thn fun ws st1 H1 Hb1 m1 S1 e1 p1 P1 p vs hp rvs hz => ?_⟩
    refine P1 _ Hb1 (m1 ++ [p]) (S1.newL hp rvs hz) (fun _ _ e => e) (Pre.snoc m1 p) _ ⟨p, ?_, rfl⟩
    rw [← S1.len]
    simp
theorem c_liv {l : L} {x : Expr} (h : PE X x (tL (gX X cls) xa c wx l)) : PE X x (tE (gX X cls) xa c wx (.liv l)) := ⟨fun pins s σ H Q I q => h.run pins s σ H Q I (liv_imp q)⟩
/-- from here on it does not change -/
theorem c_fz {a : E} {x : Expr} (h : PE X x (tE (gX X cls) xa c wx a)) : PE X x (tE (gX X cls) xa c wx (.fz a)) :=
  ⟨fun pins s σ H Q I q => h.run pins s σ H Q I (by
    obtain ⟨env, st, Hb, Fr, m, S, E, P⟩ := q
    rw [evE] at P
    refine ⟨env, st, Hb, Fr, m, S, E, P.thn fun w st1 H1 Hb1 m1 S1 e1 p1 P1 v rv => ?_⟩
    cases w with
    | v d => exact Post.now P1 S1 v rv
    | x k d => exact P1.elim
    | r n =>
      obtain ⟨p, hp, rfl⟩ := rv
      have P2 : Post (gX X cls) wx σ Fr Hb1 m1 (match freezeC st1 n st1[n]? with | some p => R.ok (W.v p.1) p.2 | none => .stuck) fun w _ Hb' m' H' => ∀ v, RW (gX X cls) Hb' m' w v → Q v H' := P1
      cases hc : st1[n]? with
      | none =>
        rw [hc] at P2
        exact P2.elim
      | some cc =>
        rw [hc] at P2
        have k := S1.cell n cc p hc hp
        cases cc with
        | frz d => exact Post.now P2 S1 _ k.2
        | live ws =>
          obtain ⟨k1, k2, vs, k3, k4, k5⟩ := k
          cases hds : dats ws with
          | none =>
            rw [show freezeC st1 n (some (.live ws)) = none from by simp only [freezeC, hds, Option.map]] at P2
            exact P2.elim
          | some ds =>
            rw [show freezeC st1 n (some (.live ws)) = some (.lst ds, st1.set n (.frz (.lst ds))) from by simp only [freezeC, hds, Option.map]] at P2
            have hz : ds.length ≤ sizeLine := by
              rw [dats_length hds]
              exact k5
            exact P2 H1 _ m1 (S1.freeze hc hp k3 (k4.dats hds) hz) (Same.new k1) (Pre.refl m1) _ (RD.lst (SqL.of upd_same) ((k4.dats hds).mono (Same.new k1)) hz))⟩
theorem l_disp {es : Es} {xs : List Expr} {pos : Pos} (hl : esLen es ≤ LIM) (h : PA X xs (tEs (gX X cls) xa c wx es)) : PE X (.List xs pos) (tL (gX X cls) xa c wx (.disp es)) :=
  ⟨fun pins s σ H Q I h' => (pe_lst h).run pins s σ H Q I (by
    obtain ⟨env, st, Hb, Fr, m, S, E, P⟩ := h'
    rw [evL] at P
    refine ⟨env, st, Hb, Fr, m, S, E, ?_⟩
    cases hr : evEs c es env st with
    | ok ws st1 =>
      rw [hr] at P
      intro H1 Hb1 m1 S1 e1 p1 vs rvs
      have hz : ws.length ≤ sizeLine := by
        rw [evEs_len hr]
        exact Nat.le_of_lt (lim_lt hl)
      exact ⟨by rw [← rvs.length]; exact hz, fun p hp => P H1 Hb1 m1 S1 e1 p1 p vs hp rvs hz⟩
    | exc k d st1 =>
      rw [hr] at P
      exact P
    | stuck =>
      rw [hr] at P
      exact P)⟩
theorem listS_ok {σ : L2.St} {Fr H Hb : Hp} {m : List Addr} {g : Gx} {o : Option (List W)} {st : Store} {k : List W → Store → Hp → List Addr → Hp → Prop} (P : Post g wx σ Fr Hb m (listS o st) k) (S : Sim g st H Hb Fr m) : ∃ ws, o = some ws ∧ k ws st Hb m H := P.ofO S
/-- the items of what is a list -/
theorem lst_ok {g : Gx} {st : Store} {H Hb Fr : Hp} {m : List Addr} {w : W} {x : V} (S : Sim g st H Hb Fr m) (r : RW g Hb m w x) {ws : List W} (h : lstOf (items st w) = some ws) : ∃ p vs, x = .ref p ∧ SqL g.K H p vs ∧ RWs g Hb m ws vs ∧ ws.length ≤ sizeLine := by
  cases hi : items st w with
  | none => rw [hi] at h; cases h
  | some q =>
    obtain ⟨t, us⟩ := q
    rw [hi] at h
    cases t with
    | true => cases h
    | false =>
      cases h
      obtain ⟨p, vs, ex, hs, rs, hz⟩ := items_ok S r hi
      rcases hs with ⟨z, _⟩ | ⟨_, hs⟩
      · cases z
      · exact ⟨p, vs, ex, hs, rs, hz⟩
theorem l_slc {a : E} {lo hi : O} {x : Expr} {l h : Option Expr} {p2 pos : Pos} (ha : PE X x (tE (gX X cls) xa c wx a)) (hl : PO X l (tO (gX X cls) xa c wx lo)) (hh : PO X h (tO (gX X cls) xa c wx hi)) :
    PE X (.Subscript x (.Slice l h none p2) pos) (tL (gX X cls) xa c wx (.slc a lo hi)) :=
  ⟨fun pins s σ H Q I q => (pe_slice sl_list ha hl hh).run pins s σ H Q I (by
    obtain ⟨env, st, Hb, Fr, m, S, E, P⟩ := q
    rw [evL] at P
    refine slc_thn (ev := .stuck) S E P fun {st H Hb m w x i j} S rx P => ?_
    obtain ⟨ws, hw, P⟩ := listS_ok P S
    cases ho : lstOf (items st w) with
    | none => rw [ho] at hw; cases hw
    | some us =>
      rw [ho] at hw
      cases hw
      obtain ⟨p, vs, ex, hs, rs, hz⟩ := lst_ok S rx ho
      exact ⟨p, vs, ex, hs, fun q hq => P q _ hq (rs.cut i j) (Nat.le_trans (cut_len us i j) hz)⟩)⟩
theorem l_rev {a : E} {x : Expr} {kk : Nat} {p1 p2 p3 pos : Pos} (ha : PE X x (tE (gX X cls) xa c wx a)) : PE X (.Subscript x (.Slice none none (some (.UnaryOp .USub (.Constant (.int 1) kk p1) p2)) p3) pos) (tL (gX X cls) xa c wx (.rev a)) :=
  ⟨fun pins s σ H Q I q => (pe_revL ha).run pins s σ H Q I (by
    obtain ⟨env, st, Hb, Fr, m, S, E, P⟩ := q
    rw [evL] at P
    refine ⟨env, st, Hb, Fr, m, S, E, P.thn fun w st1 H1 Hb1 m1 S1 e1 p1 P1 v rv => ?_⟩
    obtain ⟨ws, hw, P1⟩ := listS_ok P1 S1
    cases ho : lstOf (items st1 w) with
    | none => rw [ho] at hw; cases hw
    | some us =>
      rw [ho] at hw
      cases hw
      obtain ⟨p, vs, ex, hs, rs, hz⟩ := lst_ok S1 rv ho
      exact ⟨p, vs, ex, hs, fun q hq => P1 q _ hq rs.reverse (by rw [List.length_reverse]; exact hz)⟩)⟩

/-! ### list + list, list * int, of any lists -/
def rCatL (K : PySem.W.Frag) : R2 := fun x y H Q => ∃ l b xs zs, x = .ref l ∧ y = .ref b ∧ SqL K H l xs ∧ SqL K H b zs ∧ xs.length + zs.length ≤ sizeLine ∧ ∀ p, H p = none → Q (.ref p) (upd H p (.lst (xs ++ zs)))
theorem op_catL : OpR X (binaryOp .Add) (rCatL X.K) := by
  intro pins s σ H x y v u Q I rx ry h
  obtain ⟨l, b, xs, zs, rfl, rfl, hH, hB, hz, q⟩ := h
  cases rx
  cases ry
  obtain ⟨its, r, p1, z1⟩ := I.list hH
  obtain ⟨its2, r2, p2, z2⟩ := I.list hB
  have hl := r.length
  have hl2 := r2.length
  obtain ⟨⟨k1, d1, t1, s1⟩, n1, ho1, hc1, hd1, ht1⟩ := p1
  obtain ⟨⟨k2, d2, t2, s2⟩, n2, ho2, hc2, hd2, ht2⟩ := p2
  dsimp only at hc1 hd1 ht1 hc2 hd2 ht2
  subst hc1 ht1 hc2 ht2
  have hsz : its.toArray.size + its2.toArray.size ≤ sizeLine := by
    rw [List.size_toArray, List.size_toArray]
    omega
  refine PySem.concat_meets ⟨_, ho1, rfl⟩ ⟨_, ho2, rfl⟩ noFill_list_add seq_list_add F.slot_list_add F.entry_list_add (F.args_list_add_2 _ _) (list_addW l b its.toArray its2.toArray n1 n2 d1 d2 s1 s2 hsz) ⟨ho1, ho2, ?_⟩
  have ea : its.toArray ++ its2.toArray = (its ++ its2).toArray := by simp
  rw [ea]
  refine ⟨.ref _, _, I.lnew (t' := s.toks) (r.append r2) ?_, rfl, q _ I.fresh⟩
  rw [List.length_append]
  exact hz
open AutoSeq1 (wpAny_loadPart')
theorem list_mulW (l : Addr) (its : Array Value) (n : Nat) (dd : Option Addr) (sl : Array (Option Value)) (x : Int) (u : Tok) (h0 : ¬(!Builtin.List.listFitsIndex x) = true) (h1 : ¬its.size * x.toNat > (2 ^ 63 - 1) / 8) (h2 : ¬Builtin.List.listTooLong (its.size * x.toNat) = true) :
    Meets (Builtin.«list.__mul__» ⟨[.ref l, .int x u], []⟩) (fun _ R s => s.heap.get? l = some { cls := .type "list", dict := dd, data := .seq its n, slots := sl } ∧
      R (.ok (.ret (Value.ref s.heap.objs.size))) { s with heap := s.heap.push { cls := Value.type "list", data := Data.seq (List.foldl (fun a b => a ++ b) #[] (List.replicate (if its.isEmpty = true then 0 else x.toNat) its)) }, toks := s.toks }) :=
  .of_wp fun prog w A R s h => by
    obtain ⟨hp, g, d, tk, os⟩ := s
    obtain ⟨hl, h⟩ := h
    have hf := AutoListH.joined_fits h2
    wp_walk using wpAny_loadPart' hl
    refine wpAny_ite_false (decide_eq_false (Nat.not_lt.mpr hf)) ?_
    wp_walk
    exact ⟨_, rfl, h⟩
theorem int_rmulW (a : Int) (t : Tok) (l : Addr) (its : Array Value) (n : Nat) (dd : Option Addr) (sl : Array (Option Value)) :
    Meets (Builtin.«int.__rmul__» ⟨[.int a t, .ref l], []⟩) (fun _ R s => s.heap.get? l = some { cls := .type "list", dict := dd, data := .seq its n, slots := sl } ∧ R (.ok (.ret Value.notImplemented)) s) :=
  .of_wp fun prog w A R s h => by
    obtain ⟨hp, g, d, tk, os⟩ := s
    obtain ⟨hl, h⟩ := h
    wp_walk using wpAny_loadPart' hl
    exact ⟨_, rfl, h⟩
def rRepL (K : PySem.W.Frag) : R2 := fun x y H Q => ∃ l k xs, x = .ref l ∧ y = .int k ∧ SqL K H l xs ∧ -(2 ^ 63) ≤ k ∧ k < 2 ^ 63 ∧ xs.length * k.toNat ≤ sizeLine ∧
  ∀ p, H p = none → Q (.ref p) (upd H p (.lst (List.replicate k.toNat xs).flatten))
theorem op_repL : OpR X (binaryOp .Mult) (rRepL X.K) := by
  intro pins s σ H x y v u Q I rx ry h
  obtain ⟨l, k, xs, rfl, rfl, hH, h1, h2, hz, q⟩ := h
  cases rx
  obtain ⟨t, rfl⟩ := ry
  obtain ⟨its, r, p1, z1⟩ := I.list hH
  have hl := r.length
  obtain ⟨⟨k1, d1, t1, s1⟩, n1, e, hc1, hd1, ht1⟩ := p1
  dsimp only at hc1 hd1 ht1
  subst hc1 ht1
  have hn : its.toArray.size * k.toNat ≤ sizeLine := by
    rw [List.size_toArray, ← hl]
    exact hz
  have hcap : ¬ its.toArray.size * k.toNat > (2 ^ 63 - 1) / 8 := by
    have hs : (sizeLine : Nat) ≤ (2 ^ 63 - 1) / 8 := by decide
    omega
  have hfit : ¬ (!Builtin.List.listFitsIndex k) = true := by
    rw [fitsIndex_both h1 h2]
    exact Bool.false_ne_true
  have hlong : ¬ Builtin.List.listTooLong (its.toArray.size * k.toNat) = true := by
    rw [notLongL hn]
    exact Bool.false_ne_true
  have f0 : ∀ m : Nat, List.foldl (fun a b => a ++ b) #[] (List.replicate m its.toArray) = (List.replicate m its).flatten.toArray := fun m => by
    have z := foldl_rep its m []
    rw [List.nil_append] at z
    exact z
  have hnew : List.foldl (fun a b => a ++ b) #[] (List.replicate (if its.toArray.isEmpty = true then 0 else k.toNat) its.toArray) = (List.replicate k.toNat its).flatten.toArray := by
    rw [f0]
    cases its with
    | nil => simp
    | cons a r' => rw [if_neg (by simp)]
  refine wpAny_binaryOp_repeat_ref (T := "list") (U := "int") (by decide) ⟨_, e, rfl⟩ (fun s' => typeIs_int s' k t) noFill_list_mul F.fills_int_mul F.slot_int_rmul repeat_list F.slot_int_index.lookup
    (call_meets F.slot_int_rmul (typeIs_int s k t) F.entry_int_rmul (F.args_int_rmul_2 _ _) (int_rmulW k t l its.toArray n1 d1 s1)
      ⟨e, rfl, ⟨_, e, rfl⟩, call_meets F.slot_list_mul ⟨_, e, rfl⟩ F.entry_list_mul (F.args_list_mul_2 _ _) (list_mulW l its.toArray n1 d1 s1 k t hfit hcap hlong) ⟨e, ?_⟩⟩)
  rw [hnew]
  refine ⟨.ref _, _, I.lnew (t' := s.toks) (r.rep k.toNat) ?_, rfl, q _ I.fresh⟩
  rw [PyProof.Rows.lm_len_rep_flat, Nat.mul_comm]
  exact hz
theorem RWs.rep {g : Gx} {H : Hp} {m : List Addr} {ws : List W} {vs : List V} (r : RWs g H m ws vs) : ∀ n : Nat, RWs g H m (List.replicate n ws).flatten (List.replicate n vs).flatten
  | 0 => .nil
  | n + 1 => by
    rw [List.replicate_succ, List.replicate_succ, List.flatten_cons, List.flatten_cons]
    exact r.append (RWs.rep r n)
/-- two values, then a new list -/
theorem l_two {a b : E} {l : L} {r : R2} {f : W → W → Store → Option (List W)} (hf : ∀ env st, evL c l env st = (evE c a env st).bind fun v st1 => (evE c b env st1).bind fun w st2 => listS (f v w st2) st2) {σ : L2.St} {H : Hp} {Q : VK}
    (hr : ∀ {st : Store} {H Hb Fr : Hp} {m : List Addr} {v w : W} {p q : V} {ws : List W}, Sim (gX X cls) st H Hb Fr m → RW (gX X cls) Hb m v p → RW (gX X cls) Hb m w q → f v w st = some ws →
      (∀ p vs, H p = none → RWs (gX X cls) Hb m ws vs → ws.length ≤ sizeLine → Q (.ref p) (upd H p (.lst vs))) → r p q H Q)
    (h : tL (gX X cls) xa c wx l σ H Q) : tOp r (tE (gX X cls) xa c wx a) (tE (gX X cls) xa c wx b) σ H Q := by
  obtain ⟨env, st, Hb, Fr, m, S, E, P⟩ := h
  rw [hf] at P
  refine ⟨env, st, Hb, Fr, m, S, E, P.thn fun v st1 H1 Hb1 m1 S1 e1 p1 P1 p rv => ?_⟩
  refine ⟨env, st1, Hb1, Fr, m1, S1, E.mono e1 p1, P1.thn fun w st2 H2 Hb2 m2 S2 e2 p2 P2 q rw' => ?_⟩
  obtain ⟨ws, hw, P2⟩ := listS_ok P2 S2
  exact hr S2 (rv.mono e2 p2) rw' hw P2
theorem l_cat {a b : E} {x y : Expr} {pos : Pos} (ha : PE X x (tE (gX X cls) xa c wx a)) (hb : PE X y (tE (gX X cls) xa c wx b)) : PE X (.BinOp x .Add y pos) (tL (gX X cls) xa c wx (.cat a b)) :=
  ⟨fun pins s σ H Q I h => (pe_op op_catL ha hb).run pins s σ H Q I (by
    refine l_two (f := fun v w st => catL (lstOf (items st v)) (lstOf (items st w))) (fun env st => by rw [evL]) (fun {st H Hb Fr m v w p q ws} S rv rw' hw P => ?_) h
    cases h1 : lstOf (items st v) with
    | none => rw [h1] at hw; cases hw
    | some xs =>
      cases h2 : lstOf (items st w) with
      | none => rw [h1, h2] at hw; cases hw
      | some ys =>
        rw [h1, h2] at hw
        have hw : (if xs.length + ys.length ≤ LIM then some (xs ++ ys) else none) = some ws := hw
        by_cases hl : xs.length + ys.length ≤ LIM
        · rw [if_pos hl] at hw
          cases hw
          obtain ⟨a1, v1, e1, s1, r1, z1⟩ := lst_ok S rv h1
          obtain ⟨a2, v2, e2, s2, r2, z2⟩ := lst_ok S rw' h2
          have hz := Nat.le_of_lt (lim_lt hl)
          exact ⟨a1, a2, v1, v2, e1, e2, s1, s2, by rw [← r1.length, ← r2.length]; exact hz, fun p hp => P p _ hp (r1.append r2) (by rw [List.length_append]; exact hz)⟩
        · rw [if_neg hl] at hw
          cases hw)⟩
theorem l_rep {a b : E} {x y : Expr} {pos : Pos} (ha : PE X x (tE (gX X cls) xa c wx a)) (hb : PE X y (tE (gX X cls) xa c wx b)) : PE X (.BinOp x .Mult y pos) (tL (gX X cls) xa c wx (.rep a b)) :=
  ⟨fun pins s σ H Q I h => (pe_op op_repL ha hb).run pins s σ H Q I (by
    refine l_two (f := fun v w st => repL (lstOf (items st v)) (intOf w)) (fun env st => by rw [evL]) (fun {st H Hb Fr m v w p q ws} S rv rw' hw P => ?_) h
    cases h1 : lstOf (items st v) with
    | none => rw [h1] at hw; cases hw
    | some xs =>
      cases h2 : intOf w with
      | none => rw [h1, h2] at hw; cases hw
      | some i =>
        rw [h1, h2] at hw
        have hw : (if 0 ≤ i ∧ xs.length * i.toNat ≤ LIM ∧ i < 1000000 then some (List.replicate i.toNat xs).flatten else none) = some ws := hw
        by_cases hl : 0 ≤ i ∧ xs.length * i.toNat ≤ LIM ∧ i < 1000000
        · rw [if_pos hl] at hw
          cases hw
          obtain ⟨a1, v1, e1, s1, r1, z1⟩ := lst_ok S rv h1
          obtain ⟨l1, l2, l3⟩ := hl
          have hz := Nat.le_of_lt (lim_lt l2)
          refine ⟨a1, i, v1, e1, int_of rw' h2, s1, by omega, by omega, by rw [← r1.length]; exact hz, fun p hp => P p _ hp (r1.rep i.toNat) ?_⟩
          have hl : (List.replicate i.toNat xs).flatten.length = i.toNat * xs.length := by simp
          rw [hl, Nat.mul_comm]
          exact hz
        · rw [if_neg hl] at hw
          cases hw)⟩
end
end Pf
set_option Elab.async false
set_option linter.all false
set_option maxRecDepth 100000
set_option maxHeartbeats 1000000
/-! Pf, part G: built-in functions and types, the lists' methods. -/
namespace Pf
open PySem PySem.Spec PyProof.Rows L2

/-- a built-in's name means the built-in -/
structure Bi (X : L2.Cx) (x : Str) (v : Value) : Prop where
  gl : Gl X x
  mg : X.mg x = none
  bo : bootBuiltins x = some v
  nn : x ≠ "__name__"
  nd : (x == ("__debug__" : Str)) = false
/-- its rule by its kind: a function, a type -/
theorem call_any {X : L2.Cx} {x : Str} {v : Value} {p pos : Pos} {e : Expr} {es : List Expr} {t : TA} {r : List V → Hp → VK → Prop} (hv : (∃ i, v = .builtin i) ∨ ∃ i, v = .type i) (hc : CallR X v r) (b : Bi X x v) (ha : PA X (e :: es) t) (hn : (e :: es).all notStar = true) :
    PE X (.Call (.Name x p) (e :: es) [] pos) (tCB r t) := by
  obtain ⟨h1, h2⟩ := and2 (show (notStar e && es.all notStar) = true from hn)
  rcases hv with ⟨i, rfl⟩ | ⟨i, rfl⟩
  · exact pe_callB hc b.gl b.mg b.bo ha b.nn b.nd (star_cons h1) (star_any h2)
  · exact pe_callTy hc b.gl b.mg b.bo ha b.nn b.nd (star_cons h1) (star_any h2)
theorem rw1 {g : Gx} {H : Hp} {m : List Addr} {w : W} {vs : List V} (r : RWs g H m [w] vs) : ∃ v, vs = [v] ∧ RW g H m w v := by
  cases r with
  | cons h t => cases t; exact ⟨_, rfl, h⟩
theorem rw2 {g : Gx} {H : Hp} {m : List Addr} {w u : W} {vs : List V} (r : RWs g H m [w, u] vs) : ∃ v z, vs = [v, z] ∧ RW g H m w v ∧ RW g H m u z := by
  cases r with
  | cons h t =>
    obtain ⟨z, rfl, q⟩ := rw1 t
    exact ⟨_, z, rfl, h, q⟩
theorem rds_ints {K : PySem.W.Frag} {H : Hp} : ∀ {ds : List D} {vs : List V} {ns : List Int}, RDs K H ds vs → intsD ds = some ns → vs = ns.map V.int
  | _, _, _, .nil, e => by
    cases e
    rfl
  | .int i :: ds, _, ns, .cons h t, e => by
    unfold intsD at e
    cases q : intsD ds with
    | none => rw [q] at e; cases e
    | some ms =>
      rw [q] at e
      cases e
      rw [rd_int h, rds_ints t q]
      rfl
  | .non :: _, _, _, .cons _ _, e => by cases e
  | .bl _ :: _, _, _, .cons _ _, e => by cases e
  | .str _ :: _, _, _, .cons _ _, e => by cases e
  | .tup _ :: _, _, _, .cons _ _, e => by cases e
  | .lst _ :: _, _, _, .cons _ _, e => by cases e
theorem rds_bools {K : PySem.W.Frag} {H : Hp} : ∀ {ds : List D} {vs : List V} {ns : List Bool}, RDs K H ds vs → boolsD ds = some ns → vs = ns.map V.bl
  | _, _, _, .nil, e => by
    cases e
    rfl
  | .bl i :: ds, _, ns, .cons h t, e => by
    unfold boolsD at e
    cases q : boolsD ds with
    | none => rw [q] at e; cases e
    | some ms =>
      rw [q] at e
      cases e
      rw [rd_bl h, rds_bools t q]
      rfl
  | .non :: _, _, _, .cons _ _, e => by cases e
  | .int _ :: _, _, _, .cons _ _, e => by cases e
  | .str _ :: _, _, _, .cons _ _, e => by cases e
  | .tup _ :: _, _, _, .cons _ _, e => by cases e
  | .lst _ :: _, _, _, .cons _ _, e => by cases e
theorem least_mem : ∀ (xs : List Int) (m : Int), (least m xs = m ∨ least m xs ∈ xs) ∧ least m xs ≤ m ∧ ∀ y, y ∈ xs → least m xs ≤ y
  | [], m => ⟨.inl rfl, Int.le_refl _, fun y h => by cases h⟩
  | x :: xs, m => by
    have e : least m (x :: xs) = least (if x < m then x else m) xs := rfl
    obtain ⟨h1, h2, h3⟩ := least_mem xs (if x < m then x else m)
    rw [e]
    by_cases hx : x < m
    · rw [if_pos hx] at h1 h2 h3 ⊢
      refine ⟨h1.elim (fun z => .inr (by rw [z]; exact List.mem_cons_self)) fun z => .inr (List.mem_cons_of_mem _ z), by omega, fun y hy => ?_⟩
      rcases List.mem_cons.mp hy with z | z
      · rw [z]
        exact h2
      · exact h3 y z
    · rw [if_neg hx] at h1 h2 h3 ⊢
      refine ⟨h1.elim .inl fun z => .inr (List.mem_cons_of_mem _ z), h2, fun y hy => ?_⟩
      rcases List.mem_cons.mp hy with z | z
      · rw [z]
        omega
      · exact h3 y z
theorem most_mem : ∀ (xs : List Int) (m : Int), (most m xs = m ∨ most m xs ∈ xs) ∧ m ≤ most m xs ∧ ∀ y, y ∈ xs → y ≤ most m xs
  | [], m => ⟨.inl rfl, Int.le_refl _, fun y h => by cases h⟩
  | x :: xs, m => by
    have e : most m (x :: xs) = most (if m < x then x else m) xs := rfl
    obtain ⟨h1, h2, h3⟩ := most_mem xs (if m < x then x else m)
    rw [e]
    by_cases hx : m < x
    · rw [if_pos hx] at h1 h2 h3 ⊢
      refine ⟨h1.elim (fun z => .inr (by rw [z]; exact List.mem_cons_self)) fun z => .inr (List.mem_cons_of_mem _ z), by omega, fun y hy => ?_⟩
      rcases List.mem_cons.mp hy with z | z
      · rw [z]
        exact h2
      · exact h3 y z
    · rw [if_neg hx] at h1 h2 h3 ⊢
      refine ⟨h1.elim .inl fun z => .inr (List.mem_cons_of_mem _ z), h2, fun y hy => ?_⟩
      rcases List.mem_cons.mp hy with z | z
      · rw [z]
        omega
      · exact h3 y z
/-- the rising order is one -/
theorem ins1_perm (x : Int) : ∀ ys : List Int, (ins1 x ys).Perm (x :: ys)
  | [] => .refl _
  | y :: ys => by
    unfold ins1
    by_cases h : x ≤ y
    · rw [if_pos h]
    · rw [if_neg h]
      exact ((ins1_perm x ys).cons y).trans (.swap x y ys)
theorem sortI_perm : ∀ xs : List Int, (sortI xs).Perm xs
  | [] => .refl _
  | x :: xs => (ins1_perm x (sortI xs)).trans ((sortI_perm xs).cons x)
theorem ins1_pw (x : Int) : ∀ {ys : List Int}, ys.Pairwise (· ≤ ·) → (ins1 x ys).Pairwise (· ≤ ·)
  | [], _ => by
    unfold ins1
    exact List.pairwise_singleton _ _
  | y :: ys, h => by
    unfold ins1
    obtain ⟨h1, h2⟩ := List.pairwise_cons.mp h
    by_cases hx : x ≤ y
    · rw [if_pos hx]
      refine List.pairwise_cons.mpr ⟨fun z hz => ?_, h⟩
      rcases List.mem_cons.mp hz with e | e
      · rw [e]
        exact hx
      · exact Int.le_trans hx (h1 z e)
    · rw [if_neg hx]
      refine List.pairwise_cons.mpr ⟨fun z hz => ?_, ins1_pw x h2⟩
      rcases List.mem_cons.mp ((ins1_perm x ys).mem_iff.mp hz) with e | e
      · rw [e]
        omega
      · exact h1 z e
theorem sortI_pw : ∀ xs : List Int, (sortI xs).Pairwise (· ≤ ·)
  | [] => .nil
  | x :: xs => ins1_pw x (sortI_pw xs)
/-- two rising orders of the same are the same -/
theorem pw_eq : ∀ {xs ys : List Int}, xs.Perm ys → xs.Pairwise (· ≤ ·) → ys.Pairwise (· ≤ ·) → xs = ys
  | [], ys, h, _, _ => (List.Perm.nil_eq h)
  | x :: xs, [], h, _, _ => (List.Perm.eq_nil h)
  | x :: xs, y :: ys, h, hx, hy => by
    obtain ⟨hx1, hx2⟩ := List.pairwise_cons.mp hx
    obtain ⟨hy1, hy2⟩ := List.pairwise_cons.mp hy
    have e : x = y := by
      have m1 : x ∈ y :: ys := h.mem_iff.mp List.mem_cons_self
      have m2 : y ∈ x :: xs := h.mem_iff.mpr List.mem_cons_self
      rcases List.mem_cons.mp m1 with z | z
      · exact z
      · rcases List.mem_cons.mp m2 with z2 | z2
        · exact z2.symm
        · have := hy1 x z
          have := hx1 y z2
          omega
    subst e
    rw [pw_eq (List.Perm.cons_inv h) hx2 hy2]

section
variable {X : L2.Cx} {cls : Nat → Option (Addr × Str)} {xa : Option (Addr × Option Addr × Addr)} {c : Pf.Cx} {wx : WX}
/-- a call of a built-in with data for its value -/
theorem c_blt {b : Bfn} {es : Es} {x : Expr} {r : List V → Hp → VK → Prop} (h : PE X x (tCB r (tEs (gX X cls) xa c wx es)))
    (hr : ∀ {st : Store} {H Hb Fr : Hp} {m : List Addr} {ws : List W} {vs : List V} {d : D} {Q : VK} {σ : L2.St}, Sim (gX X cls) st H Hb Fr m → RWs (gX X cls) Hb m ws vs → bltW b st ws = some d →
      Post (gX X cls) wx σ Fr Hb m (.ok (.v d) st) (fun w _ Hb' m' H' => ∀ v, RW (gX X cls) Hb' m' w v → Q v H') → r vs H Q) : PE X x (tE (gX X cls) xa c wx (.blt b es)) :=
  ⟨fun pins s σ H Q I q => h.run pins s σ H Q I (by
    obtain ⟨env, st, Hb, Fr, m, S, E, P⟩ := q
    rw [evE] at P
    refine ⟨env, st, Hb, Fr, m, S, E, P.thn fun ws st1 H1 Hb1 m1 S1 e1 p1 P1 vs rvs => ?_⟩
    obtain ⟨d, hd, P1⟩ := Post.data P1
    exact hr S1 rvs hd P1)⟩
def bltV : Bfn → Value
  | .len => .builtin "len" | .int => .type "int" | .abs => .builtin "abs" | .tuple => .type "tuple" | .min => .builtin "min" | .max => .builtin "max" | .all => .builtin "all" | .any => .builtin "any" | _ => .builtin "isinstance"
def bltN : Bfn → Str
  | .len => "len" | .int => "int" | .abs => "abs" | .tuple => "tuple" | .min => "min" | .max => "max" | .all => "all" | .any => "any" | _ => "isinstance"
def BltR (b : Bfn) (K : PySem.W.Frag) : List V → Hp → VK → Prop := match b with
  | .len => fun xs H Q => ∃ p ys, xs = [.ref p] ∧ (SqL K H p ys ∨ SqT K H p ys) ∧ Q (.int ys.length) H
  | .int => fun xs H Q => (∃ i, xs = [.int i] ∧ Q (.int i) H) ∨ ∃ k, xs = [.bl k] ∧ Q (.int (if k then 1 else 0)) H
  | .abs => fun xs H Q => ∃ i, xs = [.int i] ∧ Q (.int (if i < 0 then -i else i)) H
  | .tuple => fun xs H Q => ∃ p ys, xs = [.ref p] ∧ ((SqL K H p ys ∧ ∀ l, H l = none → Q (.ref l) (upd H l (.tup ys))) ∨ (SqT K H p ys ∧ Q (.ref p) H))
  | .min => fun xs H Q => (∃ i j, xs = [.int i, .int j] ∧ Q (.int (if j < i then j else i)) H) ∨ rMin K xs H Q
  | .max => fun xs H Q => (∃ i j, xs = [.int i, .int j] ∧ Q (.int (if j > i then j else i)) H) ∨ rMax K xs H Q
  | .all => rAll K
  | .any => rAny K
  | _ => fun _ _ _ => False
theorem blt_rule (b : Bfn) (hc : X.calm = true) : CallR X (bltV b) (BltR b X.K) := by
  cases b with
  | len => exact call_len_seq
  | int => exact call_int1
  | abs => exact call_abs
  | tuple => exact call_tuple_of
  | min => exact CallR.or (call_min2 hc) (cr_min hc)
  | max => exact CallR.or (call_max2 hc) (cr_max hc)
  | all => exact cr_all hc
  | any => exact cr_any hc
  | isint => exact fun _ _ _ _ _ _ _ _ _ h => h.elim
  | isbool => exact fun _ _ _ _ _ _ _ _ _ h => h.elim
  | isstr => exact fun _ _ _ _ _ _ _ _ _ h => h.elim
  | isseq => exact fun _ _ _ _ _ _ _ _ _ h => h.elim
theorem bltV_kind (b : Bfn) : (∃ i, bltV b = .builtin i) ∨ ∃ i, bltV b = .type i := by
  cases b <;> first | exact .inl ⟨_, rfl⟩ | exact .inr ⟨_, rfl⟩
def bltPlain : Bfn → Bool
  | .isint => false | .isbool => false | .isstr => false | .isseq => false | _ => true
theorem ints2_ok {g : Gx} {H : Hp} {m : List Addr} {ws : List W} {vs : List V} {a b : Int} (h : ints2 ws = some (a, b)) (r : RWs g H m ws vs) : vs = [.int a, .int b] ∧ ws = [.v (.int a), .v (.int b)] := by
  unfold ints2 at h
  split at h
  · cases h
    obtain ⟨v, z, rfl, h1, h2⟩ := rw2 r
    rw [rd_int h1, rd_int h2]
    exact ⟨rfl, rfl⟩
  · cases h
/-- the ints of a list -/
theorem list_ints {g : Gx} {st : Store} {H Hb Fr : Hp} {m : List Addr} {w : W} {x : V} (S : Sim g st H Hb Fr m) (r : RW g Hb m w x) {ds : List D} (h : view st w = some (.lst ds)) {ns : List Int} (hn : intsD ds = some ns) : ∃ p, x = .ref p ∧ SqL g.K H p (ns.map V.int) := by
  obtain ⟨p, vs, ex, hs, rs, _⟩ := view_lst S r h
  rw [rds_ints rs hn] at hs
  exact ⟨p, ex, hs⟩
theorem list_bools {g : Gx} {st : Store} {H Hb Fr : Hp} {m : List Addr} {w : W} {x : V} (S : Sim g st H Hb Fr m) (r : RW g Hb m w x) {ds : List D} (h : view st w = some (.lst ds)) {ns : List Bool} (hn : boolsD ds = some ns) : ∃ p, x = .ref p ∧ SqL g.K H p (ns.map V.bl) := by
  obtain ⟨p, vs, ex, hs, rs, _⟩ := view_lst S r h
  rw [rds_bools rs hn] at hs
  exact ⟨p, ex, hs⟩
theorem dats_map : ∀ ds : List D, dats (ds.map .v) = some ds
  | [] => rfl
  | d :: ds => by
    show (dats (ds.map .v)).map (d :: ·) = some (d :: ds)
    rw [dats_map ds]
    rfl
theorem map_ok {α β : Type} {f : α → β} {o : Option α} {b : β} (h : o.map f = some b) : ∃ a, o = some a ∧ b = f a := by
  cases o with
  | none => cases h
  | some a => exact ⟨a, rfl, (Option.some.inj h).symm⟩
theorem tupI_ok {o : Option (Bool × List W)} {d : D} (h : tupI o = some d) : ∃ t us ds, o = some (t, us) ∧ dats us = some ds ∧ d = .tup ds := by
  cases o with
  | none => cases h
  | some p =>
    obtain ⟨ds, h1, h2⟩ := map_ok (show (dats p.2).map D.tup = some d from h)
    exact ⟨p.1, p.2, ds, rfl, h1, h2⟩
theorem listB_ok {g : Gx} {st : Store} {H Hb Fr : Hp} {m : List Addr} {w : W} {x : V} (S : Sim g st H Hb Fr m) (r : RW g Hb m w x) {ns : List Bool} (h : listB (view st w) = some ns) : ∃ p, x = .ref p ∧ SqL g.K H p (ns.map V.bl) := by
  cases hv : view st w with
  | none => rw [hv] at h; cases h
  | some dv =>
    rw [hv] at h
    cases dv with
    | lst ds => exact list_bools S r hv h
    | _ => cases h
theorem listI_ok {g : Gx} {st : Store} {H Hb Fr : Hp} {m : List Addr} {w : W} {x : V} (S : Sim g st H Hb Fr m) (r : RW g Hb m w x) {ns : List Int} (h : listI (view st w) = some ns) : ∃ p, x = .ref p ∧ SqL g.K H p (ns.map V.int) := by
  cases hv : view st w with
  | none => rw [hv] at h; cases h
  | some dv =>
    rw [hv] at h
    cases dv with
    | lst ds => exact list_ints S r hv h
    | _ => cases h
theorem foldW_ok {two : Int → Int → Int} {fo : Int → List Int → Int} {st : Store} {ws : List W} {d : D} (h : foldW two fo st ws = some d) :
    (∃ a b, ints2 ws = some (a, b) ∧ d = .int (two a b)) ∨ ∃ w x xs, ws = [w] ∧ listI (view st w) = some (x :: xs) ∧ d = .int (fo x xs) := by
  unfold foldW at h
  cases h2 : ints2 ws with
  | some p =>
    rw [h2] at h
    cases h
    exact .inl ⟨p.1, p.2, rfl, rfl⟩
  | none =>
    rw [h2] at h
    match ws, h with
    | [w], h =>
      have h : foldL fo (listI (view st w)) = some d := h
      cases hl : listI (view st w) with
      | none => rw [hl] at h; cases h
      | some ns =>
        rw [hl] at h
        cases ns with
        | nil => cases h
        | cons x xs =>
          cases h
          exact .inr ⟨w, x, xs, rfl, hl, rfl⟩
/-- a tuple is handed on as it stands -/
theorem whole_tup {g : Gx} {st : Store} {H Hb Fr : Hp} {m : List Addr} {w : W} {x : V} (S : Sim g st H Hb Fr m) (r : RW g Hb m w x) {us : List W} {ds : List D} (hi : items st w = some (true, us)) (hd : dats us = some ds) : RD g.K Hb (.tup ds) x := by
  have go : ∀ {d' : D} {v : V}, RD g.K Hb d' v → itemsD d' = some (true, us) → RD g.K Hb (.tup ds) v := fun {d' v} rv hi => by
    cases rv with
    | @tup a vs es h1 h2 h3 =>
      have e := Option.some.inj hi
      injection e with e1 e2
      rw [← e2, dats_map] at hd
      cases hd
      exact RD.tup h1 h2 h3
    | lst h1 h2 h3 =>
      have e := Option.some.inj hi
      injection e with e1 e2
      cases e1
    | _ => cases hi
  cases w with
  | v d' => exact go r hi
  | x k d' => cases hi
  | r n =>
    obtain ⟨q, hq, eq⟩ := r
    subst eq
    have hi : itemsC st[n]? = some (true, us) := hi
    cases hcc : st[n]? with
    | none =>
      rw [hcc] at hi
      cases hi
    | some cc =>
      rw [hcc] at hi
      have kk := S.cell n cc q hcc hq
      cases cc with
      | live xs =>
        have e := Option.some.inj hi
        injection e with e1 e2
        cases e1
      | frz d' => exact go kk.2 hi
theorem blt_ok (b : Bfn) (hb : bltPlain b = true) {st : Store} {H Hb Fr : Hp} {m : List Addr} {ws : List W} {vs : List V} {d : D} {Q : VK} {σ : L2.St} (S : Sim (gX X cls) st H Hb Fr m) (r : RWs (gX X cls) Hb m ws vs) (h : bltW b st ws = some d)
    (P : Post (gX X cls) wx σ Fr Hb m (.ok (.v d) st) (fun w _ Hb' m' H' => ∀ v, RW (gX X cls) Hb' m' w v → Q v H')) : BltR b X.K vs H Q := by
  match b, ws, h with
  | .len, [w], h =>
    obtain ⟨v, rfl, rv⟩ := rw1 r
    cases hi : items st w with
    | none =>
      have h : (items st w).map (fun p => D.int p.2.length) = some d := h
      rw [hi] at h
      cases h
    | some q =>
      obtain ⟨t, us⟩ := q
      have h : (items st w).map (fun p => D.int p.2.length) = some d := h
      rw [hi] at h
      cases h
      obtain ⟨p, vs, rfl, hs, rs, _⟩ := items_ok S rv hi
      refine ⟨p, vs, rfl, ?_, P.now S _ ?_⟩
      · rcases hs with ⟨_, hs⟩ | ⟨_, hs⟩
        · exact .inr hs
        · exact .inl hs
      · show RD _ _ (.int _) _
        rw [rs.length]
        exact .int _
  | .int, [.v (.int i)], h =>
    obtain ⟨v, rfl, rv⟩ := rw1 r
    cases h
    exact .inl ⟨i, by rw [rd_int rv], P.now S _ (RD.int _)⟩
  | .int, [.v (.bl k)], h =>
    obtain ⟨v, rfl, rv⟩ := rw1 r
    cases h
    exact .inr ⟨k, by rw [rd_bl rv], P.now S _ (RD.int _)⟩
  | .abs, [.v (.int i)], h =>
    obtain ⟨v, rfl, rv⟩ := rw1 r
    cases h
    exact ⟨i, by rw [rd_int rv], P.now S _ (RD.int _)⟩
  | .tuple, [w], h =>
    obtain ⟨v, rfl, rv⟩ := rw1 r
    obtain ⟨t, us, ds, hi, hd, ed⟩ := tupI_ok (show tupI (items st w) = some d from h)
    subst ed
    obtain ⟨p, vs, rfl, hs, rs, hz⟩ := items_ok S rv hi
    rcases hs with ⟨et, hs⟩ | ⟨et, hs⟩
    · subst et
      exact ⟨p, vs, rfl, .inr ⟨hs, P.now S _ (whole_tup S rv hi hd)⟩⟩
    · refine ⟨p, vs, rfl, .inl ⟨hs, fun l hl => P.newD S hl _ _ ?_⟩⟩
      exact RD.tup (SqT.of upd_same) ((rs.dats hd).mono (Same.new (S.fresh hl))) (by rw [dats_length hd]; exact hz)
  | .all, [w], h =>
    obtain ⟨v, rfl, rv⟩ := rw1 r
    obtain ⟨bs, hb, ed⟩ := map_ok (show (listB (view st w)).map (fun bs => D.bl (bs.all id)) = some d from h)
    subst ed
    obtain ⟨p, rfl, hs⟩ := listB_ok S rv hb
    exact ⟨p, bs, rfl, hs, P.now S _ (RD.bl _)⟩
  | .any, [w], h =>
    obtain ⟨v, rfl, rv⟩ := rw1 r
    obtain ⟨bs, hb, ed⟩ := map_ok (show (listB (view st w)).map (fun bs => D.bl (bs.any id)) = some d from h)
    subst ed
    obtain ⟨p, rfl, hs⟩ := listB_ok S rv hb
    exact ⟨p, bs, rfl, hs, P.now S _ (RD.bl _)⟩
  | .min, ws, h =>
    rcases foldW_ok (show foldW (fun a b => if b < a then b else a) least st ws = some d from h) with ⟨a, b, h2, rfl⟩ | ⟨w, x, xs, rfl, hl, rfl⟩
    · obtain ⟨rfl, _⟩ := ints2_ok h2 r
      exact .inl ⟨a, b, rfl, P.now S _ (RD.int _)⟩
    · obtain ⟨v, rfl, rv⟩ := rw1 r
      obtain ⟨p, rfl, hs⟩ := listI_ok S rv hl
      refine .inr ⟨p, x :: xs, rfl, hs, Nat.succ_pos _, fun k hk hy => ?_⟩
      obtain ⟨l1, l2, l3⟩ := least_mem xs x
      have e : k = least x xs := by
        have z1 : k ≤ least x xs := hy _ (l1.elim (fun z => by rw [z]; exact List.mem_cons_self) fun z => List.mem_cons_of_mem _ z)
        have z2 : least x xs ≤ k := (List.mem_cons.mp hk).elim (fun z => by rw [z]; exact l2) (l3 k)
        omega
      rw [e]
      exact P.now S _ (RD.int _)
  | .max, ws, h =>
    rcases foldW_ok (show foldW (fun a b => if b > a then b else a) most st ws = some d from h) with ⟨a, b, h2, rfl⟩ | ⟨w, x, xs, rfl, hl, rfl⟩
    · obtain ⟨rfl, _⟩ := ints2_ok h2 r
      exact .inl ⟨a, b, rfl, P.now S _ (RD.int _)⟩
    · obtain ⟨v, rfl, rv⟩ := rw1 r
      obtain ⟨p, rfl, hs⟩ := listI_ok S rv hl
      refine .inr ⟨p, x :: xs, rfl, hs, Nat.succ_pos _, fun k hk hy => ?_⟩
      obtain ⟨l1, l2, l3⟩ := most_mem xs x
      have e : k = most x xs := by
        have z1 : most x xs ≤ k := hy _ (l1.elim (fun z => by rw [z]; exact List.mem_cons_self) fun z => List.mem_cons_of_mem _ z)
        have z2 : k ≤ most x xs := (List.mem_cons.mp hk).elim (fun z => by rw [z]; exact l2) (l3 k)
        omega
      rw [e]
      exact P.now S _ (RD.int _)
theorem c_call {b : Bfn} {es : Es} {e : Expr} {xs : List Expr} {p pos : Pos} (hb : bltPlain b = true) (hc : X.calm = true) (h : Bi X (bltN b) (bltV b)) (hn : (e :: xs).all notStar = true) (ha : PA X (e :: xs) (tEs (gX X cls) xa c wx es)) :
    PE X (.Call (.Name (bltN b) p) (e :: xs) [] pos) (tE (gX X cls) xa c wx (.blt b es)) :=
  c_blt (call_any (bltV_kind b) (blt_rule b hc) h ha hn) fun S r h P => blt_ok b hb S r h P

/-! ### isinstance -/
def isiT : Bfn → String
  | .isint => "int" | .isbool => "bool" | _ => "str"
theorem kit_isi (b : Bfn) (hb : b = .isint ∨ b = .isbool ∨ b = .isstr) {st : Store} {w : W} {dk d : D} (hk : kindW st w = some dk) (h : bltW b st [w] = some d) {K : PySem.W.Frag} : ∃ k, d = .bl k ∧ PySem.W.kitOne K (.type (tyN dk)) (.type (isiT b)) = some k := by
  rcases hb with rfl | rfl | rfl
  · have h : (kindW st w).map (fun d => D.bl (isInt d)) = some d := h
    rw [hk] at h
    cases h
    exact ⟨_, rfl, kit_int dk⟩
  · have h : (kindW st w).map (fun d => D.bl (isBool d)) = some d := h
    rw [hk] at h
    cases h
    exact ⟨_, rfl, kit_bool dk⟩
  · have h : (kindW st w).map (fun d => D.bl (isStr d)) = some d := h
    rw [hk] at h
    cases h
    exact ⟨_, rfl, kit_str dk⟩
theorem kind_some (b : Bfn) (hb : b = .isint ∨ b = .isbool ∨ b = .isstr ∨ b = .isseq) {st : Store} {w : W} {d : D} (h : bltW b st [w] = some d) : ∃ dk, kindW st w = some dk := by
  cases hk : kindW st w with
  | some dk => exact ⟨dk, rfl⟩
  | none =>
    rcases hb with rfl | rfl | rfl | rfl
    · have h : (kindW st w).map (fun d => D.bl (isInt d)) = some d := h
      rw [hk] at h
      cases h
    · have h : (kindW st w).map (fun d => D.bl (isBool d)) = some d := h
      rw [hk] at h
      cases h
    · have h : (kindW st w).map (fun d => D.bl (isStr d)) = some d := h
      rw [hk] at h
      cases h
    · have h : (kindW st w).map (fun d => D.bl (isSeq d)) = some d := h
      rw [hk] at h
      cases h
/-- one value, then a step -/
theorem e_one {a : E} {α : Type} {f : W → Store → R α} {env : Env} {st : Store} {σ : L2.St} {H Hb Fr : Hp} {m : List Addr} {k : α → Store → Hp → List Addr → Hp → Prop} {Q : VK} (S : Sim (gX X cls) st H Hb Fr m) (E : RE (gX X cls) xa Hb m env σ)
    (P : Post (gX X cls) wx σ Fr Hb m ((evE c a env st).bind f) k)
    (hr : ∀ {w : W} {st1 : Store} {H1 Hb1 : Hp} {m1 : List Addr} {v : V}, Sim (gX X cls) st1 H1 Hb1 Fr m1 → RW (gX X cls) Hb1 m1 w v → Post (gX X cls) wx σ Fr Hb1 m1 (f w st1) k → Q v H1) : tE (gX X cls) xa c wx a σ H Q :=
  ⟨env, st, Hb, Fr, m, S, E, P.thn fun w st1 H1 Hb1 m1 S1 e1 p1 P1 v rv => hr S1 rv P1⟩
theorem evEs_one {a : E} {env : Env} {st : Store} {β : Type} {f : List W → Store → R β} : (evEs c (.cons a .nil) env st).bind f = (evE c a env st).bind fun w st1 => f [w] st1 := by
  rw [evEs]
  cases evE c a env st with
  | ok w st1 =>
    show ((evEs c .nil env st1).bind fun ws st2 => R.ok (w :: ws) st2).bind f = f [w] st1
    rw [evEs]
    rfl
  | exc _ _ _ => rfl
  | stuck => rfl
theorem c_isi {b : Bfn} {a : E} {x : Expr} {n : Str} {p p2 pos : Pos} (hb : b = .isint ∨ b = .isbool ∨ b = .isstr) (h : Bi X "isinstance" (.builtin "isinstance")) (ht : Bi X n (.type (isiT b))) (hn : notStar x = true) (ha : PE X x (tE (gX X cls) xa c wx a)) :
    PE X (.Call (.Name "isinstance" p) [x, .Name n p2] [] pos) (tE (gX X cls) xa c wx (.blt b (.cons a .nil))) :=
  ⟨fun pins s σ H Q I q => (call_any (.inl ⟨_, rfl⟩) call_isi h (pa_cons ha (pa_cons (pe_bltn (v := .ty (isiT b)) ht.gl ht.mg ht.bo rfl ht.nn ht.nd) pa_nil) (star_cons hn)) (by rw [List.all_cons, hn]; rfl)).run pins s σ H Q I (by
    obtain ⟨env, st, Hb, Fr, m, S, E, P⟩ := q
    rw [evE, evEs_one] at P
    refine e_one S E P fun {w st1 H1 Hb1 m1 v} S1 rv P1 => ?_
    obtain ⟨d, hd, P1⟩ := Post.data P1
    obtain ⟨dk, hk⟩ := kind_some b (by rcases hb with h | h | h <;> simp [h]) hd
    obtain ⟨k, rfl, hkit⟩ := kit_isi b hb hk hd (K := X.K)
    exact ⟨v, .ty (isiT b), _, _, k, rfl, .ty _, kind_ok S1 rv hk, hkit, P1.now S1 _ (RD.bl _)⟩)⟩
theorem c_isiSeq {a : E} {x : Expr} {kk : Nat} {p p2 p3 p4 pos : Pos} (h : Bi X "isinstance" (.builtin "isinstance")) (hl : Bi X "list" (.type "list")) (ht : Bi X "tuple" (.type "tuple")) (hn : notStar x = true) (ha : PE X x (tE (gX X cls) xa c wx a)) :
    PE X (.Call (.Name "isinstance" p) [x, .Tuple [.Name "list" p2, .Name "tuple" p3] kk p4] [] pos) (tE (gX X cls) xa c wx (.blt .isseq (.cons a .nil))) :=
  ⟨fun pins s σ H Q I q => (call_any (.inl ⟨_, rfl⟩) call_isiT h (pa_cons ha (pa_cons (pe_tup (pa_cons (pe_bltn (v := .ty "list") hl.gl hl.mg hl.bo rfl hl.nn hl.nd) (pa_cons (pe_bltn (v := .ty "tuple") ht.gl ht.mg ht.bo rfl ht.nn ht.nd) pa_nil))) pa_nil) (star_cons hn)) (by rw [List.all_cons, hn]; rfl)).run pins s σ H Q I (by
    obtain ⟨env, st, Hb, Fr, m, S, E, P⟩ := q
    rw [evE, evEs_one] at P
    refine e_one S E P fun {w st1 H1 Hb1 m1 v} S1 rv P1 => ?_
    obtain ⟨d, hd, P1⟩ := Post.data P1
    obtain ⟨dk, hk⟩ := kind_some .isseq (by simp) hd
    have hd : (kindW st1 w).map (fun d => D.bl (isSeq d)) = some d := hd
    rw [hk] at hd
    cases hd
    refine ⟨by show 2 ≤ sizeLine; decide, fun tp htp => ?_⟩
    have S2 := S1.newD (o := .tup [.ty "list", .ty "tuple"]) htp
    refine ⟨v, tp, [.ty "list", .ty "tuple"], _, [.type "list", .type "tuple"], isSeq dk, rfl, upd_same, .cons (.ty _) (.cons (.ty _) .nil), kind_ok S2 (rv.mono (Same.new (S1.fresh htp)) (Pre.refl m1)) hk, kit_seq dk, ?_⟩
    exact P1.newD S1 htp _ _ (RD.bl _))⟩

/-! ### list(..), sorted(..) -/
theorem l_ofs {a : E} {x : Expr} {p pos : Pos} (h : Bi X "list" (.type "list")) (hn : notStar x = true) (ha : PE X x (tE (gX X cls) xa c wx a)) : PE X (.Call (.Name "list" p) [x] [] pos) (tL (gX X cls) xa c wx (.ofs a)) :=
  ⟨fun pins s σ H Q I q => (call_any (.inr ⟨_, rfl⟩) call_list_of h (pa_cons ha pa_nil (star_cons hn)) (by rw [List.all_cons, hn]; rfl)).run pins s σ H Q I (by
    obtain ⟨env, st, Hb, Fr, m, S, E, P⟩ := q
    rw [evL] at P
    refine e_one S E P fun {w st1 H1 Hb1 m1 v} S1 rv P1 => ?_
    cases hi : items st1 w with
    | none =>
      rw [hi] at P1
      exact P1.elim
    | some tq =>
      obtain ⟨t, us⟩ := tq
      rw [hi] at P1
      obtain ⟨p, vs, rfl, hs, rs, hz⟩ := items_ok S1 rv hi
      refine ⟨p, vs, rfl, ?_, fun l hl => Post.now P1 S1 l vs hl rs hz⟩
      rcases hs with ⟨_, hs⟩ | ⟨_, hs⟩
      · exact .inr hs
      · exact .inl hs)⟩
theorem rws_ints {g : Gx} {H : Hp} {m : List Addr} : ∀ ns : List Int, RWs g H m (ns.map fun i => .v (.int i)) (ns.map V.int)
  | [] => .nil
  | n :: ns => .cons (RD.int n) (rws_ints ns)
theorem l_srt {a : E} {x : Expr} {p pos : Pos} (h : Bi X "sorted" (.builtin "sorted")) (hn : notStar x = true) (ha : PE X x (tE (gX X cls) xa c wx a)) : PE X (.Call (.Name "sorted" p) [x] [] pos) (tL (gX X cls) xa c wx (.srt a)) :=
  ⟨fun pins s σ H Q I q => (call_any (.inl ⟨_, rfl⟩) cr_sortedI h (pa_cons ha pa_nil (star_cons hn)) (by rw [List.all_cons, hn]; rfl)).run pins s σ H Q I (by
    obtain ⟨env, st, Hb, Fr, m, S, E, P⟩ := q
    rw [evL] at P
    refine e_one S E P fun {w st1 H1 Hb1 m1 v} S1 rv P1 => ?_
    obtain ⟨ws, hw, P1⟩ := listS_ok P1 S1
    cases hv : view st1 w with
    | none => rw [hv] at hw; cases hw
    | some dv =>
      rw [hv] at hw
      cases dv with
      | lst ds =>
        obtain ⟨ns, hns, ew⟩ := map_ok (show (intsD ds).map (fun ns => (sortI ns).map fun i => W.v (.int i)) = some ws from hw)
        subst ew
        obtain ⟨p, vs, ex, hs, rs, hz⟩ := view_lst S1 rv hv
        have e := rds_ints rs hns
        subst e
        refine ⟨p, ns, by rw [ex], hs, fun ns' l hp hpw hl => ?_⟩
        have e : ns' = sortI ns := pw_eq (hp.trans (sortI_perm ns).symm) hpw (sortI_pw ns)
        subst e
        refine P1 l _ hl (rws_ints _) ?_
        rw [List.length_map, (sortI_perm ns).length_eq]
        rw [rs.length, List.length_map] at hz
        exact hz
      | _ => cases hw)⟩

/-! ### the lists' methods -/
theorem live_of {g : Gx} {st : Store} {H Hb Fr : Hp} {m : List Addr} (S : Sim g st H Hb Fr m) {n : Nat} {p : Addr} {ws : List W} (hp : m[n]? = some p) (h : st[n]? = some (.live ws)) : ∃ vs, H p = some (.lst vs) ∧ RWs g Hb m ws vs ∧ ws.length ≤ sizeLine := by
  obtain ⟨_, _, vs, k3, k4, k5⟩ := S.cell n _ p h hp
  exact ⟨vs, k3, k4, k5⟩
theorem c_pop {a : E} {x : Expr} {ap pos : Pos} (hl : (ap.endLine == pos.line) = true) (hn : notCall0 x = true) (ha : PE X x (tE (gX X cls) xa c wx a)) : PE X (.Call (.Attribute x "pop" ap) [] [] pos) (tE (gX X cls) xa c wx (.pop a)) :=
  ⟨fun pins s σ H Q I q => (pe_bm0 F.plainAttrs_list F.slot_list_pop F.type_list_pop mt_pop ha (base_plain hn) hl).run pins s σ H Q I (by
    obtain ⟨env, st, Hb, Fr, m, S, E, P⟩ := q
    rw [evE] at P
    refine e_one S E P fun {w st1 H1 Hb1 m1 v} S1 rv P1 => ?_
    cases w with
    | v d => exact P1.elim
    | x k d => exact P1.elim
    | r n =>
      obtain ⟨p, hp, rfl⟩ := rv
      have P1 : Post (gX X cls) wx σ Fr Hb1 m1 (popC st1 n st1[n]?) _ := P1
      cases hc : st1[n]? with
      | none =>
        rw [hc] at P1
        exact P1.elim
      | some cc =>
        rw [hc] at P1
        cases cc with
        | frz d => exact P1.elim
        | live ws =>
          obtain ⟨vs, h1, h2, h3⟩ := live_of S1 hp hc
          have P1 : Post (gX X cls) wx σ Fr Hb1 m1 (match ws[ws.length - 1]? with | some w => R.ok w (st1.set n (.live ws.dropLast)) | none => .stuck) _ := P1
          cases hw : ws[ws.length - 1]? with
          | none =>
            rw [hw] at P1
            exact P1.elim
          | some w =>
            rw [hw] at P1
            obtain ⟨y, hy, ry⟩ := h2.get hw
            refine ⟨.inl ⟨rfl, vs, SqL.of h1⟩, p, vs, y, rfl, rfl, h1, by rw [← h2.length]; exact hy, ?_⟩
            exact P1 _ Hb1 m1 (S1.write hc hp h2.dropLast (by rw [List.length_dropLast]; omega)) (fun _ _ e => e) (Pre.refl m1) y ry)⟩
theorem few_one {x : Expr} {env : PySem.Env} {cpos : Pos} (hn : notStar x = true) : ((backTo cpos (starEach [x] env)).all (fun x => !x.1) && (backToKw cpos (keywordEach [] env)).all (fun x => x.1.isSome)
      && decide (([x] : List Expr).length + ([] : List Keyword).length + (if ([] : List Keyword).isEmpty then 0 else 1) < 30)) = true := by
  rw [star_all (by rw [List.all_cons, hn]; rfl)]
  rfl
theorem lstOf_live {st : Store} {n : Nat} {ws : List W} (h : st[n]? = some (.live ws)) : lstOf (items st (.r n)) = some ws := by
  show lstOf (itemsC st[n]?) = some ws
  rw [h]
  rfl
theorem c_popi {a b : E} {x y : Expr} {ap pos : Pos} (hl : (ap.endLine == pos.line) = true) (hn : notCall0 x = true) (hy : notStar y = true) (ha : PE X x (tE (gX X cls) xa c wx a)) (hb : PE X y (tE (gX X cls) xa c wx b)) :
    PE X (.Call (.Attribute x "pop" ap) [y] [] pos) (tE (gX X cls) xa c wx (.popi a b)) :=
  ⟨fun pins s σ H Q I q => (pe_bm F.plainAttrs_list F.slot_list_pop F.type_list_pop mt_popAt ha (pa_cons hb pa_nil (star_cons hy)) (base_plain hn) (few_one hy) hl (star_cons hy) rfl).run pins s σ H Q I (by
    obtain ⟨env, st, Hb, Fr, m, S, E, P⟩ := q
    rw [evE] at P
    refine ⟨env, st, Hb, Fr, m, S, E, P.thn fun w st1 H1 Hb1 m1 S1 e1 p1 P1 v rv => ?_⟩
    cases ho : lstOf (items st1 w) with
    | none =>
      rw [ho] at P1
      exact P1.elim
    | some us =>
      rw [ho] at P1
      obtain ⟨p, vs, rfl, hs, _⟩ := lst_ok S1 rv ho
      refine ⟨.inl ⟨rfl, vs, hs⟩, env, st1, Hb1, Fr, m1, S1, E.mono e1 p1, Post.thn P1 fun u st2 H2 Hb2 m2 S2 e2 p2 P2 z rz => ?_⟩
      cases w with
      | v d => exact P2.elim
      | x k d => exact P2.elim
      | r n =>
        obtain ⟨p', hp, eq⟩ := rv
        cases eq
        have hp := p2 _ _ hp
        cases hu : intOf u with
        | none =>
          have : popiS (.r n) u st2 = .stuck := by
            cases u with
            | v d => cases d <;> first | rfl | cases hu
            | _ => rfl
          rw [this] at P2
          exact P2.elim
        | some i =>
          have eu : u = .v (.int i) := by
            cases u with
            | v d => cases d <;> first | (cases hu; rfl) | cases hu
            | _ => cases hu
          subst eu
          have P2 : Post (gX X cls) wx σ Fr Hb2 m2 (popiC st2 n i st2[n]?) _ := P2
          cases hc : st2[n]? with
          | none =>
            rw [hc] at P2
            exact P2.elim
          | some cc =>
            rw [hc] at P2
            cases cc with
            | frz d => exact P2.elim
            | live ws =>
              obtain ⟨vs, h1, h2, h3⟩ := live_of S2 hp hc
              have P2 : Post (gX X cls) wx σ Fr Hb2 m2 (if 0 ≤ i ∧ i < (ws.length : Int) then (match ws[i.toNat]? with | some w => R.ok w (st2.set n (.live (ws.eraseIdx i.toNat))) | none => .stuck) else .stuck) _ := P2
              by_cases hi : 0 ≤ i ∧ i < (ws.length : Int)
              · rw [if_pos hi] at P2
                cases hw : ws[i.toNat]? with
                | none =>
                  rw [hw] at P2
                  exact P2.elim
                | some w =>
                  rw [hw] at P2
                  obtain ⟨y, hy, ry⟩ := h2.get hw
                  have hz : (ws.length : Int) ≤ 16777216 := by
                    have := h3
                    rw [sizeLine_eq] at this
                    omega
                  have hl := h2.length
                  refine ⟨p, vs, i, i.toNat, y, rfl, by rw [rd_int rz], h1, by omega, by omega, seqIndex_of hi.1 (by rw [← hl]; exact hi.2), hy, ?_⟩
                  exact P2 _ Hb2 m2 (S2.write hc hp (h2.erase i.toNat) (Nat.le_trans (len_erase ws i.toNat) h3)) (fun _ _ e => e) (Pre.refl m2) y ry
              · rw [if_neg hi] at P2
                exact P2.elim)⟩
theorem c_app {a b : E} {x y : Expr} {ap pos : Pos} (hl : (ap.endLine == pos.line) = true) (hn : notCall0 x = true) (hy : notStar y = true) (ha : PE X x (tE (gX X cls) xa c wx a)) (hb : PE X y (tE (gX X cls) xa c wx b)) :
    PE X (.Call (.Attribute x "append" ap) [y] [] pos) (tE (gX X cls) xa c wx (.app a b)) :=
  ⟨fun pins s σ H Q I q => (pe_bm F.plainAttrs_list F.slot_list_append F.type_list_append mt_append ha (pa_cons hb pa_nil (star_cons hy)) (base_plain hn) (few_one hy) hl (star_cons hy) rfl).run pins s σ H Q I (by
    obtain ⟨env, st, Hb, Fr, m, S, E, P⟩ := q
    rw [evE] at P
    refine ⟨env, st, Hb, Fr, m, S, E, P.thn fun w st1 H1 Hb1 m1 S1 e1 p1 P1 v rv => ?_⟩
    cases ho : lstOf (items st1 w) with
    | none =>
      rw [ho] at P1
      exact P1.elim
    | some us =>
      rw [ho] at P1
      obtain ⟨p, vs, rfl, hs, _⟩ := lst_ok S1 rv ho
      refine ⟨.inl ⟨rfl, vs, hs⟩, env, st1, Hb1, Fr, m1, S1, E.mono e1 p1, Post.thn P1 fun u st2 H2 Hb2 m2 S2 e2 p2 P2 z rz => ?_⟩
      cases w with
      | v d => exact P2.elim
      | x k d => exact P2.elim
      | r n =>
        obtain ⟨p', hp, eq⟩ := rv
        cases eq
        have hp := p2 _ _ hp
        have P2 : Post (gX X cls) wx σ Fr Hb2 m2 (appC st2 n u st2[n]?) _ := P2
        cases hc : st2[n]? with
        | none =>
          rw [hc] at P2
          exact P2.elim
        | some cc =>
          rw [hc] at P2
          cases cc with
          | frz d => exact P2.elim
          | live ws =>
            obtain ⟨vs, h1, h2, h3⟩ := live_of S2 hp hc
            have P2 : Post (gX X cls) wx σ Fr Hb2 m2 (if ws.length < LIM then R.ok (W.v .non) (st2.set n (.live (ws ++ [u]))) else .stuck) _ := P2
            by_cases hi : ws.length < LIM
            · rw [if_pos hi] at P2
              have hz := lim_lt (Nat.le_of_lt hi)
              refine ⟨p, vs, z, rfl, rfl, h1, by rw [← h2.length]; exact hz, ?_⟩
              refine P2 _ Hb2 m2 (S2.write hc hp (h2.append (.cons rz .nil)) ?_) (fun _ _ e => e) (Pre.refl m2) .non RD.non
              rw [List.length_append]
              exact hz
            · rw [if_neg hi] at P2
              exact P2.elim)⟩
end
end Pf
set_option Elab.async false
set_option linter.all false
set_option maxRecDepth 100000
set_option maxHeartbeats 1000000
/-! Pf, part H: what is walked; list comprehensions. -/
namespace Pf
open PySem PySem.Spec PyProof.Rows L2

/-- the values of turn i, none behind the last -/
def nxt (w : Pf.It) (tg : List Nat) (st : Store) (i : Nat) : Option (Option (List W)) :=
  match w with
  | .fix wss => some wss[i]?
  | .liv en n => lookL en st tg n i
/-- what an iterator gives is a turn's values -/
def TurnOk (g : Gx) (Hb : Hp) (m : List Addr) (tg : List Nat) (ws : List W) (x : V) (H H' : Hp) : Prop :=
  (∃ i w, tg = [i] ∧ ws = [w] ∧ RW g Hb m w x ∧ H' = H) ∨
  (tg.length ≠ 1 ∧ ∃ T vs, x = .ref T ∧ SqT g.K H' T vs ∧ RWs g Hb m ws vs ∧ (H' = H ∨ (H T = none ∧ H' = upd H T (.tup vs))))
structure ItOk (g : Gx) (J : L2.It) (w : Pf.It) (tg : List Nat) (Hb : Hp) (m : List Addr) : Prop where
  few : ∀ wss, w = .fix wss → wss.length ≤ sizeLine
  stop : ∀ st H Hb1 Fr m1, Sim g st H Hb1 Fr m1 → Same Hb Hb1 → Pre m m1 → ∀ i, nxt w tg st i = some none → J.stop i H
  go : ∀ st H Hb1 Fr m1, Sim g st H Hb1 Fr m1 → Same Hb Hb1 → Pre m m1 → ∀ i ws, nxt w tg st i = some (some ws) → J.go i H ∧ ∀ x H', J.yld i H x H' → TurnOk g Hb1 m1 tg ws x H H'
def tI (g : Gx) (xa : Option (Addr × Option Addr × Addr)) (c : Pf.Cx) (wx : WX) (tg : List Nat) (it : I) : TI := fun σ H R => ∃ env st Hb Fr m, Sim g st H Hb Fr m ∧ RE g xa Hb m env σ ∧ Post g wx σ Fr Hb m (evI c tg it env st) fun w _ Hb' m' H' => ∀ J, ItOk g J w tg Hb' m' → R J H'
def gNames : List Nat → TGs
  | [] => gNil
  | i :: is => gCons (gName i) (gNames is)
def gTg (K : PySem.W.Frag) (tg : List Nat) : TG :=
  match tg with
  | [i] => gName i
  | _ => gTup K tg.length (gNames tg)
def wipes (tg : List Nat) (σ σ' : L2.St) : Prop := ∀ vs : List Nat, (∀ i ∈ tg, i ∈ vs) → L2.wipe σ' vs = L2.wipe σ vs
theorem wipe_get (σ : L2.St) (i : Nat) : ∀ vs : List Nat, (L2.wipe σ vs)[i]? = if i ∈ vs then (if i < σ.length then some none else none) else σ[i]?
  | [] => by
    rw [if_neg (by simp)]
    rfl
  | v :: vs => by
    unfold L2.wipe
    by_cases h : v = i
    · subst h
      rw [if_pos List.mem_cons_self, List.getElem?_set]
      rw [if_pos rfl, L2.wipe_length]
    · rw [List.getElem?_set_ne h, wipe_get σ i vs]
      by_cases h2 : i ∈ vs
      · rw [if_pos h2, if_pos (List.mem_cons_of_mem _ h2)]
      · rw [if_neg h2, if_neg]
        intro z
        rcases List.mem_cons.mp z with e | e
        · exact h e.symm
        · exact h2 e
theorem wipe_set {σ : L2.St} {i : Nat} {o : Option V} {vs : List Nat} (h : i ∈ vs) : L2.wipe (σ.set i o) vs = L2.wipe σ vs := by
  apply List.ext_getElem?
  intro j
  rw [wipe_get, wipe_get, List.length_set]
  by_cases hj : j ∈ vs
  · rw [if_pos hj, if_pos hj]
  · rw [if_neg hj, if_neg hj, List.getElem?_set_ne]
    intro e
    subst e
    exact hj h
theorem wipe_wipe (σ : L2.St) (vs : List Nat) : L2.wipe (L2.wipe σ vs) vs = L2.wipe σ vs := by
  apply List.ext_getElem?
  intro j
  rw [wipe_get, wipe_get, L2.wipe_length]
  by_cases hj : j ∈ vs
  · rw [if_pos hj, if_pos hj]
  · rw [if_neg hj, if_neg hj]
section
variable {g : Gx} {xa : Option (Addr × Option Addr × Addr)} {H H' Hb Fr : Hp} {m : List Addr} {st : Store} {env env' : Pf.Env} {σ : L2.St}
/-- names take values one by one -/
theorem names_ok : ∀ {tg : List Nat} {ws : List W} {vs : List V} {env : Pf.Env} {σ : L2.St}, RE g xa Hb m env σ → RWs g Hb m ws vs → bindTg tg ws env = some env' → ∀ {Q : L2.St → Hp → Prop}, (∀ σ', RE g xa Hb m env' σ' → wipes tg σ σ' → Q σ' H) → gNames tg vs σ H Q
  | [], [], _, env, σ, E, .nil, hb, Q, q => by
    cases hb
    exact ⟨rfl, q σ E fun _ _ => rfl⟩
  | [], _ :: _, _, env, σ, E, _, hb, Q, q => by cases hb
  | _ :: _, [], _, env, σ, E, _, hb, Q, q => by cases hb
  | i :: is, w :: ws, _, env, σ, E, .cons r rs, hb, Q, q => by
    refine ⟨_, _, rfl, ?_⟩
    exact names_ok (E.set r) rs hb fun σ' E' w' => q σ' E' fun vs hv => by
      rw [w' vs fun j hj => hv j (List.mem_cons_of_mem _ hj), wipe_set (hv i List.mem_cons_self)]
theorem bind_len : ∀ {tg : List Nat} {ws : List W} {env : Pf.Env}, bindTg tg ws env = some env' → tg.length = ws.length
  | [], [], _, _ => rfl
  | [], _ :: _, _, h => by cases h
  | _ :: _, [], _, h => by cases h
  | _ :: is, _ :: ws, _, h => by rw [List.length_cons, List.length_cons, bind_len (tg := is) (ws := ws) h]
theorem tg_ok {tg : List Nat} {ws : List W} {x : V} (T : TurnOk g Hb m tg ws x H H') (S : Sim g st H Hb Fr m) (E : RE g xa Hb m env σ) (hb : bindTg tg ws env = some env') {Q : L2.St → Hp → Prop}
    (q : ∀ σ' Hb', Sim g st H' Hb' Fr m → Same Hb Hb' → RE g xa Hb' m env' σ' → wipes tg σ σ' → Q σ' H') : gTg g.K tg x σ H' Q := by
  rcases T with ⟨i, w, rfl, rfl, r, rfl⟩ | ⟨hl, T, vs, rfl, hT, rs, hH⟩
  · have e : env.set i (some w) = env' := Option.some.inj hb
    subst e
    exact q _ Hb S (fun _ _ e => e) (E.set r) fun vs hv => wipe_set (hv i List.mem_cons_self)
  · have eg : gTg g.K tg = gTup g.K tg.length (gNames tg) := by
      match tg, hl with
      | [], _ => rfl
      | _ :: _ :: _, _ => rfl
    rw [eg]
    have en : vs.length = tg.length := by rw [bind_len hb, rs.length]
    rcases hH with rfl | ⟨hn, rfl⟩
    · exact ⟨T, vs, rfl, hT, en, names_ok E rs hb fun σ' E' w' => q σ' Hb S (fun _ _ e => e) E' w'⟩
    · have e := Same.new (o := .tup vs) (S.fresh hn)
      exact ⟨T, vs, rfl, hT, en, names_ok (E.mono e (Pre.refl m)) (rs.mono e (Pre.refl m)) hb fun σ' E' w' => q σ' _ (S.newD hn) e E' w'⟩

/-! ### a list beside the store -/
def del (H : Hp) (a : Addr) : Hp := fun b => if b = a then none else H b
theorem del_same {H : Hp} {a : Addr} : del H a a = none := if_pos rfl
theorem del_ne {H : Hp} {a b : Addr} (h : b ≠ a) : del H a b = H b := if_neg h
theorem upd_del {H : Hp} {a : Addr} {o : HO} (h : H a = some o) : upd (del H a) a o = H := by
  funext b
  by_cases e : b = a
  · subst e
    rw [upd_same, h]
  · rw [upd_ne e, del_ne e]
theorem upd_id {H : Hp} {a : Addr} {o : HO} (h : H a = some o) : upd H a o = H := by
  funext b
  by_cases e : b = a
  · subst e
    rw [upd_same, h]
  · rw [upd_ne e]
theorem Sim.frameNew {D : Addr} {o : HO} (S : Sim g st H Hb Fr m) (hD : H D = none) : Sim g st (upd H D o) Hb (upd Fr D o) m where
  hb := fun a u e => by
    have h1 := S.hb a u e
    rw [upd_ne (ne_of_none h1 hD)]
    exact h1
  fr := fun a u e => by
    by_cases ha : a = D
    · subst ha
      rw [upd_same] at e ⊢
      exact e
    · rw [upd_ne ha] at e ⊢
      exact S.fr a u e
  dj := fun a h => by
    by_cases ha : a = D
    · subst ha
      exact S.fresh hD
    · rw [upd_ne ha] at h
      exact S.dj a h
  len := S.len
  inj := S.inj
  cell := fun n c q h1 h2 => by
    have k := S.cell n c q h1 h2
    cases c with
    | frz d => exact k
    | live ws =>
      obtain ⟨k1, k2, vs, k3, k4, k5⟩ := k
      have hne : q ≠ D := ne_of_none k3 hD
      exact ⟨k1, by rw [upd_ne hne]; exact k2, vs, by rw [upd_ne hne]; exact k3, k4, k5⟩
theorem Sim.frameSet {D : Addr} {o u : HO} (S : Sim g st H Hb (upd Fr D o) m) : Sim g st (upd H D u) Hb (upd Fr D u) m where
  hb := fun a v e => by
    have hne : a ≠ D := fun z => by
      subst z
      rw [S.dj a (by rw [upd_same]; exact fun z => nomatch z)] at e
      cases e
    rw [upd_ne hne]
    exact S.hb a v e
  fr := fun a v e => by
    by_cases ha : a = D
    · subst ha
      rw [upd_same] at e ⊢
      exact e
    · rw [upd_ne ha] at e ⊢
      exact S.fr a v (by rw [upd_ne ha]; exact e)
  dj := fun a h => S.dj a (by
    by_cases ha : a = D
    · subst ha
      rw [upd_same]
      exact fun z => nomatch z
    · rw [upd_ne ha] at h ⊢
      exact h)
  len := S.len
  inj := S.inj
  cell := fun n c q h1 h2 => by
    have k := S.cell n c q h1 h2
    cases c with
    | frz d => exact k
    | live ws =>
      obtain ⟨k1, k2, vs, k3, k4, k5⟩ := k
      have hne : q ≠ D := fun z => by
        subst z
        rw [upd_same] at k2
        cases k2
      rw [upd_ne hne] at k2
      exact ⟨k1, by rw [upd_ne hne]; exact k2, vs, by rw [upd_ne hne]; exact k3, k4, k5⟩
theorem Sim.frameDel {D : Addr} {o : HO} (S : Sim g st H Hb (upd Fr D o) m) (hF : Fr D = none) : Sim g st (del H D) Hb Fr m where
  hb := fun a v e => by
    have hne : a ≠ D := fun z => by
      subst z
      rw [S.dj a (by rw [upd_same]; exact fun z => nomatch z)] at e
      cases e
    rw [del_ne hne]
    exact S.hb a v e
  fr := fun a v e => by
    have hne : a ≠ D := ne_of_none e hF
    rw [del_ne hne]
    exact S.fr a v (by rw [upd_ne hne]; exact e)
  dj := fun a h => S.dj a (by
    by_cases ha : a = D
    · subst ha
      rw [upd_same]
      exact fun z => nomatch z
    · rw [upd_ne ha]
      exact h)
  len := S.len
  inj := S.inj
  cell := fun n c q h1 h2 => by
    have k := S.cell n c q h1 h2
    cases c with
    | frz d => exact k
    | live ws =>
      obtain ⟨k1, k2, vs, k3, k4, k5⟩ := k
      have hne : q ≠ D := fun z => by
        subst z
        rw [upd_same] at k2
        cases k2
      rw [upd_ne hne] at k2
      exact ⟨k1, k2, vs, by rw [del_ne hne]; exact k3, k4, k5⟩
end

/-! ### the turns of a comprehension -/
/-- what is left of it at turn i with measure n -/
def lcRest (w : Pf.It) (tg : List Nat) (env : Pf.Env) (t : Pf.Env → Store → R Bool) (e : Pf.Env → Store → R W) (i n : Nat) (acc : List W) (st : Store) : R (List W) :=
  match w with
  | .fix wss => lcFix tg env t e (wss.drop i) acc st
  | .liv en k => lcLiv en tg env t e k n i acc st
/-- the measure fits -/
def lcFits (w : Pf.It) (i n : Nat) (acc : List W) : Prop :=
  match w with
  | .fix wss => n + i = wss.length ∧ acc.length ≤ i
  | .liv _ _ => True
theorem lcOne_ok {t : R Bool} {e : Store → R W} {more : List W → Store → R (List W)} {acc : List W} (h : lcOne t e more acc ≠ .stuck) :
    (∃ st1 st2 y, t = .ok true st1 ∧ e st1 = .ok y st2 ∧ lcOne t e more acc = more (acc ++ [y]) st2) ∨ ∃ st1, t = .ok false st1 ∧ lcOne t e more acc = more acc st1 := by
  match t, h with
  | .exc _ _ _, h => exact absurd rfl h
  | .stuck, h => exact absurd rfl h
  | .ok false st1, h => exact .inr ⟨st1, rfl, rfl⟩
  | .ok true st1, h =>
    have u : lcOne (.ok true st1) e more acc = (match e st1 with | .ok w st2 => more (acc ++ [w]) st2 | _ => .stuck) := rfl
    rw [u] at h ⊢
    cases he : e st1 with
    | exc _ _ _ => rw [he] at h; exact absurd rfl h
    | stuck => rw [he] at h; exact absurd rfl h
    | ok y st2 => exact .inl ⟨st1, st2, y, rfl, he, rfl⟩
theorem turnS_ok {α : Type} {o : Option Pf.Env} {f : Pf.Env → R α} (h : turnS o f ≠ .stuck) : ∃ env, o = some env ∧ turnS o f = f env := by
  cases o with
  | none => exact absurd rfl h
  | some env => exact ⟨env, rfl, rfl⟩
theorem lcRest_step {w : Pf.It} {tg : List Nat} {env : Pf.Env} {t : Pf.Env → Store → R Bool} {e : Pf.Env → Store → R W} {i n : Nat} {acc : List W} {st : Store} (few : ∀ wss, w = .fix wss → wss.length ≤ sizeLine) (fits : lcFits w i n acc) (hne : lcRest w tg env t e i n acc st ≠ .stuck) :
    (nxt w tg st i = some none ∧ lcRest w tg env t e i n acc st = .ok acc st) ∨
    ∃ ws env2 n', nxt w tg st i = some (some ws) ∧ bindTg tg ws env = some env2 ∧ n' < n ∧ acc.length < sizeLine ∧
      ((∃ st1 st2 y, t env2 st = .ok true st1 ∧ e env2 st1 = .ok y st2 ∧ lcRest w tg env t e i n acc st = lcRest w tg env t e (i + 1) n' (acc ++ [y]) st2 ∧ lcFits w (i + 1) n' (acc ++ [y])) ∨
       ∃ st1, t env2 st = .ok false st1 ∧ lcRest w tg env t e i n acc st = lcRest w tg env t e (i + 1) n' acc st1 ∧ lcFits w (i + 1) n' acc) := by
  cases w with
  | fix wss =>
    obtain ⟨f1, f2⟩ := fits
    have hr : ∀ i n acc st, lcRest (.fix wss) tg env t e i n acc st = lcFix tg env t e (wss.drop i) acc st := fun _ _ _ _ => rfl
    simp only [hr] at hne ⊢
    by_cases hi : i < wss.length
    · have hd : wss.drop i = wss[i] :: wss.drop (i + 1) := List.drop_eq_getElem_cons hi
      have hz : acc.length < sizeLine := by
        have := few wss rfl
        omega
      rw [hd, lcFix] at hne
      rw [hd, lcFix]
      obtain ⟨env2, hb, ht⟩ := turnS_ok hne
      rw [ht] at hne ⊢
      refine .inr ⟨wss[i], env2, n - 1, by show some wss[i]? = _; rw [List.getElem?_eq_getElem hi], hb, by omega, hz, ?_⟩
      rcases lcOne_ok hne with ⟨st1, st2, y, h1, h2, h3⟩ | ⟨st1, h1, h3⟩
      · refine .inl ⟨st1, st2, y, h1, h2, h3, by omega, ?_⟩
        rw [List.length_append]
        exact Nat.succ_le_succ f2
      · exact .inr ⟨st1, h1, h3, by omega, by omega⟩
    · have hd : wss.drop i = [] := List.drop_eq_nil_of_le (by omega)
      refine .inl ⟨by show some wss[i]? = some none; rw [List.getElem?_eq_none (by omega)], ?_⟩
      rw [hd]
      rfl
  | liv en k =>
    have hr : ∀ i n acc st, lcRest (.liv en k) tg env t e i n acc st = lcLiv en tg env t e k n i acc st := fun _ _ _ _ => rfl
    simp only [hr] at hne ⊢
    cases n with
    | zero => exact absurd rfl hne
    | succ n =>
      have hl : ∀ o, lookL en st tg k i = o → nxt (.liv en k) tg st i = o := fun o h => h
      rw [lcLiv] at hne ⊢
      cases hlk : lookL en st tg k i with
      | none =>
        rw [hlk] at hne
        exact absurd rfl hne
      | some o =>
        rw [hlk] at hne
        cases o with
        | none => exact .inl ⟨hl _ hlk, rfl⟩
        | some ws =>
          have u : ∀ f : List W → R (List W), lookS (some (some ws)) (.ok acc st) .stuck f = f ws := fun _ => rfl
          rw [u] at hne ⊢
          obtain ⟨env2, hb, ht⟩ := turnS_ok hne
          rw [ht] at hne ⊢
          by_cases hz : acc.length < LIM
          · rw [if_pos hz] at hne ⊢
            refine .inr ⟨ws, env2, n, hl _ hlk, hb, Nat.lt_succ_self n, lim_lt (Nat.le_of_lt hz), ?_⟩
            rcases lcOne_ok hne with ⟨st1, st2, y, h1, h2, h3⟩ | ⟨st1, h1, h3⟩
            · exact .inl ⟨st1, st2, y, h1, h2, h3, trivial⟩
            · exact .inr ⟨st1, h1, h3, trivial⟩
          · rw [if_neg hz] at hne
            exact absurd rfl hne

section
variable {X : L2.Cx} {cls : Nat → Option (Addr × Str)} {xa : Option (Addr × Option Addr × Addr)} {c : Pf.Cx} {wx wb : WX}
theorem Post.ne {α : Type} {g : Gx} {σ : L2.St} {Fr Hb : Hp} {m : List Addr} {r : R α} {k : α → Store → Hp → List Addr → Hp → Prop} (P : Post g wx σ Fr Hb m r k) : r ≠ .stuck := fun e => by
  rw [e] at P
  exact P
/-- what stands at the start of turn i -/
def lcAt (g : Gx) (wx : WX) (σ : L2.St) (Fr Hb1 : Hp) (m1 : List Addr) (D : Addr) (w : Pf.It) (tg : List Nat) (env : Pf.Env) (t : Pf.Env → Store → R Bool) (e : Pf.Env → Store → R W) (k : List W → Store → Hp → List Addr → Hp → Prop) (i n : Nat) (H : Hp) : Prop :=
  ∃ st Hb m acc va, H D = some (.lst va) ∧ Sim g st H Hb (upd Fr D (.lst va)) m ∧ Same Hb1 Hb ∧ Pre m1 m ∧ RWs g Hb m acc va ∧ acc.length ≤ sizeLine ∧ lcFits w i n acc ∧ Post g wx σ Fr Hb m (lcRest w tg env t e i n acc st) k
theorem lc_imp {vs tg : List Nat} {it : I} {ts : Ts} {e : Pf.E} (htv : ∀ i ∈ tg, i ∈ vs) {σ : L2.St} {H : Hp} {Q : VK} (q : tL (gX X cls) xa c wx (.lc vs tg it ts e) σ H Q) : tLc (tI (gX X cls) xa c wx tg it) (gTg X.K tg) (tTs (gX X cls) xa c wb ts) (tE (gX X cls) xa c wb e) vs σ H Q := by
    obtain ⟨env, st, Hb, Fr, m, S, E, P⟩ := q
    rw [evL] at P
    refine ⟨env, st, Hb, Fr, m, S, E, P.thn fun w st1 H1 Hb1 m1 S1 e1 p1 P1 J hJ D hD => ?_⟩
    have E1 : RE (gX X cls) xa Hb1 m1 (wipeE env vs) (L2.wipe σ vs) := (E.mono e1 p1).wipe vs
    have hF : Fr D = none := S1.freshF hD
    refine ⟨fun i n H => lcAt (gX X cls) wx σ Fr Hb1 m1 D w tg (wipeE env vs) (fun env st => evTs c ts env st) (fun env st => evE c e env st) (fun ws _ Hb' m' H' => ∀ p vs, H' p = none → RWs (gX X cls) Hb' m' ws vs → ws.length ≤ sizeLine → Q (.ref p) (upd H' p (.lst vs))) i n H, ?_, ?_⟩
    · cases w with
      | fix wss => exact ⟨wss.length, st1, Hb1, m1, [], [], upd_same, S1.frameNew hD, fun _ _ e => e, Pre.refl m1, .nil, Nat.zero_le _, ⟨rfl, Nat.le_refl _⟩, P1⟩
      | liv en k => exact ⟨c.turns, st1, Hb1, m1, [], [], upd_same, S1.frameNew hD, fun _ _ e => e, Pre.refl m1, .nil, Nat.zero_le _, trivial, P1⟩
    · rintro i n H2 ⟨st2, Hb2, m2, acc, va, hDa, S2, e2, p2, ra, la, fits, P2⟩
      rcases lcRest_step hJ.few fits P2.ne with ⟨hn, hr⟩ | ⟨ws, env2, n', hn, hb, hlt, hz, hrest⟩
      · refine .inl ⟨hJ.stop _ _ _ _ _ S2 e2 p2 i hn, ?_⟩
        rw [hr] at P2
        have q := P2.now (S2.frameDel hF) D va del_same ra la
        rw [upd_del hDa] at q
        exact q
      · obtain ⟨hgo, hy⟩ := hJ.go _ _ _ _ _ S2 e2 p2 i ws hn
        refine .inr ⟨hgo, fun H => lcAt (gX X cls) wx σ Fr Hb1 m1 D w tg (wipeE env vs) (fun env st => evTs c ts env st) (fun env st => evE c e env st) (fun ws _ Hb' m' H' => ∀ p vs, H' p = none → RWs (gX X cls) Hb' m' ws vs → ws.length ≤ sizeLine → Q (.ref p) (upd H' p (.lst vs))) (i + 1) n' H, fun H' h => ⟨n', hlt, h⟩, fun x H' y => ?_⟩
        refine tg_ok (hy x H' y) S2 (E1.mono e2 p2) hb fun σ3 Hb3 S3 e3 E3 w3 => ⟨by rw [w3 vs htv, wipe_wipe], ?_⟩
        rcases hrest with ⟨st4, st5, yv, h4, h5, h6, fits'⟩ | ⟨st4, h4, h6, fits'⟩
        · refine ⟨env2, st2, Hb3, _, m2, S3, E3, ?_⟩
          rw [h4]
          intro H4 Hb4 m4 S4 e4 p4
          dsimp only
          rw [if_pos rfl]
          refine ⟨env2, st4, Hb4, _, m4, S4, E3.mono e4 p4, ?_⟩
          rw [h5]
          intro H5 Hb5 m5 S5 e5 p5 v rv
          have l1 : va.length < sizeLine := by
            rw [← ra.length]
            exact hz
          refine ⟨va, S5.fr D _ upd_same, l1, st5, Hb5, m5, acc ++ [yv], va ++ [v], upd_same, S5.frameSet, e2.trans (e3.trans (e4.trans e5)), p2.trans (p4.trans p5), ((ra.mono (e3.trans (e4.trans e5)) (p4.trans p5)).append (.cons rv .nil)), ?_, fits', ?_⟩
          · rw [List.length_append]
            exact hz
          · rw [h6] at P2
            exact P2.later (e3.trans (e4.trans e5)) (p4.trans p5)
        · refine ⟨env2, st2, Hb3, _, m2, S3, E3, ?_⟩
          rw [h4]
          intro H4 Hb4 m4 S4 e4 p4
          dsimp only
          rw [if_neg Bool.false_ne_true]
          rw [h6] at P2
          exact ⟨st4, Hb4, m4, acc, va, S4.fr D _ upd_same, S4, e2.trans (e3.trans e4), p2.trans p4, ra.mono (e3.trans e4) p4, la, fits', P2.later (e3.trans e4) p4⟩
theorem l_lc {vs tg : List Nat} {it : I} {ts : Ts} {e : Pf.E} {elt tgE iter : Expr} {ifs : List Expr} {scope : Scope} {own : List (Str × Nat)} {pos : Pos} (hc : X.calm = true) (hN : X.N.Nodup) (hi : PI X tgE iter (tI (gX X cls) xa c wx tg it)) (ok : BlkOk X.N X.env.scope scope own)
    (hvs : own.map (·.2) = vs) (htv : ∀ i ∈ tg, i ∈ vs)
    (hg : ∀ (s : Shared) (H : Hp) (C : Addr) (cl : List (Str × Addr)) (fp : List Addr), PG (X.blk s H scope (compEnvC scope cl C X.env) fp) tgE (gTg X.K tg))
    (ht : ∀ (s : Shared) (H : Hp) (C : Addr) (cl : List (Str × Addr)) (fp : List Addr), PTs (X.blk s H scope (compEnvC scope cl C X.env) fp) ifs (tTs (gX X cls) xa c wb ts))
    (he : ∀ (s : Shared) (H : Hp) (C : Addr) (cl : List (Str × Addr)) (fp : List Addr), PE (X.blk s H scope (compEnvC scope cl C X.env) fp) elt (tE (gX X cls) xa c wb e)) (hs : notSet iter = true) :
    PE X (.ListComp elt [⟨tgE, iter, ifs, 0⟩] scope pos) (tL (gX X cls) xa c wx (.lc vs tg it ts e)) :=
  ⟨fun pins s σ H Q I q => (pe_lc hc hN hi ok hg ht he (set_folded hs)).run pins s σ H Q I (by
    rw [hvs]
    exact lc_imp htv q)⟩
end
end Pf
set_option Elab.async false
set_option linter.all false
set_option maxRecDepth 100000
set_option maxHeartbeats 1000000
/-! Pf, part I: sequences, ranges, enumerate, zip. -/
namespace Pf
open PySem PySem.Spec PyProof.Rows L2

/-! ### enumerate over a tuple -/
theorem enum_newT {v : Value} {o : Obj} {P : Heap → Prop} (B : Begins v o P) : Meets (Builtin.«enumerate.__new__» ⟨[.type "enumerate", v], []⟩) (fun _ R s => P s.heap ∧
      R (.ok (.ret (.ref (s.heap.push o).objs.size))) { s with heap := (s.heap.push o).push { cls := .type "enumerate", data := .fields #[.none, .bool false, .ref s.heap.objs.size, rawInt 0, .none, .none] } }) :=
  .of_wp fun prog w A R s h => by
    obtain ⟨hp, g, d, tk, os⟩ := s
    obtain ⟨h1, h⟩ := h
    have hsub := sub_enumerate
    have q1 : ∀ {A' : Around} {E : Value → Shared → Prop} {Q : Value → Shared → Prop}, Q (.ref hp.objs.size) ⟨hp.push o, g, d, tk, os⟩ → wpAny (model prog w) A' (pyIter v) Q E ⟨hp, g, d, tk, os⟩ := fun q => B.iter prog w _ _ ⟨hp, g, d, tk, os⟩ _ h1 q
    wp_walk using q1
    refine wpAny_stack_any fun st => wpAny_pure ?_
    split
    · rename_i c _ _ _ _ _
      cases (c == Value.type "enumerate") <;> (wp_walk using q1; exact ⟨_, rfl, h⟩)
    · wp_walk using q1
      exact ⟨_, rfl, h⟩
theorem call_enumT {prog : Program} {w : World} {A : Around} {E : Value → Shared → Prop} {s : Shared} {v : Value} {o : Obj} {P : Heap → Prop} {Q : Value → Shared → Prop} (B : Begins v o P) (h1 : P s.heap)
    (h : ∀ h', IsEnum h' (s.heap.objs.size + 1) s.heap.objs.size 0 .none → h'.get? s.heap.objs.size = some o → (∀ b u, s.heap.get? b = some u → h'.get? b = some u) → Q (.ref (s.heap.objs.size + 1)) { s with heap := h' }) :
    wpAny (model prog w) A (call (.type "enumerate") [v]) Q E s := by
  refine callType_new F.called_enumerate (by decide) (F.typeCall_enumerate_1 _) (F.newCall_enumerate_1 _) (fun obj => F.args_object_init_2 obj _) F.entry_enumerate_new (enum_newT B) ⟨h1, ?_⟩
  have hz : (s.heap.push o).objs.size = s.heap.objs.size + 1 := Heap.size_push ..
  show _ ∧ _
  rw [hz]
  have he : IsEnum ((s.heap.push o).push { cls := .type "enumerate", data := .fields #[.none, .bool false, .ref s.heap.objs.size, rawInt 0, .none, .none] }) (s.heap.objs.size + 1) s.heap.objs.size 0 .none := by
    have q := Heap.get?_push_size (s.heap.push o) (o := { cls := .type "enumerate", data := .fields #[.none, .bool false, .ref s.heap.objs.size, rawInt 0, .none, .none] }) rfl
    rw [hz] at q
    exact q
  exact ⟨⟨_, he, rfl⟩, h _ he (Heap.get?_push_of_some _ (Heap.get?_push_size _ B.free)) fun b u x => Heap.get?_push_of_some _ (Heap.get?_push_of_some _ x)⟩
/-- the tuple at a, each item in a new pair -/
def IteT (K : PySem.W.Frag) (a : Addr) : L2.It :=
  ⟨fun i H => ∃ (xs : List V) (x : V), SqT K H a xs ∧ xs[i]? = some x, fun i H v H' => ∃ T x, v = .ref T ∧ H T = none ∧ H' = upd H T (.tup [.int (i : Nat), x]) ∧ ∀ xs, SqT K H a xs → xs[i]? = some x, fun i H => ∃ xs : List V, SqT K H a xs ∧ xs.length ≤ i⟩
theorem turn_enumT {P : Program} {w : World} {K : PySem.W.Frag} {elts : List Expr} {kk : Nat} {tpos : Pos} (a e it : Addr) (hae : a ≠ e) (hai : a ≠ it) (hne : e ≠ it) :
    Turn P w K (.Tuple elts kk tpos) (IteT K a) [e, it] e (fun i h => (∃ old, IsEnum h e it ((i : Nat) : Int) old) ∧ h.IsTupleIter it a i) where
  mem := by simp
  obj := fun i h st b hb => by
    obtain ⟨⟨old, he⟩, o, ho, hc, hd⟩ := st
    have e' : b = e ∨ b = it := by simpa using hb
    rcases e' with z | z
    · rw [z]
      exact ⟨_, he, fun v q => nomatch q⟩
    · rw [z]
      exact ⟨o, ho, fun v q => by rw [hd] at q; cases q⟩
  keep := fun i h h' st k => by
    obtain ⟨⟨old, he⟩, hi⟩ := st
    exact ⟨⟨old, k e (by simp) _ he⟩, hi.at fun o q => k it (by simp) o q⟩
  item := by
    intro X hP hw hK hc i pins s σ H E I hf st hg
    subst hP hw hK
    obtain ⟨⟨old, he⟩, hit⟩ := st
    obtain ⟨xs, x, hq, hx⟩ := hg
    obtain ⟨its, rv, p, hz⟩ := I.tuple hq
    have hel : e < s.heap.objs.size := Heap.lt_size he
    have hil : it < s.heap.objs.size := by
      obtain ⟨_, q, _⟩ := hit
      exact Heap.lt_size q
    have Dr := Draws.tuple (prog := X.prog) (w := X.w) (A := X.A.in1) (I.ok.hd hc) it a hai its.toArray
    have hlt : i < its.toArray.size := by
      have := (List.getElem?_eq_some_iff.mp hx).1
      rw [List.size_toArray, ← rv.length]
      exact this
    refine wpAny_pyNext_enum_itemD Dr he ⟨hit, p⟩ hlt hne (by simp [hne, Ne.symm hae]) fun u h' tk hu ho hst hT hsz hk => ?_
    obtain ⟨u', hu', ru⟩ := rv.get hx
    have eu : u' = u := by
      have : its.toArray[i]? = some u' := by simpa using hu'
      rw [this] at hu
      exact Option.some.inj hu
    subst eu
    refine ⟨_, rfl, wpAny_letOwnedTupleGo_enum (s := { s with heap := h', toks := tk + 1 }) ho fun h'' he' sb => ?_⟩
    have hT2 : h''.get? s.heap.objs.size = some { cls := .type "tuple", data := .seq #[.int i tk, u'] } := (sb.2 _ (Nat.ne_of_gt hel)).trans hT
    have new : ObjOk X.prog X.w (upd H s.heap.objs.size (.tup [.int (i : Nat), x])) h'' s.heap.objs.size (.tup [.int (i : Nat), x]) :=
      ⟨by show 2 ≤ sizeLine; decide, [.int i tk, u'], .cons ⟨_, rfl⟩ (.cons ru .nil), ⟨_, hT2, rfl, _, rfl⟩⟩
    have I1 : Inv X pins σ (upd H s.heap.objs.size (.tup [.int (i : Nat), x])) { s with heap := h'', toks := tk + 1 } :=
      I.turnedNew (ch := [e, it]) (fun b ob hb q => (sb.2 b (fun z => hb (by simp [z]))).trans (hk b ob (fun z => hb (by simp [z])) (fun z => hb (by simp [z])) q)) hf (Nat.le_refl _) new
    refine ⟨.ref s.heap.objs.size, _, I1, rfl, ⟨_, x, rfl, I.hok.fresh (Nat.le_refl _), rfl, fun ys hy => by rw [I.tuple_inj hy hq]; exact hx⟩, ⟨⟨u', ?_⟩, hst.1.at fun o q => (sb.2 it (Ne.symm hne)).trans q⟩, fun b hb => ?_⟩
    · have e1 : ((i + 1 : Nat) : Int) = (i : Int) + 1 := by omega
      rw [e1]
      exact he'
    · have hb' : b < s.heap.objs.size := by
        have e' : b = e ∨ b = it := by simpa using hb
        rcases e' with z | z
        · rw [z]
          exact hel
        · rw [z]
          exact hil
      rw [upd_ne (Nat.ne_of_lt hb')]
      exact (hf b hb).1
  done := by
    intro X hP hw hK hc i pins s σ H E I hf st hg
    subst hP hw hK
    obtain ⟨⟨old, he⟩, hit⟩ := st
    obtain ⟨xs, hq, hx⟩ := hg
    obtain ⟨its, rv, p, hz⟩ := I.tuple hq
    obtain ⟨f0, f1, f2, f3, f4, f5⟩ := hf it (by simp)
    have hl := rv.length
    have hx' : its.toArray[i]? = none := by
      rw [List.getElem?_toArray, List.getElem?_eq_none]
      omega
    have hT : s.TypeIs (.ref e) "enumerate" := ⟨_, he, rfl⟩
    unfold pyNext
    refine wpAny_bind (wpAny_attempt (wpAny_callSpecial?_slot (name := Str.ofString "__next__") hT F.slot_enumerate_next
      (wpAny_call_entry F.slot_enumerate_next hT F.entry_enumerate_next ?_ (F.args_enumerate_next_1 _))))
    show wpAny _ _ (field (.ref e) 2 >>= _) _ _ _
    refine wpAny_bind (wpAny_field he rfl (x := .ref it) rfl ?_)
    refine wpAny_bind (wpAny_nextOf_tuple_end (I.ok.hd hc) hit p hx' fun h' y eb hy => ?_)
    obtain ⟨o, ho, hc'⟩ := hy
    refine wpAny_bind (wpAny_isInstance (T := "StopIteration") (b := true) ⟨o, ho, hc'⟩ isSubtype_stop ?_)
    exact wpAny_pure ⟨rfl, I.turned (t' := s.toks) (fun b o hb q => eb b o hb q) f0 f1 f3 f4 f5⟩
  self := fun A i s Q E st h => by
    obtain ⟨⟨_, he⟩, _⟩ := st
    exact wpAny_pyIter_enum he h

/-! ### the rules -/
section
variable {X : L2.Cx} {tg : Expr}
/-- a list or a tuple -/
def iSeqA (K : PySem.W.Frag) (tl : TE) : TI := fun σ H R => tl σ H fun x H1 => (∃ a xs, x = .ref a ∧ SqL K H1 a xs ∧ R (Itl K a) H1) ∨ ∃ a xs, x = .ref a ∧ SqT K H1 a xs ∧ R (Itt K a) H1
theorem fresh_one {pins : List (Addr × Obj)} {σ : L2.St} {H : Hp} {s : Shared} (I : Inv X pins σ H s) : ∀ b ∈ [s.heap.objs.size], FpOk X pins H b := fun b hb => by
  have e : b = s.heap.objs.size := by simpa using hb
  subst e
  exact I.fpOk (Nat.le_refl _) (I.hok.fresh (Nat.le_refl _))
theorem pi_seqA {l : Expr} {tl : TE} (hl : PE X l tl) : PI X tg l (iSeqA X.K tl) :=
  ⟨fun pins s σ H R I h => thn (hl.run pins s σ H _ I h) fun v s1 ⟨x, H1, I1, r1, q1⟩ => by
    rcases q1 with ⟨a, xs, rfl, hq, q⟩ | ⟨a, xs, rfl, hq, q⟩
    · cases r1
      obtain ⟨its, rv, p, hz⟩ := I1.list hq
      exact wpAny_pyIter_list p.isList ⟨s1.heap.objs.size, [s1.heap.objs.size], _, _, H1, rfl, I1.kept (t' := s1.toks) fun b o e => Heap.get?_push_of_some _ e, turn_list a _, ⟨_, Heap.get?_push_size _ rfl, rfl, rfl⟩, fresh_one I1, q⟩
    · cases r1
      obtain ⟨its, rv, p, hz⟩ := I1.tuple hq
      exact wpAny_pyIter_tuple (show s1.heap.IsTuple a its.toArray from p) ⟨s1.heap.objs.size, [s1.heap.objs.size], _, _, H1, rfl, I1.kept (t' := s1.toks) fun b o e => Heap.get?_push_of_some _ e, turn_tuple a _, ⟨_, Heap.get?_push_size _ rfl, rfl, rfl⟩, fresh_one I1, q⟩⟩
theorem callTy_any {T : String} {x : Str} {p pos : Pos} {e : Expr} {es : List Expr} {t : TA} {pins : List (Addr × Obj)} {s : Shared} {σ : L2.St} {H : Hp} {Q : List V → Hp → Prop} {Q' : Value → Shared → Prop} (b : Bi X x (.type T)) (ha : PA X (e :: es) t) (hn : (e :: es).all notStar = true) (I : Inv X pins σ H s) (h : t σ H Q)
    (hc : ∀ us s1 vs H1, Inv X pins σ H1 s1 → Vals vs us → Q vs H1 → wpAny (model X.prog X.w) X.A (call (.type T) us) Q' X.xe s1) : wpAny (model X.prog X.w) X.A (eval (.Call (.Name x p) (e :: es) [] pos) X.env) Q' X.xe s := by
  obtain ⟨h1, h2⟩ := and2 (show (notStar e && es.all notStar) = true from hn)
  exact wpAny_Call_Name_kw (ld_blt I b.gl b.mg b.bo (PyProof.Rows.callWith_type1 (thn (ha.run pos pins s σ H _ I h) fun us s1 ⟨vs, H1, I1, r1, q1⟩ => hc us s1 vs H1 I1 r1 q1) (star_cons h1) (star_any h2)) b.nn b.nd)
def iEnumA (K : PySem.W.Frag) (ta : TA) : TI := fun σ H R => ta σ H fun vs H1 => ∃ a xs, vs = [.ref a] ∧ ((SqL K H1 a xs ∧ R (Ite K a) H1) ∨ (SqT K H1 a xs ∧ R (IteT K a) H1))
theorem pi_enumA {e : Expr} {ta : TA} {p pos tpos : Pos} {elts : List Expr} {kk : Nat} (b : Bi X "enumerate" (.type "enumerate")) (ha : PA X [e] ta) (hn : notStar e = true) : PI X (.Tuple elts kk tpos) (.Call (.Name "enumerate" p) [e] [] pos) (iEnumA X.K ta) :=
  ⟨fun pins s σ H R I h => callTy_any b ha (by rw [List.all_cons, hn]; rfl) I h fun us s1 vs H1 I1 r1 q1 => by
    obtain ⟨a, xs, rfl, q1⟩ := q1
    obtain ⟨u, rfl, ru⟩ := r1.one
    cases ru
    have hf : ∀ b ∈ [s1.heap.objs.size + 1, s1.heap.objs.size], FpOk X pins H1 b := fun b hb => by
      have e' : b = s1.heap.objs.size + 1 ∨ b = s1.heap.objs.size := by simpa using hb
      have hle : s1.heap.objs.size ≤ b := e'.elim (fun z => by rw [z]; exact Nat.le_succ _) fun z => by rw [z]; exact Nat.le_refl _
      exact I1.fpOk hle (I1.hok.fresh hle)
    rcases q1 with ⟨hq, q⟩ | ⟨hq, q⟩
    · obtain ⟨its, rv, p', hz⟩ := I1.list hq
      exact call_enumerate_list p'.isList fun h' he hit hsz hk => wpAny_pyIter_enum he
        ⟨s1.heap.objs.size + 1, [s1.heap.objs.size + 1, s1.heap.objs.size], _, _, H1, rfl, I1.kept (t' := s1.toks) hk, turn_enum a (s1.heap.objs.size + 1) s1.heap.objs.size, ⟨⟨.none, he⟩, hit, Nat.succ_ne_self _⟩, hf, q⟩
    · obtain ⟨its, rv, p', hz⟩ := I1.tuple hq
      obtain ⟨o1, ho1, _⟩ := id p'
      have hlt := Heap.lt_size ho1
      exact call_enumT (begins_tuple a its.toArray) p' fun h' he hit hk => wpAny_pyIter_enum he
        ⟨s1.heap.objs.size + 1, [s1.heap.objs.size + 1, s1.heap.objs.size], _, _, H1, rfl, I1.kept (t' := s1.toks) hk, turn_enumT a (s1.heap.objs.size + 1) s1.heap.objs.size (Nat.ne_of_lt (Nat.lt_succ_of_lt hlt)) (Nat.ne_of_lt hlt) (Nat.succ_ne_self _), ⟨⟨.none, he⟩, _, hit, rfl, rfl⟩, hf, q⟩⟩
end

section
variable {g : Gx} {Hb : Hp} {m : List Addr} {tg : List Nat}
/-- items of what does not change; t: a tuple -/
def FixSeq (g : Gx) (Hb : Hp) (m : List Addr) (x : V) (t : Bool) (ws : List W) : Prop := ∃ p vs, x = .ref p ∧ ((t = false ∧ SqL g.K Hb p vs) ∨ (t = true ∧ SqT g.K Hb p vs)) ∧ RWs g Hb m ws vs ∧ ws.length ≤ sizeLine
theorem frozen_kind {st : Store} {H Fr : Hp} {w : W} {x : V} (S : Sim g st H Hb Fr m) (r : RW g Hb m w x) {ws : List W} (h : frozen st w = some ws) : ∃ t, items st w = some (t, ws) ∧ FixSeq g Hb m x t ws := by
  have go : ∀ {d : D} {v : V}, RD g.K Hb d v → frozenD d = some ws → ∃ t, itemsD d = some (t, ws) ∧ FixSeq g Hb m v t ws := fun {d v} rv e => by
    cases rv with
    | tup h1 h2 h3 =>
      cases e
      exact ⟨true, rfl, _, _, rfl, .inr ⟨rfl, h1⟩, RWs.ofD h2, by rw [List.length_map]; exact h3⟩
    | lst h1 h2 h3 =>
      cases e
      exact ⟨false, rfl, _, _, rfl, .inl ⟨rfl, h1⟩, RWs.ofD h2, by rw [List.length_map]; exact h3⟩
    | _ => cases e
  cases w with
  | v d => exact go r h
  | x c d => cases h
  | r n =>
    obtain ⟨p, hp, rfl⟩ := r
    have h' : frozenC st[n]? = some ws := h
    show ∃ t, itemsC st[n]? = some (t, ws) ∧ _
    cases hc : st[n]? with
    | none =>
      rw [hc] at h'
      cases h'
    | some c =>
      rw [hc] at h'
      have k := S.cell n c p hc hp
      cases c with
      | live xs => cases h'
      | frz d => exact go k.2 h'
theorem frozen_ok {st : Store} {H Fr : Hp} {w : W} {x : V} (S : Sim g st H Hb Fr m) (r : RW g Hb m w x) {ws : List W} (h : frozen st w = some ws) : ∃ p vs, x = .ref p ∧ (SqL g.K Hb p vs ∨ SqT g.K Hb p vs) ∧ RWs g Hb m ws vs ∧ ws.length ≤ sizeLine := by
  obtain ⟨t, _, p, vs, e, hs, rs, hz⟩ := frozen_kind S r h
  exact ⟨p, vs, e, hs.elim (fun z => .inl z.2) fun z => .inr z.2, rs, hz⟩
theorem turnW_ok {st : Store} {w : W} {us : List W} {x : V} {H : Hp} (e : Same Hb H) (r : RW g Hb m w x) (h : turnW st tg w = some us) : TurnOk g Hb m tg us x H H := by
  have go : tg.length ≠ 1 → untup w = some us → TurnOk g Hb m tg us x H H := fun hl h => by
    cases w with
    | v d =>
      cases d with
      | tup ds =>
        cases h
        cases r with
        | tup h1 h2 h3 => exact .inr ⟨hl, _, _, rfl, sqT_mono e h1, RWs.ofD h2, .inl rfl⟩
      | _ => cases h
    | _ => cases h
  match tg, h with
  | [i], h =>
    cases h
    exact .inl ⟨i, w, rfl, rfl, r, rfl⟩
  | [], h => exact go (fun z => nomatch z) h
  | _ :: _ :: _, h => exact go (fun z => by simp at z) h
theorem fixOf_get {st : Store} : ∀ {ws : List W} {wss : List (List W)}, fixOf st tg ws = some wss → wss.length = ws.length ∧ ∀ (i : Nat) (us : List W), wss[i]? = some us → ∃ w : W, ws[i]? = some w ∧ turnW st tg w = some us
  | [], wss, h => by
    cases h
    exact ⟨rfl, fun i us e => by simp at e⟩
  | w :: ws, wss, h => by
    unfold fixOf at h
    cases h1 : turnW st tg w with
    | none => rw [h1] at h; cases h
    | some a =>
      cases h2 : fixOf st tg ws with
      | none => rw [h1, h2] at h; cases h
      | some b =>
        rw [h1, h2] at h
        cases h
        obtain ⟨l, q⟩ := fixOf_get h2
        refine ⟨by rw [List.length_cons, List.length_cons, l], fun i us e => ?_⟩
        cases i with
        | zero =>
          have e : a = us := by simpa using e
          subst e
          exact ⟨w, by simp, h1⟩
        | succ i => 
          obtain ⟨u, h3, h4⟩ := q i us (by simpa using e)
          exact ⟨u, by simpa using h3, h4⟩
theorem enumW_get : ∀ (ws : List W) (k i : Nat), (enumW k ws)[i]? = (ws[i]?).map fun w => [.v (.int ((k + i : Nat))), w]
  | [], k, i => by simp [enumW]
  | w :: ws, k, 0 => by simp [enumW]
  | w :: ws, k, i + 1 => by
    have h := enumW_get ws (k + 1) i
    have e : k + 1 + i = k + (i + 1) := by omega
    rw [e] at h
    simpa [enumW] using h
theorem enumW_len : ∀ (ws : List W) (k : Nat), (enumW k ws).length = ws.length
  | [], _ => rfl
  | w :: ws, k => by
    show (enumW (k + 1) ws).length + 1 = ws.length + 1
    rw [enumW_len ws (k + 1)]
theorem zipW_get : ∀ (as bs : List W) (i : Nat) (us : List W), (zipW as bs)[i]? = some us → ∃ a b, as[i]? = some a ∧ bs[i]? = some b ∧ us = [a, b]
  | [], bs, i, us, h => by simp [zipW] at h
  | a :: as, [], i, us, h => by simp [zipW] at h
  | a :: as, b :: bs, 0, us, h => by
    have e : [a, b] = us := by simpa [zipW] using h
    exact ⟨a, b, by simp, by simp, e.symm⟩
  | a :: as, b :: bs, i + 1, us, h => by
    obtain ⟨x, y, h1, h2, h3⟩ := zipW_get as bs i us (by simpa [zipW] using h)
    exact ⟨x, y, by simpa using h1, by simpa using h2, h3⟩
theorem zipW_len : ∀ (as bs : List W), (zipW as bs).length = min as.length bs.length
  | [], bs => by simp [zipW]
  | a :: as, [] => by simp [zipW]
  | a :: as, b :: bs => by
    show (zipW as bs).length + 1 = min (as.length + 1) (bs.length + 1)
    rw [zipW_len as bs]
    omega
theorem rangeW_get : ∀ (n : Nat) (lo : Int) (i : Nat), (rangeW lo n)[i]? = if i < n then some (.v (.int (lo + i))) else none
  | 0, lo, i => by simp [rangeW]
  | n + 1, lo, 0 => by simp [rangeW]
  | n + 1, lo, i + 1 => by
    have h := rangeW_get n (lo + 1) i
    have e : lo + 1 + (i : Int) = lo + ((i + 1 : Nat) : Int) := by omega
    rw [e] at h
    have u : (rangeW lo (n + 1))[i + 1]? = (rangeW (lo + 1) n)[i]? := by simp [rangeW]
    rw [u, h]
    by_cases hi : i < n
    · rw [if_pos hi, if_pos (by omega)]
    · rw [if_neg hi, if_neg (by omega)]
theorem rangeW_len : ∀ (n : Nat) (lo : Int), (rangeW lo n).length = n
  | 0, _ => rfl
  | n + 1, lo => by
    show (rangeW (lo + 1) n).length + 1 = n + 1
    rw [rangeW_len n]
theorem fix_none {wss : List (List W)} {st : Store} {i : Nat} (h : nxt (.fix wss) tg st i = some none) : wss.length ≤ i := by
  have h : some wss[i]? = some none := h
  exact List.getElem?_eq_none_iff.mp (Option.some.inj h)
theorem fix_some {wss : List (List W)} {st : Store} {i : Nat} {us : List W} (h : nxt (.fix wss) tg st i = some (some us)) : wss[i]? = some us := by
  have h : some wss[i]? = some (some us) := h
  exact Option.some.inj h
/-- what a live list shows at turn i -/
theorem look_ok {en : Bool} {st : Store} {H Fr : Hp} {n i : Nat} {p : Addr} {o : Option (List W)} (S : Sim g st H Hb Fr m) (hp : m[n]? = some p) (h : lookL en st tg n i = some o) :
    ∃ ws vs, H p = some (.lst vs) ∧ RWs g Hb m ws vs ∧ ((o = none ∧ ws[i]? = none) ∨ ∃ w us, o = some us ∧ ws[i]? = some w ∧ turnL en st tg i w = some us) := by
  unfold lookL at h
  cases hc : st[n]? with
  | none =>
    rw [show liveAt st n i = none from by unfold liveAt; rw [hc]; rfl] at h
    cases h
  | some c =>
    cases c with
    | frz d =>
      rw [show liveAt st n i = none from by unfold liveAt; rw [hc]; rfl] at h
      cases h
    | live ws =>
      obtain ⟨vs, h1, h2, _⟩ := live_of S hp hc
      rw [show liveAt st n i = some ws[i]? from by unfold liveAt; rw [hc]; rfl] at h
      refine ⟨ws, vs, h1, h2, ?_⟩
      cases hw : ws[i]? with
      | none =>
        rw [hw] at h
        exact .inl ⟨(Option.some.inj h).symm, rfl⟩
      | some w =>
        rw [hw] at h
        obtain ⟨us, h3, h4⟩ := map_ok (show (turnL en st tg i w).map some = some o from h)
        exact .inr ⟨w, us, h4, rfl, h3⟩
theorem new_pair {H : Hp} {T : Addr} {a b : W} {x y : V} (hl : tg.length = 2) (hT : H T = none) (ra : RW g Hb m a x) (rb : RW g Hb m b y) : TurnOk g Hb m tg [a, b] (.ref T) H (upd H T (.tup [x, y])) :=
  .inr ⟨by omega, T, [x, y], rfl, SqT.of upd_same, .cons ra (.cons rb .nil), .inr ⟨hT, rfl⟩⟩
end

section
variable {X : L2.Cx} {cls : Nat → Option (Addr × Str)} {xa : Option (Addr × Option Addr × Addr)} {c : Pf.Cx} {wx : WX} {tg : List Nat}
theorem liv_stop {m : List Addr} {en : Bool} {n : Nat} {p : Addr} (hp : m[n]? = some p) {st : Store} {H Hb1 Fr : Hp} {m1 : List Addr} (S : Sim (gX X cls) st H Hb1 Fr m1) (k : Pre m m1) {i : Nat} (h : nxt (.liv en n) tg st i = some none) : ∃ xs, SqL X.K H p xs ∧ xs.length ≤ i := by
  obtain ⟨ws, vs, h1, h2, h3⟩ := look_ok S (k _ _ hp) h
  rcases h3 with ⟨_, h3⟩ | ⟨w, us, h3, _⟩
  · exact ⟨vs, SqL.of h1, by rw [← h2.length]; exact List.getElem?_eq_none_iff.mp h3⟩
  · cases h3
theorem i_seq {a : Pf.E} {tgE x : Expr} (ha : PE X x (tE (gX X cls) xa c wx a)) : PI X tgE x (tI (gX X cls) xa c wx tg (.seq a)) :=
  ⟨fun pins s σ H R I q => (pi_seqA ha).run pins s σ H R I (by
    obtain ⟨env, st, Hb, Fr, m, S, E, P⟩ := q
    rw [evI] at P
    refine e_one S E P fun {w st1 H1 Hb1 m1 v} S1 rv P1 => ?_
    obtain ⟨it, hit, q⟩ := P1.ofO S1
    unfold seqIt at hit
    cases hf : frozen st1 w with
    | some ws =>
      rw [hf] at hit
      obtain ⟨wss, hw, rfl⟩ := map_ok hit
      obtain ⟨hl, hget⟩ := fixOf_get hw
      obtain ⟨p, vs, rfl, hs, rs, hz⟩ := frozen_ok S1 rv hf
      have few : ∀ wss', Pf.It.fix wss = .fix wss' → wss'.length ≤ sizeLine := fun wss' e => by
        cases e
        rw [hl]
        exact hz
      rcases hs with hs | hs
      · refine .inl ⟨p, vs, rfl, S1.hb.seq hs, q _ ⟨few, fun st H Hb2 Fr m2 S2 e2 k2 i h => ?_, fun st H Hb2 Fr m2 S2 e2 k2 i us h => ?_⟩⟩
        · exact ⟨vs, (e2.trans S2.hb).seq hs, by rw [← rs.length, ← hl]; exact fix_none h⟩
        · obtain ⟨w', h1, h2⟩ := hget i us (fix_some h)
          obtain ⟨v, h3, h4⟩ := rs.get h1
          refine ⟨⟨vs, v, (e2.trans S2.hb).seq hs, h3⟩, fun x H' y => ?_⟩
          obtain ⟨rfl, y2⟩ := y
          have e := y2 vs ((e2.trans S2.hb).seq hs)
          rw [h3] at e
          cases e
          exact turnW_ok S2.hb (h4.mono e2 k2) h2
      · refine .inr ⟨p, vs, rfl, sqT_mono S1.hb hs, q _ ⟨few, fun st H Hb2 Fr m2 S2 e2 k2 i h => ?_, fun st H Hb2 Fr m2 S2 e2 k2 i us h => ?_⟩⟩
        · exact ⟨vs, sqT_mono (e2.trans S2.hb) hs, by rw [← rs.length, ← hl]; exact fix_none h⟩
        · obtain ⟨w', h1, h2⟩ := hget i us (fix_some h)
          obtain ⟨v, h3, h4⟩ := rs.get h1
          refine ⟨⟨vs, v, sqT_mono (e2.trans S2.hb) hs, h3⟩, fun x H' y => ?_⟩
          obtain ⟨rfl, y2⟩ := y
          have e := y2 vs (sqT_mono (e2.trans S2.hb) hs)
          rw [h3] at e
          cases e
          exact turnW_ok S2.hb (h4.mono e2 k2) h2
    | none =>
      rw [hf] at hit
      cases w with
      | v d => cases hit
      | x k d => cases hit
      | r n =>
        have hit : (if isLive st1[n]? = true then some (Pf.It.liv false n) else none) = some it := hit
        by_cases hlv : isLive st1[n]? = true
        · rw [if_pos hlv] at hit
          cases hit
          obtain ⟨p, hp, rfl⟩ := rv
          cases hc : st1[n]? with
          | none => rw [hc] at hlv; cases hlv
          | some cc =>
            cases cc with
            | frz d => rw [hc] at hlv; cases hlv
            | live ws =>
              obtain ⟨vs, h1, _⟩ := live_of S1 hp hc
              refine .inl ⟨p, vs, rfl, SqL.of h1, q _ ⟨(fun wss e => nomatch e), fun st H Hb2 Fr m2 S2 e2 k2 i h => liv_stop hp S2 k2 h, fun st H Hb2 Fr m2 S2 e2 k2 i us h => ?_⟩⟩
              obtain ⟨ws, vs, g1, g2, g3⟩ := look_ok S2 (k2 _ _ hp) h
              rcases g3 with ⟨z, _⟩ | ⟨w, us', z, g4, g5⟩
              · cases z
              · cases z
                obtain ⟨v, g6, g7⟩ := g2.get g4
                refine ⟨⟨vs, v, SqL.of g1, g6⟩, fun x H' y => ?_⟩
                obtain ⟨rfl, y2⟩ := y
                have e := y2 vs (SqL.of g1)
                rw [g6] at e
                cases e
                exact turnW_ok (st := st) S2.hb g7 g5
        · rw [if_neg hlv] at hit
          cases hit)⟩
theorem tg1 {tg : List Nat} (h : tg.length = 1) : ∃ i, tg = [i] := by
  match tg, h with
  | [i], _ => exact ⟨i, rfl⟩
theorem rng_ok {i j : Int} {it : Pf.It} {g : Gx} {Hb : Hp} {m : List Addr} (h : rngI tg (some i) (some j) = some it) : (j ≤ 1000000 ∧ -1000000 ≤ j) ∧ (i ≤ 1000000 ∧ -1000000 ≤ i) ∧ ItOk g (Itr i (j - i).toNat) it tg Hb m := by
  have h : (if tg.length = 1 ∧ (j ≤ 1000000 ∧ -1000000 ≤ j) ∧ (i ≤ 1000000 ∧ -1000000 ≤ i) then some (Pf.It.fix ((rangeW i (j - i).toNat).map fun w => [w])) else none) = some it := h
  by_cases hb : tg.length = 1 ∧ (j ≤ 1000000 ∧ -1000000 ≤ j) ∧ (i ≤ 1000000 ∧ -1000000 ≤ i)
  · rw [if_pos hb] at h
    cases h
    obtain ⟨h1, h2, h3⟩ := hb
    obtain ⟨t, rfl⟩ := tg1 h1
    have hl : ((rangeW i (j - i).toNat).map fun w => [w]).length = (j - i).toNat := by rw [List.length_map, rangeW_len]
    refine ⟨h2, h3, ⟨fun wss e => ?_, fun st H Hb1 Fr m1 S e p k hn => ?_, fun st H Hb1 Fr m1 S e p k us hn => ?_⟩⟩
    · cases e
      rw [hl, sizeLine_eq]
      omega
    · have := fix_none hn
      rw [hl] at this
      exact this
    · have hg := fix_some hn
      rw [List.getElem?_map, rangeW_get] at hg
      by_cases hk : k < (j - i).toNat
      · rw [if_pos hk] at hg
        cases hg
        refine ⟨hk, fun x H' y => ?_⟩
        obtain ⟨rfl, rfl⟩ := y
        exact .inl ⟨t, _, rfl, rfl, RD.int _, rfl⟩
      · rw [if_neg hk] at hg
        cases hg
  · rw [if_neg hb] at h
    cases h
theorem i_rng1 {a : Pf.E} {tgE x : Expr} {p pos : Pos} (b : Bi X "range" (.type "range")) (hn : notStar x = true) (ha : PE X x (tE (gX X cls) xa c wx a)) : PI X tgE (.Call (.Name "range" p) [x] [] pos) (tI (gX X cls) xa c wx tg (.rng1 a)) :=
  ⟨fun pins s σ H R I q => (pi_range1 b.gl b.mg (pa_cons ha pa_nil (star_cons hn)) (star_cons hn)).run pins s σ H R I (by
    obtain ⟨env, st, Hb, Fr, m, S, E, P⟩ := q
    rw [evI] at P
    refine e_one S E P fun {w st1 H1 Hb1 m1 v} S1 rv P1 => ?_
    obtain ⟨it, hit, q⟩ := P1.ofO S1
    cases hj : intOf w with
    | none => rw [hj] at hit; cases hit
    | some j =>
      rw [hj] at hit
      obtain ⟨h1, h2, h3⟩ := rng_ok (g := gX X cls) (Hb := Hb1) (m := m1) hit
      refine ⟨j, by rw [int_of rv hj], by omega, by omega, ?_⟩
      rw [Int.sub_zero] at h3
      exact q _ h3)⟩
theorem i_rng2 {a b : Pf.E} {tgE x y : Expr} {p pos : Pos} (bi : Bi X "range" (.type "range")) (hn : notStar x = true) (hn2 : notStar y = true) (ha : PE X x (tE (gX X cls) xa c wx a)) (hb : PE X y (tE (gX X cls) xa c wx b)) : PI X tgE (.Call (.Name "range" p) [x, y] [] pos) (tI (gX X cls) xa c wx tg (.rng2 a b)) :=
  ⟨fun pins s σ H R I q => (pi_range2 bi.gl bi.mg (pa_cons ha (pa_cons hb pa_nil (star_cons hn2)) (star_cons hn)) (by rw [star_cons hn, star_cons hn2]; rfl) (star_cons hn2)).run pins s σ H R I (by
    obtain ⟨env, st, Hb, Fr, m, S, E, P⟩ := q
    rw [evI] at P
    refine ⟨env, st, Hb, Fr, m, S, E, P.thn fun w st1 H1 Hb1 m1 S1 e1 p1 P1 v rv => ?_⟩
    refine ⟨env, st1, Hb1, Fr, m1, S1, E.mono e1 p1, P1.thn fun u st2 H2 Hb2 m2 S2 e2 p2 P2 z rz => ?_⟩
    obtain ⟨it, hit, q⟩ := P2.ofO S2
    cases hi : intOf w with
    | none => rw [hi] at hit; cases hit
    | some i =>
      cases hj : intOf u with
      | none => rw [hi, hj] at hit; cases hit
      | some j =>
        rw [hi, hj] at hit
        obtain ⟨h1, h2, h3⟩ := rng_ok (g := gX X cls) (Hb := Hb2) (m := m2) hit
        exact ⟨i, j, by rw [int_of rv hi, int_of rz hj], ⟨by omega, by omega, by omega, by omega⟩, q _ h3⟩)⟩
theorem i_enu {a : Pf.E} {x : Expr} {elts : List Expr} {kk : Nat} {p pos tpos : Pos} (b : Bi X "enumerate" (.type "enumerate")) (hn : notStar x = true) (ha : PE X x (tE (gX X cls) xa c wx a)) : PI X (.Tuple elts kk tpos) (.Call (.Name "enumerate" p) [x] [] pos) (tI (gX X cls) xa c wx tg (.enu a)) :=
  ⟨fun pins s σ H R I q => (pi_enumA b (pa_cons ha pa_nil (star_cons hn)) hn).run pins s σ H R I (by
    obtain ⟨env, st, Hb, Fr, m, S, E, P⟩ := q
    rw [evI] at P
    refine e_one S E P fun {w st1 H1 Hb1 m1 v} S1 rv P1 => ?_
    obtain ⟨it, hit, q⟩ := P1.ofO S1
    unfold enuIt at hit
    by_cases hl : tg.length = 2
    · rw [if_pos hl] at hit
      cases hf : frozen st1 w with
      | some ws =>
        rw [hf] at hit
        cases hit
        obtain ⟨p, vs, rfl, hs, rs, hz⟩ := frozen_ok S1 rv hf
        have few : ∀ wss', Pf.It.fix (enumW 0 ws) = .fix wss' → wss'.length ≤ sizeLine := fun wss' e => by
          cases e
          rw [enumW_len]
          exact hz
        have got : ∀ {i us st}, nxt (.fix (enumW 0 ws)) tg st i = some (some us) → ∃ w v, ws[i]? = some w ∧ us = [.v (.int (i : Nat)), w] ∧ vs[i]? = some v ∧ RW (gX X cls) Hb1 m1 w v := fun {i us st} h => by
          have hg := fix_some h
          rw [enumW_get, Nat.zero_add] at hg
          obtain ⟨w, h1, h2⟩ := map_ok hg
          obtain ⟨v, h3, h4⟩ := rs.get h1
          exact ⟨w, v, h1, h2, h3, h4⟩
        rcases hs with hs | hs
        · refine ⟨p, vs, rfl, .inl ⟨S1.hb.seq hs, q _ ⟨few, fun st H Hb2 Fr m2 S2 e2 k2 i h => ?_, fun st H Hb2 Fr m2 S2 e2 k2 i us h => ?_⟩⟩⟩
          · refine ⟨vs, (e2.trans S2.hb).seq hs, ?_⟩
            have := fix_none h
            rw [enumW_len, rs.length] at this
            exact this
          · obtain ⟨w', v, h1, rfl, h3, h4⟩ := got h
            refine ⟨⟨vs, v, (e2.trans S2.hb).seq hs, h3⟩, fun x H' y => ?_⟩
            obtain ⟨T, x', rfl, hT, rfl, y2⟩ := y
            have e := y2 vs ((e2.trans S2.hb).seq hs)
            rw [h3] at e
            cases e
            exact new_pair hl hT (RD.int _) (h4.mono e2 k2)
        · refine ⟨p, vs, rfl, .inr ⟨sqT_mono S1.hb hs, q _ ⟨few, fun st H Hb2 Fr m2 S2 e2 k2 i h => ?_, fun st H Hb2 Fr m2 S2 e2 k2 i us h => ?_⟩⟩⟩
          · refine ⟨vs, sqT_mono (e2.trans S2.hb) hs, ?_⟩
            have := fix_none h
            rw [enumW_len, rs.length] at this
            exact this
          · obtain ⟨w', v, h1, rfl, h3, h4⟩ := got h
            refine ⟨⟨vs, v, sqT_mono (e2.trans S2.hb) hs, h3⟩, fun x H' y => ?_⟩
            obtain ⟨T, x', rfl, hT, rfl, y2⟩ := y
            have e := y2 vs (sqT_mono (e2.trans S2.hb) hs)
            rw [h3] at e
            cases e
            exact new_pair hl hT (RD.int _) (h4.mono e2 k2)
      | none =>
        rw [hf] at hit
        cases w with
        | v d => cases hit
        | x k d => cases hit
        | r n =>
          have hit : (if isLive st1[n]? = true then some (Pf.It.liv true n) else none) = some it := hit
          by_cases hlv : isLive st1[n]? = true
          · rw [if_pos hlv] at hit
            cases hit
            obtain ⟨p, hp, rfl⟩ := rv
            cases hc : st1[n]? with
            | none => rw [hc] at hlv; cases hlv
            | some cc =>
              cases cc with
              | frz d => rw [hc] at hlv; cases hlv
              | live ws =>
                obtain ⟨vs, h1, _⟩ := live_of S1 hp hc
                refine ⟨p, vs, rfl, .inl ⟨SqL.of h1, q _ ⟨(fun wss e => nomatch e), fun st H Hb2 Fr m2 S2 e2 k2 i h => liv_stop hp S2 k2 h, fun st H Hb2 Fr m2 S2 e2 k2 i us h => ?_⟩⟩⟩
                obtain ⟨ws, vs, g1, g2, g3⟩ := look_ok S2 (k2 _ _ hp) h
                rcases g3 with ⟨z, _⟩ | ⟨w, us', z, g4, g5⟩
                · cases z
                · cases z
                  obtain ⟨v, g6, g7⟩ := g2.get g4
                  refine ⟨⟨vs, v, SqL.of g1, g6⟩, fun x H' y => ?_⟩
                  obtain ⟨T, x', rfl, hT, rfl, y2⟩ := y
                  have e := y2 vs (SqL.of g1)
                  rw [g6] at e
                  cases e
                  cases g5
                  exact new_pair hl hT (RD.int _) g7
          · rw [if_neg hlv] at hit
            cases hit
    · rw [if_neg hl] at hit
      cases hit)⟩
theorem i_zp {a b : Pf.E} {x y : Expr} {elts : List Expr} {kk : Nat} {p pos tpos : Pos} (bi : Bi X "zip" (.type "zip")) (hn : notStar x = true) (hn2 : notStar y = true) (ha : PE X x (tE (gX X cls) xa c wx a)) (hb : PE X y (tE (gX X cls) xa c wx b)) :
    PI X (.Tuple elts kk tpos) (.Call (.Name "zip" p) [x, y] [] pos) (tI (gX X cls) xa c wx tg (.zp a b)) :=
  ⟨fun pins s σ H R I q => (RZ.pi_zipA bi.gl bi.mg (pa_cons ha (pa_cons hb pa_nil (star_cons hn2)) (star_cons hn)) (star_cons hn) (star_any (by rw [List.all_cons, hn2]; rfl))).run pins s σ H R I (by
    obtain ⟨env, st, Hb, Fr, m, S, E, P⟩ := q
    rw [evI] at P
    refine ⟨env, st, Hb, Fr, m, S, E, P.thn fun w st1 H1 Hb1 m1 S1 e1 p1 P1 v rv => ?_⟩
    refine ⟨env, st1, Hb1, Fr, m1, S1, E.mono e1 p1, P1.thn fun u st2 H2 Hb2 m2 S2 e2 p2 P2 z rz => ?_⟩
    obtain ⟨it, hit, q⟩ := P2.ofO S2
    have rv := rv.mono e2 p2
    cases hf : frozen st2 w with
    | none => rw [hf] at hit; cases hit
    | some as =>
      cases hf2 : frozen st2 u with
      | none => rw [hf, hf2] at hit; cases hit
      | some bs =>
        rw [hf, hf2] at hit
        have hit : (if tg.length = 2 ∧ sameK (items st2 w) (items st2 u) = true then some (Pf.It.fix (zipW as bs)) else none) = some it := hit
        by_cases hl : tg.length = 2 ∧ sameK (items st2 w) (items st2 u) = true
        · rw [if_pos hl] at hit
          cases hit
          obtain ⟨hl, hk⟩ := hl
          obtain ⟨t1, i1, p, vs, rfl, hs1, rs1, hz1⟩ := frozen_kind S2 rv hf
          obtain ⟨t2, i2, p', vs', rfl, hs2, rs2, hz2⟩ := frozen_kind S2 rz hf2
          rw [i1, i2] at hk
          have et : t1 = t2 := eq_of_beq (show (t1 == t2) = true from hk)
          subst et
          have few : ∀ wss', Pf.It.fix (zipW as bs) = .fix wss' → wss'.length ≤ sizeLine := fun wss' e => by
            cases e
            rw [zipW_len]
            omega
          have got : ∀ {i us st}, nxt (.fix (zipW as bs)) tg st i = some (some us) → ∃ a b x y, us = [a, b] ∧ vs[i]? = some x ∧ vs'[i]? = some y ∧ RW (gX X cls) Hb2 m2 a x ∧ RW (gX X cls) Hb2 m2 b y := fun {i us st} h => by
            obtain ⟨a, b, h1, h2, h3⟩ := zipW_get as bs i us (fix_some h)
            obtain ⟨x, h4, h5⟩ := rs1.get h1
            obtain ⟨y, h6, h7⟩ := rs2.get h2
            exact ⟨a, b, x, y, h3, h4, h6, h5, h7⟩
          have ends : ∀ {i st}, nxt (.fix (zipW as bs)) tg st i = some none → vs.length ≤ i ∨ vs'.length ≤ i := fun {i st} h => by
            have := fix_none h
            rw [zipW_len, rs1.length, rs2.length] at this
            omega
          cases t1 with
          | false =>
            have hs1 : SqL X.K Hb2 p vs := hs1.elim (fun z => z.2) fun z => nomatch z.1
            have hs2 : SqL X.K Hb2 p' vs' := hs2.elim (fun z => z.2) fun z => nomatch z.1
            refine ⟨p, p', vs, vs', rfl, .inl ⟨S2.hb.seq hs1, S2.hb.seq hs2, q _ ⟨few, fun st H Hb3 Fr m3 S3 e3 k3 i h => ?_, fun st H Hb3 Fr m3 S3 e3 k3 i us h => ?_⟩⟩⟩
            · exact ⟨vs, vs', (e3.trans S3.hb).seq hs1, (e3.trans S3.hb).seq hs2, ends h⟩
            · obtain ⟨a, b, x, y, rfl, g1, g2, g3, g4⟩ := got h
              refine ⟨⟨vs, vs', x, y, (e3.trans S3.hb).seq hs1, (e3.trans S3.hb).seq hs2, g1, g2⟩, fun z H' yy => ?_⟩
              obtain ⟨T, x', y', rfl, hT, rfl, y2, y3⟩ := yy
              have e := y2 vs ((e3.trans S3.hb).seq hs1)
              rw [g1] at e
              cases e
              have e := y3 vs' ((e3.trans S3.hb).seq hs2)
              rw [g2] at e
              cases e
              exact new_pair hl hT (g3.mono e3 k3) (g4.mono e3 k3)
          | true =>
            have hs1 : SqT X.K Hb2 p vs := hs1.elim (fun z => nomatch z.1) fun z => z.2
            have hs2 : SqT X.K Hb2 p' vs' := hs2.elim (fun z => nomatch z.1) fun z => z.2
            refine ⟨p, p', vs, vs', rfl, .inr ⟨sqT_mono S2.hb hs1, sqT_mono S2.hb hs2, q _ ⟨few, fun st H Hb3 Fr m3 S3 e3 k3 i h => ?_, fun st H Hb3 Fr m3 S3 e3 k3 i us h => ?_⟩⟩⟩
            · exact ⟨vs, vs', sqT_mono (e3.trans S3.hb) hs1, sqT_mono (e3.trans S3.hb) hs2, ends h⟩
            · obtain ⟨a, b, x, y, rfl, g1, g2, g3, g4⟩ := got h
              refine ⟨⟨vs, vs', x, y, sqT_mono (e3.trans S3.hb) hs1, sqT_mono (e3.trans S3.hb) hs2, g1, g2⟩, fun z H' yy => ?_⟩
              obtain ⟨T, x', y', rfl, hT, rfl, y2, y3⟩ := yy
              have e := y2 vs (sqT_mono (e3.trans S3.hb) hs1)
              rw [g1] at e
              cases e
              have e := y3 vs' (sqT_mono (e3.trans S3.hb) hs2)
              rw [g2] at e
              cases e
              exact new_pair hl hT (g3.mono e3 k3) (g4.mono e3 k3)
        · rw [if_neg hl] at hit
          cases hit)⟩
end
end Pf
set_option Elab.async false
set_option linter.all false
set_option maxRecDepth 100000
set_option maxHeartbeats 1000000
/-! Pf, part J: calls of own functions. -/
namespace Pf
open PySem PySem.Spec PyProof.Rows L2

/-- a function's promise: what the evaluator says of it -/
def spF (g : Gx) (c : Pf.Cx) (f : Nat) : Sp := fun vs H Q E => ∃ ws st Hb Fr m, Sim g st H Hb Fr m ∧ RWs g Hb m ws vs ∧
  Post g (fun cls d _ H' => E cls d H') [] Fr Hb m (c.call f ws st) fun w _ Hb' m' H' => ∀ v, RW g Hb' m' w v → Q v H'

/-! ### how parameters are bound -/
inductive ArrOk (K : PySem.W.Frag) (us : List Value) : List Ag → List Value → Prop
  | nil : ArrOk K us [] []
  | a {j : Nat} {r : Value} {pm : List Ag} {rs : List Value} : us[j]? = some r → ArrOk K us pm rs → ArrOk K us (.a j :: pm) (r :: rs)
  | d {d : D} {v : V} {r : Value} {pm : List Ag} {rs : List Value} : RelV v r → (∀ H, RD K H d v) → ArrOk K us pm rs → ArrOk K us (.d d :: pm) (r :: rs)
/-- n positional values and the keywords ks reach the parameters as pm says -/
def BindF (K : PySem.W.Frag) (fd : FuncData) (ps : List Str) (n : Nat) (ks : List Str) (pm : List Ag) : Prop :=
  ∀ (s : Shared) (us ws : List Value), K.In s.heap → us.length = n → ws.length = ks.length → ∃ rs, BindsTo s fd ⟨us, ks.zip ws⟩ (ps.zip rs) ∧ ArrOk K (us ++ ws) pm rs
theorem arr_vals {g : Gx} {H : Hp} {m : List Addr} {ws : List W} {vs : List V} {us : List Value} (r : RWs g H m ws vs) (ru : Vals vs us) : ∀ {pm : List Ag} {rs : List Value} {as : List W}, ArrOk g.K us pm rs → argsOf ws pm = some as → ∃ vr, Vals vr rs ∧ RWs g H m as vr
  | [], _, as, .nil, h => by
    cases h
    exact ⟨[], .nil, .nil⟩
  | .a j :: pm, _, as, .a hj t, h => by
    have h : (match ws[j]? with | some w => (argsOf ws pm).map (w :: ·) | none => none) = some as := h
    cases hw : ws[j]? with
    | none => rw [hw] at h; cases h
    | some w =>
      rw [hw] at h
      obtain ⟨as', h1, rfl⟩ := map_ok (show (argsOf ws pm).map (w :: ·) = some as from h)
      obtain ⟨vr, h2, h3⟩ := arr_vals r ru t h1
      obtain ⟨v, h4, h5⟩ := r.get hw
      obtain ⟨u, h6, h7⟩ := ru.get h4
      rw [h6] at hj
      cases hj
      exact ⟨v :: vr, .cons h7 h2, .cons h5 h3⟩
  | .d d :: pm, _, as, .d hr hd t, h => by
    obtain ⟨as', h1, rfl⟩ := map_ok (show (argsOf ws pm).map (W.v d :: ·) = some as from h)
    obtain ⟨vr, h2, h3⟩ := arr_vals r ru t h1
    exact ⟨_ :: vr, .cons hr h2, .cons (hd H) h3⟩

/-! ### the callee's ground -/
theorem allV_rw {g : Gx} {H : Hp} {m m' : List Addr} : ∀ {ws : List W} {vs : List V}, RWs g H m ws vs → allV ws = true → RWs g H m' ws vs
  | _, _, .nil, _ => .nil
  | .v d :: ws, _, .cons r t, h => .cons r (allV_rw t h)
  | .r n :: ws, _, .cons r t, h => by cases h
  | .x c d :: ws, _, .cons r t, h => by cases h
/-- what is not ours: all that may change -/
def awayH (H Hb : Hp) : Hp := fun a => match Hb a with
  | none => H a
  | some _ => none
theorem awayH_none {H Hb : Hp} {a : Addr} (h : Hb a = none) : awayH H Hb a = H a := by
  unfold awayH
  rw [h]
theorem awayH_some {H Hb : Hp} {a : Addr} {o : HO} (h : Hb a = some o) : awayH H Hb a = none := by
  unfold awayH
  rw [h]
section
variable {g : Gx} {st st' : Store} {H H' Hb Hb' Fr : Hp} {m m' : List Addr}
theorem Sim.empty (S : Sim g st H Hb Fr m) : Sim g [] H Hb (awayH H Hb) [] where
  hb := S.hb
  fr := fun a u e => by
    cases h : Hb a with
    | none =>
      rw [awayH_none h] at e
      exact e
    | some o =>
      rw [awayH_some h] at e
      cases e
  dj := fun a h => by
    cases h' : Hb a with
    | none => rfl
    | some o => exact absurd (awayH_some h') h
  len := rfl
  inj := fun i j p h => by simp at h
  cell := fun n c p h => by simp at h
/-- behind a pure call -/
theorem Sim.back (S : Sim g st H Hb Fr m) (T : Sim g st' H' Hb' (awayH H Hb) m') (e : Same Hb Hb') : Sim g st H' Hb' Fr m where
  hb := T.hb
  fr := fun a u h => by
    have h1 := S.dj a (by rw [h]; exact fun z => nomatch z)
    refine T.fr a u ?_
    rw [awayH_none h1]
    exact S.fr a u h
  dj := fun a h => by
    have h1 := S.dj a h
    refine T.dj a ?_
    rw [awayH_none h1]
    cases hf : Fr a with
    | none => exact absurd hf h
    | some u =>
      rw [S.fr a u hf]
      exact fun z => nomatch z
  len := S.len
  inj := S.inj
  cell := fun n c p h1 h2 => by
    refine (S.cell n c p h1 h2).mono e (Pre.refl m) fun ws ec => ?_
    subst ec
    obtain ⟨k1, k2, vs, k3, _⟩ := S.cell n _ p h1 h2
    have k4 : awayH H Hb p = some (.lst vs) := by
      rw [awayH_none k1]
      exact k3
    refine ⟨T.dj p (by rw [k4]; exact fun z => nomatch z), ?_⟩
    rw [T.fr p _ k4, k3]
end
section
variable {g : Gx} {wx : WX} {σ : L2.St} {st : Store} {H Hb Fr : Hp} {m : List Addr}
theorem Post.cast {α : Type} {r : R α} {k : α → Store → Hp → List Addr → Hp → Prop} (P : Post g wx σ Fr Hb m r k) : Post g (fun cls d _ H' => wx cls d σ H') [] Fr Hb m r k := by
  cases r with
  | ok a st => exact P
  | exc c d st => exact P
  | stuck => exact P
theorem call_pure {c : Pf.Cx} {f : Nat} {ws : List W} {vs : List V} {Q : VK} (S : Sim g st H Hb Fr m) (r : RWs g Hb m ws vs) (P : Post g wx σ Fr Hb m (callW c true f ws st) fun w _ Hb' m' H' => ∀ v, RW g Hb' m' w v → Q v H') : spF g c f vs H Q (WE wx σ) := by
  have P : Post g wx σ Fr Hb m (if allV ws = true then pureS st (c.call f ws []) else .stuck) fun w _ Hb' m' H' => ∀ v, RW g Hb' m' w v → Q v H' := P
  by_cases ha : allV ws = true
  · rw [if_pos ha] at P
    refine ⟨ws, [], Hb, awayH H Hb, [], S.empty, allV_rw r ha, ?_⟩
    cases hc : c.call f ws [] with
    | stuck =>
      rw [hc] at P
      exact P.elim
    | exc k d st' =>
      rw [hc] at P
      intro H' Hb' m' C od T e p h1
      exact P H' Hb' m C od (S.back T e) e (Pre.refl m) h1
    | ok w st' =>
      rw [hc] at P
      cases w with
      | r n => exact P.elim
      | x k d => exact P.elim
      | v d =>
        intro H' Hb' m' T e p v rv
        exact P H' Hb' m (S.back T e) e (Pre.refl m) v rv
  · rw [if_neg ha] at P
    exact P.elim
theorem call_full {c : Pf.Cx} {f : Nat} {ws : List W} {vs : List V} {Q : VK} (S : Sim g st H Hb Fr m) (r : RWs g Hb m ws vs) (P : Post g wx σ Fr Hb m (callW c false f ws st) fun w _ Hb' m' H' => ∀ v, RW g Hb' m' w v → Q v H') : spF g c f vs H Q (WE wx σ) :=
  ⟨ws, st, Hb, Fr, m, S, r, P.cast⟩
theorem call_both {c : Pf.Cx} {k : Bool} {f : Nat} {ws : List W} {vs : List V} {Q : VK} (S : Sim g st H Hb Fr m) (r : RWs g Hb m ws vs) (P : Post g wx σ Fr Hb m (callW c k f ws st) fun w _ Hb' m' H' => ∀ v, RW g Hb' m' w v → Q v H') : spF g c f vs H Q (WE wx σ) := by
  cases k with
  | true => exact call_pure S r P
  | false => exact call_full S r P
end

/-! ### the call -/
def esApp : Es → Es → Es
  | .nil, fs => fs
  | .cons e es, fs => .cons e (esApp es fs)
theorem evEs_app {c : Pf.Cx} {β : Type} : ∀ (es fs : Es) (env : Pf.Env) (st : Store) (k : List W → Store → R β), (evEs c (esApp es fs) env st).bind k = (evEs c es env st).bind fun ws st1 => (evEs c fs env st1).bind fun us st2 => k (ws ++ us) st2
  | .nil, fs, env, st, k => by
    rw [evEs]
    rfl
  | .cons e es, fs, env, st, k => by
    show (evEs c (.cons e (esApp es fs)) env st).bind k = _
    rw [evEs, evEs]
    cases he : evE c e env st with
    | exc _ _ _ => rfl
    | stuck => rfl
    | ok w st1 =>
      have hl : ∀ {α : Type} (r : R α) (g : α → Store → R (List W)) (k : List W → Store → R β), (r.bind g).bind k = r.bind fun a st => (g a st).bind k := fun r g k => by cases r <;> rfl
      show ((evEs c (esApp es fs) env st1).bind fun ws st2 => R.ok (w :: ws) st2).bind k = ((evEs c es env st1).bind fun ws st2 => R.ok (w :: ws) st2).bind fun ws st1 => (evEs c fs env st1).bind fun us st2 => k (ws ++ us) st2
      rw [hl, hl]
      exact evEs_app es fs env st1 fun ws st2 => k (w :: ws) st2
section
variable {X : L2.Cx} {cls : Nat → Option (Addr × Str)} {xa : Option (Addr × Option Addr × Addr)} {c : Pf.Cx} {wx : WX}
theorem k_nil : PK X [] (tEs (gX X cls) xa c wx .nil) :=
  ⟨fun pos pins s σ H Q I h => pk_nil.run pos pins s σ H Q I (by
    obtain ⟨env, st, Hb, Fr, m, S, E, P⟩ := h
    rw [evEs] at P
    exact P.now S [] .nil)⟩
theorem k_cons {e : Pf.E} {es : Es} {x : Expr} {nm : Option Str} {kp : Pos} {ks : List Keyword} (h1 : PE X x (tE (gX X cls) xa c wx e)) (h2 : PK X ks (tEs (gX X cls) xa c wx es)) : PK X (⟨nm, x, kp⟩ :: ks) (tEs (gX X cls) xa c wx (.cons e es)) :=
  ⟨fun pos pins s σ H Q I h => (pk_cons h1 h2).run pos pins s σ H Q I (by
    obtain ⟨env, st, Hb, Fr, m, S, E, P⟩ := h
    rw [evEs] at P
    refine ⟨env, st, Hb, Fr, m, S, E, P.thn fun w st1 H1 Hb1 m1 S1 e1 p1 P1 v rv => ?_⟩
    exact ⟨env, st1, Hb1, Fr, m1, S1, E.mono e1 p1, P1.thn fun ws st2 H2 Hb2 m2 S2 e2 p2 P2 vs rvs => P2.now S2 (v :: vs) (.cons (rv.mono e2 p2) rvs)⟩)⟩
/-- what is known of an own function -/
structure FnAt (P : Program) (w : World) (K : PySem.W.Frag) (mg : Str → Option Value) (base : Heap) (g : Gx) (c : Pf.Cx) (f : Nat) (kk : Nat) (x : Str) (sh : List (Nat × List Str × List Ag)) : Prop where
  ex : ∃ (a : Addr) (fd : FuncData) (ps : List Str), mg x = some (.ref a) ∧ PySem.W.keepIn K (.ref a) = true ∧ FnOk P w K mg base (L2.CX P w) kk a fd ps (spF g c f) ∧ ∀ q ∈ sh, BindF K fd ps q.1 q.2.1 q.2.2
theorem run_any {f : Addr} {fd : FuncData} {ps ks : List Str} {kk np : Nat} {pm : List Ag} {fi : Nat} {k : Bool} {us ws : List Value} {vs zs : List V} {as1 as2 : List W} {pins : List (Addr × Obj)} {s : Shared} {σ : L2.St} {H Hb Fr : Hp} {m : List Addr} {st : Store} {Q : VK}
    (F : FnOk X.prog X.w X.K X.mg X.base (L2.CX X.prog X.w) kk f fd ps (spF (gX X cls) c fi)) (hr : Room kk X.A) (B : BindF X.K fd ps np ks pm) (tk : Takes X wx) (I : Inv X pins σ H s) (r : Vals vs us) (rz : Vals zs ws) (l1 : as1.length = np) (l2 : as2.length = ks.length)
    (S : Sim (gX X cls) st H Hb Fr m) (r1 : RWs (gX X cls) Hb m as1 vs) (r2 : RWs (gX X cls) Hb m as2 zs)
    (P : Post (gX X cls) wx σ Fr Hb m (callS c k fi pm (as1 ++ as2) st) fun w _ Hb' m' H' => ∀ v, RW (gX X cls) Hb' m' w v → Q v H') : wpAny (model X.prog X.w) X.A (call (.ref f) us (ks.zip ws)) (EP X pins σ Q) X.xe s := by
  have n1 : us.length = np := by rw [← r.length, ← r1.length, l1]
  have n2 : ws.length = ks.length := by rw [← rz.length, ← r2.length, l2]
  obtain ⟨rs, hb, ha⟩ := B s us ws I.kIn n1 n2
  have P : Post (gX X cls) wx σ Fr Hb m (match argsOf (as1 ++ as2) pm with | some as => callW c k fi as st | none => .stuck) fun w _ Hb' m' H' => ∀ v, RW (gX X cls) Hb' m' w v → Q v H' := P
  cases hg : argsOf (as1 ++ as2) pm with
  | none =>
    rw [hg] at P
    exact P.elim
  | some as =>
    rw [hg] at P
    obtain ⟨vr, h1, h2⟩ := arr_vals (g := gX X cls) (r1.append r2) (r.append rz) ha hg
    refine wpAny_call (codeAny_mono (F.run X.A X.stack s H ⟨us, ks.zip ws⟩ rs vr Q (WE wx σ) hr I.env0 hb h1 (call_both S h2 P)) fun r s' hq => ?_)
    cases r with
    | error e => exact passAt tk σ pins H s e s' I hq
    | ok fl =>
      cases fl with
      | ret u => exact I.after hq
      | next => exact False.elim hq
      | brk => exact False.elim hq
      | cont => exact False.elim hq
theorem tEs_nil {σ : L2.St} {H : Hp} {Q : List V → Hp → Prop} (h : tEs (gX X cls) xa c wx .nil σ H Q) : Q [] H := by
  obtain ⟨env, st, Hb, Fr, m, S, E, P⟩ := h
  rw [evEs] at P
  exact P.now S [] .nil
theorem es_nil {es : Es} (h : esLen es = 0) : es = .nil := by
  cases es with
  | nil => rfl
  | cons e es => cases h
theorem kw_len : ∀ {kws : List Keyword} {ks : List Str}, kwOk kws ks = true → kws.length = ks.length
  | [], [], _ => rfl
  | [], _ :: _, h => by cases h
  | ⟨some n, _, _⟩ :: kws, [], h => by cases h
  | ⟨none, _, _⟩ :: kws, [], h => by cases h
  | ⟨none, _, _⟩ :: kws, _ :: _, h => by cases h
  | ⟨some n, _, _⟩ :: kws, k :: ks, h => by
    obtain ⟨_, h2⟩ := and2 (show (decide (n = k) && kwOk kws ks) = true from h)
    rw [List.length_cons, List.length_cons, kw_len h2]
theorem c_own {k : Bool} {f np kk : Nat} {ks : List Str} {pm : List Ag} {es fs : Es} {x : Str} {xs : List Expr} {kws : List Keyword} {p pos : Pos} {sh : List (Nat × List Str × List Ag)} (F : FnAt X.prog X.w X.K X.mg X.base (gX X cls) c f kk x sh) (hr : Room kk X.A) (hg : Gl X x) (hdb : (x == ("__debug__" : Str)) = false) (tk : Takes X wx)
    (hsh : (np, ks, pm) ∈ sh) (hl : xs.length = np) (h1 : esLen es = np) (h2 : esLen fs = ks.length) (ha : PA X xs (tEs (gX X cls) xa c wx es)) (hn : xs.all notStar = true) (hk : PK X kws (tEs (gX X cls) xa c wx fs)) (hkw : kwOk kws ks = true) :
    PE X (.Call (.Name x p) xs kws pos) (tE (gX X cls) xa c wx (.call k f np ks pm (esApp es fs))) :=
  ⟨fun pins s σ H Q I q => by
    obtain ⟨a, fd, ps, hm, hkeep, FF, hB⟩ := F.ex
    have B := hB _ hsh
    obtain ⟨env, st, Hb, Fr, m, S, E, P⟩ := q
    rw [evE, evEs_app] at P
    refine wpAny_Call_Name_kw (ld_glob I hg hm ?_ hdb)
    -- the two rows of values
    have rowA : tEs (gX X cls) xa c wx es σ H fun vs H1 => tEs (gX X cls) xa c wx fs σ H1 fun zs H2 => ∃ as1 as2 st2 Hb2 m2, as1.length = np ∧ as2.length = ks.length ∧ Sim (gX X cls) st2 H2 Hb2 Fr m2 ∧ RWs (gX X cls) Hb2 m2 as1 vs ∧ RWs (gX X cls) Hb2 m2 as2 zs ∧
        Post (gX X cls) wx σ Fr Hb2 m2 (callS c k f pm (as1 ++ as2) st2) fun w _ Hb' m' H' => ∀ v, RW (gX X cls) Hb' m' w v → Q v H' := by
      refine ⟨env, st, Hb, Fr, m, S, E, P.thnE fun as1 st1 H1 Hb1 m1 eq1 S1 e1 p1 P1 vs rv => ?_⟩
      refine ⟨env, st1, Hb1, Fr, m1, S1, E.mono e1 p1, P1.thnE fun as2 st2 H2 Hb2 m2 eq2 S2 e2 p2 P2 zs rz => ?_⟩
      exact ⟨as1, as2, st2, Hb2, m2, (evEs_len eq1).trans h1, (evEs_len eq2).trans h2, S2, rv.mono e2 p2, rz, P2⟩
    have fin : ∀ {us ws : List Value} {vs zs : List V} {H2 : Hp} {s2 : Shared}, Inv X pins σ H2 s2 → Vals vs us → Vals zs ws → (∃ as1 as2 st2 Hb2 m2, as1.length = np ∧ as2.length = ks.length ∧ Sim (gX X cls) st2 H2 Hb2 Fr m2 ∧ RWs (gX X cls) Hb2 m2 as1 vs ∧ RWs (gX X cls) Hb2 m2 as2 zs ∧
        Post (gX X cls) wx σ Fr Hb2 m2 (callS c k f pm (as1 ++ as2) st2) fun w _ Hb' m' H' => ∀ v, RW (gX X cls) Hb' m' w v → Q v H') → wpAny (model X.prog X.w) X.A (call (.ref a) us (ks.zip ws)) (EP X pins σ Q) X.xe s2 := fun {us ws vs zs H2 s2} I2 r rz hh => by
      obtain ⟨as1, as2, st2, Hb2, m2, l1, l2, S2, q1, q2, P2⟩ := hh
      exact run_any FF hr B tk I2 r rz l1 l2 S2 q1 q2 P2
    cases xs with
    | nil =>
      have e0 : es = .nil := es_nil (by rw [h1, ← hl]; rfl)
      subst e0
      have row1 := tEs_nil rowA
      cases kws with
      | nil =>
        have ek : ks = [] := by
          cases ks with
          | nil => rfl
          | cons _ _ => cases hkw
        subst ek
        have e0 : fs = .nil := es_nil h2
        subst e0
        refine PySem.W.callWith_K0 I.kIn hkeep ?_
        exact fin (us := []) (ws := []) I .nil .nil (tEs_nil row1)
      | cons kw kws =>
        refine PySem.W.callWith_KW0 (h₀ := X.base) I.ok.mod.kin hkeep (kw_all hkw) ?_ ?_
        · refine thn (hk.run pos pins s σ H _ I row1) fun ws s2 ⟨zs, H2, I2, rz, q2⟩ => ⟨I2.kIn, ?_⟩
          rw [kw_names hkw]
          exact fin (us := []) I2 .nil rz q2
        · rw [kw_any hkw]
          rfl
    | cons x0 xs =>
      obtain ⟨n1, n2⟩ := and2 (show (notStar x0 && xs.all notStar) = true from hn)
      cases kws with
      | nil =>
        have ek : ks = [] := by
          cases ks with
          | nil => rfl
          | cons _ _ => cases hkw
        subst ek
        have e0 : fs = .nil := es_nil h2
        subst e0
        refine PySem.W.callWith_K (h₀ := X.base) I.ok.mod.kin hkeep (thn (ha.run pos pins s σ H _ I rowA) fun us s1 ⟨vs, H1, I1, r, q1⟩ => ⟨I1.kIn, ?_⟩) (star_cons n1) (star_any n2)
        exact fin (ws := []) I1 r .nil (tEs_nil q1)
      | cons kw kws =>
        refine PySem.W.callWith_KW (h₀ := X.base) I.ok.mod.kin hkeep (kw_all hkw) (thn (ha.run pos pins s σ H _ I rowA) fun us s1 ⟨vs, H1, I1, r, q1⟩ => ?_) ?_ (star_cons n1)
        · refine thn (hk.run pos pins s1 σ H1 _ I1 q1) fun ws s2 ⟨zs, H2, I2, rz, q2⟩ => ⟨I2.kIn, ?_⟩
          rw [kw_names hkw]
          exact fin I2 r rz q2
        · rw [star_any hn, kw_any hkw]
          rfl⟩
end
end Pf
set_option Elab.async false
set_option linter.all false
set_option maxRecDepth 100000
set_option maxHeartbeats 1000000
/-! Pf, part K: statements. -/
namespace Pf
open PySem PySem.Spec PyProof.Rows L2

/-- what is wanted of a statement's outcome -/
def PostS (g : Gx) (xa : Option (Addr × Option Addr × Addr)) (wx : WX) (D : Ends) (Fr Hb : Hp) (m : List Addr) (r : Rs) : Prop :=
  match r with
  | .nx env st => ∀ H' Hb' m' σ', Sim g st H' Hb' Fr m' → Same Hb Hb' → Pre m m' → RE g xa Hb' m' env σ' → D.nx σ' H'
  | .brk env st => ∀ H' Hb' m' σ', Sim g st H' Hb' Fr m' → Same Hb Hb' → Pre m m' → RE g xa Hb' m' env σ' → D.bk σ' H'
  | .cnt env st => ∀ H' Hb' m' σ', Sim g st H' Hb' Fr m' → Same Hb Hb' → Pre m m' → RE g xa Hb' m' env σ' → D.ct σ' H'
  | .ret w st => ∀ H' Hb' m', Sim g st H' Hb' Fr m' → Same Hb Hb' → Pre m m' → ∀ v, RW g Hb' m' w v → D.rt v H'
  | .exc c d env st => ∀ H' Hb' m' σ' C od, Sim g st H' Hb' Fr m' → Same Hb Hb' → Pre m m' → RE g xa Hb' m' env σ' → Xkp g Hb' c d C od → wx (.ref C) od σ' H'
  | .stuck => False
def tS (g : Gx) (xa : Option (Addr × Option Addr × Addr)) (c : Pf.Cx) (wx : WX) (s : S) : TS := fun D σ H => ∃ env st Hb Fr m, Sim g st H Hb Fr m ∧ RE g xa Hb m env σ ∧ PostS g xa wx D Fr Hb m (exS c s env st)
def tSs (g : Gx) (xa : Option (Addr × Option Addr × Addr)) (c : Pf.Cx) (wx : WX) (ss : Ss) : TS := fun D σ H => ∃ env st Hb Fr m, Sim g st H Hb Fr m ∧ RE g xa Hb m env σ ∧ PostS g xa wx D Fr Hb m (exSs c ss env st)
section
variable {g : Gx} {xa : Option (Addr × Option Addr × Addr)} {wx : WX} {D D' : Ends} {Fr Hb Hb1 : Hp} {m m1 : List Addr}
theorem PostS.later {r : Rs} (P : PostS g xa wx D Fr Hb m r) (e : Same Hb Hb1) (p : Pre m m1) : PostS g xa wx D Fr Hb1 m1 r := by
  cases r with
  | nx env st => exact fun H' Hb' m' σ' S e' p' E => P H' Hb' m' σ' S (e.trans e') (p.trans p') E
  | brk env st => exact fun H' Hb' m' σ' S e' p' E => P H' Hb' m' σ' S (e.trans e') (p.trans p') E
  | cnt env st => exact fun H' Hb' m' σ' S e' p' E => P H' Hb' m' σ' S (e.trans e') (p.trans p') E
  | ret w st => exact fun H' Hb' m' S e' p' => P H' Hb' m' S (e.trans e') (p.trans p')
  | exc k d env st => exact fun H' Hb' m' σ' C od S e' p' E => P H' Hb' m' σ' C od S (e.trans e') (p.trans p') E
  | stuck => exact P
theorem PostS.ne {r : Rs} (P : PostS g xa wx D Fr Hb m r) : r ≠ .stuck := fun e => by
  rw [e] at P
  exact P
theorem PostS.now {env : Pf.Env} {st : Store} {H : Hp} {σ : L2.St} (P : PostS g xa wx D Fr Hb m (.nx env st)) (S : Sim g st H Hb Fr m) (E : RE g xa Hb m env σ) : D.nx σ H := P H Hb m σ S (fun _ _ e => e) (Pre.refl m) E
/-- an expression, then more -/
theorem PostS.expr {α : Type} {r : R α} {env : Pf.Env} {σ : L2.St} {f : α → Store → Rs} (P : PostS g xa wx D Fr Hb m (bindG r env f)) (E : RE g xa Hb m env σ) : Post g wx σ Fr Hb m r fun a st Hb' m' _ => PostS g xa wx D Fr Hb' m' (f a st) := by
  cases r with
  | ok a st => exact fun H' Hb' m' S e p => PostS.later (r := f a st) P e p
  | exc k d st => exact fun H' Hb' m' C od S e p => P H' Hb' m' σ C od S e p (E.mono e p)
  | stuck => exact P
theorem PostS.exprE {α : Type} {r : R α} {env : Pf.Env} {σ : L2.St} {f : α → Store → Rs} {k : α → Store → Hp → List Addr → Hp → Prop} (P : PostS g xa wx D Fr Hb m (bindG r env f)) (E : RE g xa Hb m env σ)
    (q : ∀ a st H' Hb' m', r = .ok a st → Sim g st H' Hb' Fr m' → Same Hb Hb' → Pre m m' → PostS g xa wx D Fr Hb' m' (f a st) → k a st Hb' m' H') : Post g wx σ Fr Hb m r k := by
  cases r with
  | ok a st => exact fun H' Hb' m' S e p => q a st H' Hb' m' rfl S e p (PostS.later (r := f a st) P e p)
  | exc k d st => exact fun H' Hb' m' C od S e p => P H' Hb' m' σ C od S e p (E.mono e p)
  | stuck => exact P
/-- one statement, then more -/
theorem PostS.seq {r : Rs} {f : Pf.Env → Store → Rs} (P : PostS g xa wx D Fr Hb m (thenS r f)) (k : L2.St → Hp → Prop) (q : ∀ env st H' Hb' m' σ', Sim g st H' Hb' Fr m' → RE g xa Hb' m' env σ' → PostS g xa wx D Fr Hb' m' (f env st) → k σ' H') : PostS g xa wx { D with nx := k } Fr Hb m r := by
  cases r with
  | nx env st => exact fun H' Hb' m' σ' S e p E => q env st H' Hb' m' σ' S E (PostS.later (r := f env st) P e p)
  | brk env st => exact P
  | cnt env st => exact P
  | ret w st => exact P
  | exc k d env st => exact P
  | stuck => exact P
/-- a loop's suite, then more turns -/
theorem PostS.turn {r : Rs} {f : Pf.Env → Store → Rs} (P : PostS g xa wx D Fr Hb m (foOne r f)) (k : L2.St → Hp → Prop) (q : ∀ env st H' Hb' m' σ', Sim g st H' Hb' Fr m' → Same Hb Hb' → Pre m m' → RE g xa Hb' m' env σ' → PostS g xa wx D Fr Hb' m' (f env st) → k σ' H') :
    PostS g xa wx { D with nx := k, ct := k, bk := D.nx } Fr Hb m r := by
  cases r with
  | nx env st => exact fun H' Hb' m' σ' S e p E => q env st H' Hb' m' σ' S e p E (PostS.later (r := f env st) P e p)
  | cnt env st => exact fun H' Hb' m' σ' S e p E => q env st H' Hb' m' σ' S e p E (PostS.later (r := f env st) P e p)
  | brk env st => exact P
  | ret w st => exact P
  | exc k d env st => exact P
  | stuck => exact P
end

/-! ### the swapping rules' conditions -/
def notLc : Expr → Bool | .ListComp .. => false | .SetComp .. => false | .DictComp .. => false | _ => true
theorem swaps_no {e : Expr} {o : Option Expr} {n : Nat} {env : PySem.Env} (h : notLc e = true) : swapsWith e o n env = pure false := by
  cases e <;> first | rfl | cases h
theorem swaps_sub {e a b : Expr} {p : Pos} {n : Nat} {env : PySem.Env} : swapsWithSole [.Subscript a b p] e n env = pure false := by
  cases e <;> rfl
theorem stores_name {e : Expr} {x : Str} {p : Pos} {env : PySem.Env} : swappedStores [.Name x p] e env = pure none := by
  cases e <;> rfl
theorem stores_sub {e a b : Expr} {p : Pos} {env : PySem.Env} : swappedStores [.Subscript a b p] e env = pure none := by
  cases e <;> rfl
theorem stores_tup {e : Expr} {ts : List Expr} {k : Nat} {p : Pos} {env : PySem.Env} (h : isTup e = none) : swappedStores [.Tuple ts k p] e env = pure none := by
  cases e <;> first | rfl | cases h
theorem swaps_tup {e : Expr} {ts : List Expr} {k : Nat} {p : Pos} {n : Nat} {env : PySem.Env} : swapsWithSole [.Tuple ts k p] e n env = pure false := by
  cases e <;> rfl
theorem assign_sub {a b : Expr} {pos : Pos} {env : PySem.Env} (h : notSlice b = true) : ∀ v, assign (.Subscript a b pos) env v = (do
      let ov ← holding [v] (eval a env)
      let iv ← holding [v, ov] (eval b env)
      standAt pos
      holding [v, ov, iv] (setItem ov iv v)
      release [v, ov, iv] []) := by
  intro v
  cases b <;> first | rfl | cases h
/-- a name that is stored -/
def StO (X : L2.Cx) (x : Str) : Prop := Loc X.env.scope x ∧ (X.fn x = true ∨ X.env.scope.names.lookup x = some .local)
section
variable {X : L2.Cx} {cls : Nat → Option (Addr × Str)} {xa : Option (Addr × Option Addr × Addr)} {c : Pf.Cx} {wx : WX}
theorem s_pas {pos : Pos} : PS X (.Pass pos) (tS (gX X cls) xa c wx .pas) :=
  ⟨fun pins s σ H D I q => ps_pass.run pins s σ H D I (by
    obtain ⟨env, st, Hb, Fr, m, S, E, P⟩ := q
    rw [exS] at P
    exact P.now S E)⟩
theorem s_doc {x : Str} {j : Nat} {p pos : Pos} : PS X (.Expr (.Constant (.str x) j p) pos) (tS (gX X cls) xa c wx .pas) :=
  ⟨fun pins s σ H D I q => ps_doc.run pins s σ H D I (by
    obtain ⟨env, st, Hb, Fr, m, S, E, P⟩ := q
    rw [exS] at P
    exact P.now S E)⟩
theorem s_brk {pos : Pos} : PS X (.Break pos) (tS (gX X cls) xa c wx .brk) :=
  ⟨fun pins s σ H D I q => ps_break.run pins s σ H D I (by
    obtain ⟨env, st, Hb, Fr, m, S, E, P⟩ := q
    rw [exS] at P
    exact P H Hb m σ S (fun _ _ e => e) (Pre.refl m) E)⟩
theorem s_cnt {pos : Pos} : PS X (.Continue pos) (tS (gX X cls) xa c wx .cnt) :=
  ⟨fun pins s σ H D I q => ps_continue.run pins s σ H D I (by
    obtain ⟨env, st, Hb, Fr, m, S, E, P⟩ := q
    rw [exS] at P
    exact P H Hb m σ S (fun _ _ e => e) (Pre.refl m) E)⟩
theorem s_retN {pos : Pos} : PS X (.Return none pos) (tS (gX X cls) xa c wx .retN) :=
  ⟨fun pins s σ H D I q => ps_retN.run pins s σ H D I (by
    obtain ⟨env, st, Hb, Fr, m, S, E, P⟩ := q
    rw [exS] at P
    exact P H Hb m S (fun _ _ e => e) (Pre.refl m) _ RD.non)⟩
theorem s_ret {e : Pf.E} {x : Expr} {pos : Pos} (h : PE X x (tE (gX X cls) xa c wx e)) : PS X (.Return (some x) pos) (tS (gX X cls) xa c wx (.ret e)) :=
  ⟨fun pins s σ H D I q => (ps_ret h).run pins s σ H D I (by
    obtain ⟨env, st, Hb, Fr, m, S, E, P⟩ := q
    rw [exS] at P
    exact ⟨env, st, Hb, Fr, m, S, E, (P.expr E).imp fun w st1 H1 Hb1 m1 S1 e1 p1 P1 v rv => P1 H1 Hb1 m1 S1 (fun _ _ e => e) (Pre.refl m1) v rv⟩)⟩
theorem s_ex {e : Pf.E} {x : Expr} {pos : Pos} (hn : notLc x = true) (h : PE X x (tE (gX X cls) xa c wx e)) : PS X (.Expr x pos) (tS (gX X cls) xa c wx (.ex e)) :=
  ⟨fun pins s σ H D I q => (ps_expr h (swaps_no hn)).run pins s σ H D I (by
    obtain ⟨env, st, Hb, Fr, m, S, E, P⟩ := q
    rw [exS] at P
    exact ⟨env, st, Hb, Fr, m, S, E, (P.expr E).imp fun w st1 H1 Hb1 m1 S1 e1 p1 P1 v rv => PostS.now P1 S1 (E.mono e1 p1)⟩)⟩
/-- what an assignment to a name asks of its value -/
theorem asg_imp {i : Nat} {e : Pf.E} {D : Ends} {σ : L2.St} {H : Hp} (q : tS (gX X cls) xa c wx (.asg i e) D σ H) : tE (gX X cls) xa c wx e σ H fun x H1 => gName i x σ H1 D.nx := by
  obtain ⟨env, st, Hb, Fr, m, S, E, P⟩ := q
  rw [exS] at P
  exact ⟨env, st, Hb, Fr, m, S, E, (P.expr E).imp fun w st1 H1 Hb1 m1 S1 e1 p1 P1 v rv => PostS.now P1 S1 ((E.mono e1 p1).set rv)⟩
theorem s_asg {i : Nat} {e : Pf.E} {x : Expr} {n : Str} {p pos : Pos} (hN : X.N.Nodup) (hi : X.N[i]? = some n) (hl : StO X n) (hs : swapsWith x (some (.Name n p)) pos.line X.env = pure false) (h : PE X x (tE (gX X cls) xa c wx e)) :
    PS X (.Assign [.Name n p] x pos) (tS (gX X cls) xa c wx (.asg i e)) :=
  ⟨fun pins s σ H D I q => (ps_set hN hi hl.1 h hs hl.2).run pins s σ H D I (asg_imp q)⟩
/-- the names of a row of targets -/
inductive NamesR (X : L2.Cx) : List Nat → List Expr → Prop
  | nil : NamesR X [] []
  | cons {i : Nat} {t : Expr} {is : List Nat} {ts : List Expr} : (∃ x p, t = .Name x p ∧ X.N[i]? = some x ∧ StO X x) → NamesR X is ts → NamesR X (i :: is) (t :: ts)
theorem g_names {tg : List Nat} {ts : List Expr} : NamesR X tg ts → X.N.Nodup → PGs X ts (gNames tg)
  | .nil, _ => pgs_nil
  | .cons h t, hN => by
    obtain ⟨x, p, rfl, h1, h2⟩ := h
    exact pgs_cons (pg_name hN h1 h2.1 h2.2) (g_names t hN)
theorem each_len {env : PySem.Env} : ∀ {ts : List Expr}, ts.all notStar = true → (assignEach ts env).length = ts.length ∧ (assignEach ts env).findIdx? (·.1) = none
  | [], _ => ⟨rfl, rfl⟩
  | t :: ts, h => by
    obtain ⟨h1, h2⟩ := and2 (show (notStar t && ts.all notStar) = true from h)
    obtain ⟨a, b⟩ := each_len (env := env) h2
    have e : assignEach (t :: ts) env = (false, assign t env) :: assignEach ts env := by cases t <;> first | rfl | cases h1
    rw [e]
    refine ⟨by rw [List.length_cons, List.length_cons, a], ?_⟩
    rw [List.findIdx?_cons]
    show (if false = true then some 0 else ((assignEach ts env).findIdx? (·.1)).map (· + 1)) = none
    rw [b]
    rfl
theorem names_star {tg : List Nat} {ts : List Expr} (h : NamesR X tg ts) : ts.all notStar = true ∧ tg.length = ts.length := by
  induction h with
  | nil => exact ⟨rfl, rfl⟩
  | cons h t ih =>
    obtain ⟨x, p, rfl, _⟩ := h
    refine ⟨?_, by rw [List.length_cons, List.length_cons, ih.2]⟩
    rw [List.all_cons, ih.1]
    rfl
theorem g_tup {tg : List Nat} {ts : List Expr} {k : Nat} {pos : Pos} (hc : X.calm = true) (hN : X.N.Nodup) (h : NamesR X tg ts) : PG X (.Tuple ts k pos) (gTup X.K tg.length (gNames tg)) := by
  obtain ⟨h1, h2⟩ := names_star h
  obtain ⟨h3, h4⟩ := each_len (env := X.env) h1
  exact pg_tup hc (g_names h hN) (by rw [h3, h2]) h4
theorem s_unp {tg : List Nat} {e : Pf.E} {x : Expr} {ts : List Expr} {k : Nat} {p pos : Pos} (hc : X.calm = true) (hN : X.N.Nodup) (hg : NamesR X tg ts)
    (ht : isTup x = none) (h : PE X x (tE (gX X cls) xa c wx e)) : PS X (.Assign [.Tuple ts k p] x pos) (tS (gX X cls) xa c wx (.unp tg e)) :=
  ⟨fun pins s σ H D I q => (ps_asg h (g_tup hc hN hg) swaps_tup (stores_tup ht)).run pins s σ H D I (by
    obtain ⟨env, st, Hb, Fr, m, S, E, P⟩ := q
    rw [exS] at P
    refine ⟨env, st, Hb, Fr, m, S, E, (P.expr E).imp fun w st1 H1 Hb1 m1 S1 e1 p1 P1 v rv => ?_⟩
    cases hi : items st1 w with
    | none =>
      rw [hi] at P1
      exact P1.elim
    | some tw =>
      obtain ⟨t, ws⟩ := tw
      cases t with
      | false =>
        rw [hi] at P1
        exact P1.elim
      | true =>
        rw [hi] at P1
        have P1 : PostS (gX X cls) xa wx D Fr Hb1 m1 (envS (bindTg tg ws env) st1) := P1
        cases hb : bindTg tg ws env with
        | none =>
          rw [hb] at P1
          exact P1.elim
        | some env2 =>
          rw [hb] at P1
          obtain ⟨a, vs, rfl, hs, rs, hz⟩ := items_ok S1 rv hi
          have hs : SqT X.K H1 a vs := hs.elim (fun z => z.2) fun z => nomatch z.1
          refine ⟨a, vs, rfl, hs, by rw [← rs.length, bind_len hb], ?_⟩
          exact names_ok (E.mono e1 p1) rs hb fun σ' E' _ => PostS.now P1 S1 E')⟩
/-- a, b, .. = x, y, ..: not swapped -/
theorem s_parT {tg : List Nat} {es : Es} {xs : List Expr} {ts : List Expr} {k k2 : Nat} {p p2 pos : Pos} (hc : X.calm = true) (hN : X.N.Nodup) (hg : NamesR X tg ts) (hl : esLen es ≤ LIM)
    (hw : swappedStores [.Tuple ts k p] (.Tuple xs k2 p2) X.env = pure none) (h : PA X xs (tEs (gX X cls) xa c wx es)) : PS X (.Assign [.Tuple ts k p] (.Tuple xs k2 p2) pos) (tS (gX X cls) xa c wx (.par tg es)) :=
  ⟨fun pins s σ H D I q => (ps_asg (pe_tup h) (g_tup hc hN hg) swaps_tup hw).run pins s σ H D I (by
    obtain ⟨env, st, Hb, Fr, m, S, E, P⟩ := q
    rw [exS] at P
    refine ⟨env, st, Hb, Fr, m, S, E, P.exprE E fun ws st1 H1 Hb1 m1 eq S1 e1 p1 P1 vs rvs => ?_⟩
    have hz : ws.length ≤ sizeLine := by
      rw [evEs_len eq]
      exact Nat.le_of_lt (lim_lt hl)
    refine ⟨by rw [← rvs.length]; exact hz, fun q hq => ?_⟩
    cases hb : bindTg tg ws env with
    | none =>
      rw [hb] at P1
      exact P1.elim
    | some env2 =>
      rw [hb] at P1
      have P1 : PostS (gX X cls) xa wx D Fr Hb1 m1 (.nx env2 st1) := P1
      have e2 := Same.new (o := .tup vs) (S1.fresh hq)
      refine ⟨q, vs, rfl, SqT.of upd_same, by rw [← rvs.length, bind_len hb], ?_⟩
      exact names_ok ((E.mono e1 p1).mono e2 (Pre.refl m1)) (rvs.mono e2 (Pre.refl m1)) hb fun σ' E' _ => P1 _ _ _ _ (S1.newD hq) e2 (Pre.refl m1) E')⟩
/-- swapped: two names, three names -/
theorem s_par2 {i j : Nat} {es : Es} {a b : Expr} {x y : Str} {k k2 : Nat} {px py p p2 pos : Pos} (hc : X.calm = true) (hN : X.N.Nodup) (hi : X.N[i]? = some x) (hj : X.N[j]? = some y) (hij : i ≠ j) (hx : X.env.scope.names.lookup x = some .local) (hy : X.env.scope.names.lookup y = some .local)
    (hw : swappedStores [.Tuple [.Name x px, .Name y py] k p] (.Tuple [a, b] k2 p2) X.env = pure (some [x, y])) (h : PA X [a, b] (tEs (gX X cls) xa c wx es)) : PS X (.Assign [.Tuple [.Name x px, .Name y py] k p] (.Tuple [a, b] k2 p2) pos) (tS (gX X cls) xa c wx (.par [i, j] es)) :=
  ⟨fun pins s σ H D I q => (ps_par hc hN hi hj hij hx hy h hw swaps_tup).run pins s σ H D I (by
    obtain ⟨env, st, Hb, Fr, m, S, E, P⟩ := q
    rw [exS] at P
    refine ⟨env, st, Hb, Fr, m, S, E, (P.expr E).imp fun ws st1 H1 Hb1 m1 S1 e1 p1 P1 vs rvs => ?_⟩
    cases hb : bindTg [i, j] ws env with
    | none =>
      rw [hb] at P1
      exact P1.elim
    | some env2 =>
      rw [hb] at P1
      have P1 : PostS (gX X cls) xa wx D Fr Hb1 m1 (.nx env2 st1) := P1
      match ws, hb, rvs with
      | [w1, w2], hb, .cons r1 (.cons r2 .nil) =>
        cases hb
        exact ⟨_, _, rfl, P1.now S1 (((E.mono e1 p1).set r1).set r2)⟩)⟩
theorem s_par3 {i j l : Nat} {es : Es} {a b d : Expr} {x y z : Str} {k k2 : Nat} {px py pz p p2 pos : Pos} (hc : X.calm = true) (hN : X.N.Nodup) (hi : X.N[i]? = some x) (hj : X.N[j]? = some y) (hl : X.N[l]? = some z) (hij : i ≠ j) (hil : i ≠ l) (hjl : j ≠ l)
    (hx : X.env.scope.names.lookup x = some .local) (hy : X.env.scope.names.lookup y = some .local) (hz : X.env.scope.names.lookup z = some .local)
    (hw : swappedStores [.Tuple [.Name x px, .Name y py, .Name z pz] k p] (.Tuple [a, b, d] k2 p2) X.env = pure (some [x, y, z])) (h : PA X [a, b, d] (tEs (gX X cls) xa c wx es)) :
    PS X (.Assign [.Tuple [.Name x px, .Name y py, .Name z pz] k p] (.Tuple [a, b, d] k2 p2) pos) (tS (gX X cls) xa c wx (.par [i, j, l] es)) :=
  ⟨fun pins s σ H D I q => (ps_par3 hc hN hi hj hl hij hil hjl hx hy hz h hw swaps_tup).run pins s σ H D I (by
    obtain ⟨env, st, Hb, Fr, m, S, E, P⟩ := q
    rw [exS] at P
    refine ⟨env, st, Hb, Fr, m, S, E, (P.expr E).imp fun ws st1 H1 Hb1 m1 S1 e1 p1 P1 vs rvs => ?_⟩
    cases hb : bindTg [i, j, l] ws env with
    | none =>
      rw [hb] at P1
      exact P1.elim
    | some env2 =>
      rw [hb] at P1
      have P1 : PostS (gX X cls) xa wx D Fr Hb1 m1 (.nx env2 st1) := P1
      match ws, hb, rvs with
      | [w1, w2, w3], hb, .cons r1 (.cons r2 (.cons r3 .nil)) =>
        cases hb
        exact ⟨_, _, _, rfl, P1.now S1 ((((E.mono e1 p1).set r1).set r2).set r3)⟩)⟩
theorem s_seti {a b e : Pf.E} {x y z : Expr} {p pos : Pos} (hn : notSlice y = true) (ha : PE X x (tE (gX X cls) xa c wx a)) (hb : PE X y (tE (gX X cls) xa c wx b)) (he : PE X z (tE (gX X cls) xa c wx e)) :
    PS X (.Assign [.Subscript x y p] z pos) (tS (gX X cls) xa c wx (.seti a b e)) :=
  ⟨fun pins s σ H D I q => (ps_asg he (pg_sub ha hb set_list (assign_sub hn)) swaps_sub stores_sub).run pins s σ H D I (by
    obtain ⟨env, st, Hb, Fr, m, S, E, P⟩ := q
    rw [exS] at P
    refine ⟨env, st, Hb, Fr, m, S, E, P.exprE E fun w st1 H1 Hb1 m1 _ S1 e1 p1 P1 v rv => ?_⟩
    have E1 := E.mono e1 p1
    refine ⟨env, st1, Hb1, Fr, m1, S1, E1, P1.exprE E1 fun o st2 H2 Hb2 m2 _ S2 e2 p2 P2 ov ro => ?_⟩
    have E2 := E1.mono e2 p2
    refine ⟨env, st2, Hb2, Fr, m2, S2, E2, P2.exprE E2 fun u st3 H3 Hb3 m3 _ S3 e3 p3 P3 iv ri => ?_⟩
    cases hi : intOf u with
    | none =>
      rw [hi] at P3
      exact P3.elim
    | some i =>
      rw [hi] at P3
      have P3 : PostS (gX X cls) xa wx D Fr Hb3 m3 (storeS env (setIt st3 o i w)) := P3
      cases o with
      | v d => exact P3.elim
      | x k d => exact P3.elim
      | r n =>
        obtain ⟨q, hq, rfl⟩ := ro
        have hq := p3 _ _ hq
        have P3 : PostS (gX X cls) xa wx D Fr Hb3 m3 (storeS env (setC st3 n i w st3[n]?)) := P3
        cases hc : st3[n]? with
        | none =>
          rw [hc] at P3
          exact P3.elim
        | some cc =>
          rw [hc] at P3
          cases cc with
          | frz d => exact P3.elim
          | live ws =>
            obtain ⟨vs, h1, h2, h3⟩ := live_of S3 hq hc
            have P3 : PostS (gX X cls) xa wx D Fr Hb3 m3 (storeS env (match L2.ixN ws.length i with | some j => some (st3.set n (.live (ws.set j w))) | none => none)) := P3
            cases hj : L2.ixN ws.length i with
            | none =>
              rw [hj] at P3
              exact P3.elim
            | some j =>
              rw [hj] at P3
              have P3 : PostS (gX X cls) xa wx D Fr Hb3 m3 (.nx env (st3.set n (.live (ws.set j w)))) := P3
              refine ⟨q, vs, i, j, rfl, int_of ri hi, h1, by rw [← h2.length]; exact hj, ?_⟩
              have rv3 := (rv.mono e2 p2).mono e3 p3
              exact P3 _ _ _ _ (S3.write hc hq (RWs.set rv3 j h2) (by rw [List.length_set]; exact h3)) (fun _ _ e => e) (Pre.refl m3) (E2.mono e3 p3))⟩
theorem s_aug {i : Nat} {op : Bop} {e : Pf.E} {x : Expr} {n : Str} {p pos : Pos} (ho : op = .add ∨ op = .sub) (hN : X.N.Nodup) (hi : X.N[i]? = some n) (hl : StO X n) (h : PE X x (tE (gX X cls) xa c wx e)) :
    PS X (.AugAssign (.Name n p) (opOf op) x pos) (tS (gX X cls) xa c wx (.aug i op e)) := by
  have go : ∀ {f : Int → Int → Int} {D : Ends} {σ : L2.St} {H : Hp}, (∀ a b : Option Int, augI op a b = match a, b with | some a, some b => some (f a b) | _, _ => none) → tS (gX X cls) xa c wx (.aug i op e) D σ H → tAug i (tE (gX X cls) xa c wx e) (ipI f) D σ H := fun {f D σ H} hf q => by
    obtain ⟨env, st, Hb, Fr, m, S, E, P⟩ := q
    rw [exS] at P
    cases hv : varO env[i]? with
    | none =>
      rw [hv] at P
      exact P.elim
    | some w =>
      rw [hv] at P
      obtain ⟨hw, hx⟩ := varO_ok hv
      obtain ⟨v, h1, h2⟩ := E.val i w hw
      have h2 := h2.plain hx
      have P : PostS (gX X cls) xa wx D Fr Hb m (bindG (evE c e env st) env fun y st1 => envS ((augI op (intOf w) (intOf y)).map fun z => env.set i (some (.v (.int z)))) st1) := P
      refine ⟨v, h1, env, st, Hb, Fr, m, S, E, (P.expr E).imp fun u st1 H1 Hb1 m1 S1 e1 p1 P1 z rz => ?_⟩
      rw [hf] at P1
      cases ha : intOf w with
      | none =>
        rw [ha] at P1
        exact P1.elim
      | some a =>
        cases hb : intOf u with
        | none =>
          rw [ha, hb] at P1
          exact P1.elim
        | some b =>
          rw [ha, hb] at P1
          exact ⟨a, b, int_of h2 ha, int_of rz hb, PostS.now P1 S1 ((E.mono e1 p1).set (w := .v (.int (f a b))) (RD.int _))⟩
  rcases ho with rfl | rfl
  · exact ⟨fun pins s σ H D I q => (ps_aug hN hi hl.1 h ip_add hl.2).run pins s σ H D I (go (fun a b => by cases a <;> cases b <;> rfl) q)⟩
  · exact ⟨fun pins s σ H D I q => (ps_aug hN hi hl.1 h ip_sub hl.2).run pins s σ H D I (go (fun a b => by cases a <;> cases b <;> rfl) q)⟩
theorem ss_nil : PSs X [] (tSs (gX X cls) xa c wx .nil) :=
  ⟨fun pins s σ H D I q => pss_nil.run pins s σ H D I (by
    obtain ⟨env, st, Hb, Fr, m, S, E, P⟩ := q
    rw [exSs] at P
    exact P.now S E)⟩
theorem ss_cons {s : S} {ss : Ss} {x : Stmt} {xs : List Stmt} (h1 : PS X x (tS (gX X cls) xa c wx s)) (h2 : PSs X xs (tSs (gX X cls) xa c wx ss)) : PSs X (x :: xs) (tSs (gX X cls) xa c wx (.cons s ss)) :=
  ⟨fun pins t σ H D I q => (pss_cons h1 h2).run pins t σ H D I (by
    obtain ⟨env, st, Hb, Fr, m, S, E, P⟩ := q
    rw [exSs] at P
    exact ⟨env, st, Hb, Fr, m, S, E, P.seq _ fun env1 st1 H1 Hb1 m1 σ1 S1 E1 P1 => ⟨env1, st1, Hb1, Fr, m1, S1, E1, P1⟩⟩)⟩
theorem s_ite {t : T} {a b : Ss} {x : Expr} {ys zs : List Stmt} {pos : Pos} (h : PT X x (tT (gX X cls) xa c wx t)) (h1 : PSs X ys (tSs (gX X cls) xa c wx a)) (h2 : PSs X zs (tSs (gX X cls) xa c wx b)) : PS X (.If x ys zs pos) (tS (gX X cls) xa c wx (.ite t a b)) :=
  ⟨fun pins s σ H D I q => (ps_if h h1 h2).run pins s σ H D I (by
    obtain ⟨env, st, Hb, Fr, m, S, E, P⟩ := q
    rw [exS] at P
    refine ⟨env, st, Hb, Fr, m, S, E, (P.expr E).imp fun k st1 H1 Hb1 m1 S1 e1 p1 P1 => ?_⟩
    cases k with
    | true =>
      rw [if_pos rfl]
      exact ⟨env, st1, Hb1, Fr, m1, S1, E.mono e1 p1, P1⟩
    | false =>
      rw [if_neg Bool.false_ne_true]
      exact ⟨env, st1, Hb1, Fr, m1, S1, E.mono e1 p1, P1⟩)⟩
end

/-! ### loops -/
def foRest (w : Pf.It) (tg : List Nat) (b : Pf.Env → Store → Rs) (i n : Nat) (env : Pf.Env) (st : Store) : Rs :=
  match w with
  | .fix wss => foFix tg b (wss.drop i) env st
  | .liv en k => foLiv en tg b k n i env st
def foFits (w : Pf.It) (i n : Nat) : Prop :=
  match w with
  | .fix wss => n + i = wss.length
  | .liv _ _ => True
theorem turnB_ok {o : Option Pf.Env} {f : Pf.Env → Rs} (h : turnB o f ≠ .stuck) : ∃ env, o = some env ∧ turnB o f = f env := by
  cases o with
  | none => exact absurd rfl h
  | some env => exact ⟨env, rfl, rfl⟩
theorem foRest_step {w : Pf.It} {tg : List Nat} {b : Pf.Env → Store → Rs} {i n : Nat} {env : Pf.Env} {st : Store} (fits : foFits w i n) (hne : foRest w tg b i n env st ≠ .stuck) :
    (nxt w tg st i = some none ∧ foRest w tg b i n env st = .nx env st) ∨
    ∃ ws env2 n', nxt w tg st i = some (some ws) ∧ bindTg tg ws env = some env2 ∧ n' < n ∧ foFits w (i + 1) n' ∧ foRest w tg b i n env st = foOne (b env2 st) (fun env st => foRest w tg b (i + 1) n' env st) := by
  cases w with
  | fix wss =>
    have fits : n + i = wss.length := fits
    have hr : ∀ i n env st, foRest (.fix wss) tg b i n env st = foFix tg b (wss.drop i) env st := fun _ _ _ _ => rfl
    simp only [hr] at hne ⊢
    by_cases hi : i < wss.length
    · have hd : wss.drop i = wss[i] :: wss.drop (i + 1) := List.drop_eq_getElem_cons hi
      rw [hd, foFix] at hne
      rw [hd, foFix]
      obtain ⟨env2, hb, ht⟩ := turnB_ok hne
      rw [ht] at hne ⊢
      refine .inr ⟨wss[i], env2, n - 1, by show some wss[i]? = _; rw [List.getElem?_eq_getElem hi], hb, by omega, ?_, rfl⟩
      show n - 1 + (i + 1) = wss.length
      omega
    · have hd : wss.drop i = [] := List.drop_eq_nil_of_le (by omega)
      refine .inl ⟨by show some wss[i]? = some none; rw [List.getElem?_eq_none (by omega)], ?_⟩
      rw [hd]
      rfl
  | liv en k =>
    have hr : ∀ i n env st, foRest (.liv en k) tg b i n env st = foLiv en tg b k n i env st := fun _ _ _ _ => rfl
    simp only [hr] at hne ⊢
    cases n with
    | zero => exact absurd rfl hne
    | succ n =>
      have hl : ∀ o, lookL en st tg k i = o → nxt (.liv en k) tg st i = o := fun o h => h
      rw [foLiv] at hne ⊢
      cases hlk : lookL en st tg k i with
      | none =>
        rw [hlk] at hne
        exact absurd rfl hne
      | some o =>
        rw [hlk] at hne
        cases o with
        | none => exact .inl ⟨hl _ hlk, rfl⟩
        | some ws =>
          have u : ∀ f : List W → Rs, lookS (some (some ws)) (.nx env st) .stuck f = f ws := fun _ => rfl
          rw [u] at hne ⊢
          obtain ⟨env2, hb, ht⟩ := turnB_ok hne
          rw [ht]
          exact .inr ⟨ws, env2, n, hl _ hlk, hb, Nat.lt_succ_self n, trivial, rfl⟩
section
variable {X : L2.Cx} {cls : Nat → Option (Addr × Str)} {xa : Option (Addr × Option Addr × Addr)} {c : Pf.Cx} {wx : WX}
theorem s_fo {tg : List Nat} {it : I} {b : Ss} {tgE iter : Expr} {body : List Stmt} {pos : Pos} (hp : PassesOwn (model X.prog X.w) X.A X.env X.xe) (hc : X.calm = true) (hi : PI X tgE iter (tI (gX X cls) xa c wx tg it)) (hg : PG X tgE (gTg X.K tg)) (hb : PSs X body (tSs (gX X cls) xa c wx b)) (hs : notSet iter = true) :
    PS X (.For tgE iter body [] pos) (tS (gX X cls) xa c wx (.fo tg it b)) :=
  ⟨fun pins s σ H D I q => (ps_for hp hc hi hg hb (set_folded hs)).run pins s σ H D I (by
    obtain ⟨env, st, Hb, Fr, m, S, E, P⟩ := q
    rw [exS] at P
    refine ⟨env, st, Hb, Fr, m, S, E, P.exprE E fun w st1 H1 Hb1 m1 _ S1 e1 p1 P1 J hJ => ?_⟩
    refine ⟨fun i n σ H => ∃ env st Hb m, Sim (gX X cls) st H Hb Fr m ∧ Same Hb1 Hb ∧ Pre m1 m ∧ RE (gX X cls) xa Hb m env σ ∧ foFits w i n ∧ PostS (gX X cls) xa wx D Fr Hb m (foRest w tg (fun env st => exSs c b env st) i n env st), ?_, ?_⟩
    · cases w with
      | fix wss => exact ⟨wss.length, env, st1, Hb1, m1, S1, fun _ _ e => e, Pre.refl m1, E.mono e1 p1, rfl, P1⟩
      | liv en k => exact ⟨c.turns, env, st1, Hb1, m1, S1, fun _ _ e => e, Pre.refl m1, E.mono e1 p1, trivial, P1⟩
    · rintro i n σ2 H2 ⟨env2, st2, Hb2, m2, S2, e2, p2, E2, fits, P2⟩
      rcases foRest_step fits P2.ne with ⟨hn, hr⟩ | ⟨ws, env3, n', hn, hbt, hlt, fits', hr⟩
      · rw [hr] at P2
        exact .inl ⟨hJ.stop _ _ _ _ _ S2 e2 p2 i hn, P2.now S2 E2⟩
      · obtain ⟨hgo, hy⟩ := hJ.go _ _ _ _ _ S2 e2 p2 i ws hn
        rw [hr] at P2
        refine .inr ⟨hgo, fun σ H => ∃ env st Hb m, Sim (gX X cls) st H Hb Fr m ∧ Same Hb1 Hb ∧ Pre m1 m ∧ RE (gX X cls) xa Hb m env σ ∧ foFits w (i + 1) n' ∧ PostS (gX X cls) xa wx D Fr Hb m (foRest w tg (fun env st => exSs c b env st) (i + 1) n' env st), fun σ' H' h => ⟨n', hlt, h⟩, fun x H' y => ?_⟩
        refine tg_ok (hy x H' y) S2 E2 hbt fun σ3 Hb3 S3 e3 E3 _ => ?_
        exact ⟨env3, st2, Hb3, Fr, m2, S3, E3, (P2.later e3 (Pre.refl m2)).turn _ fun env4 st4 H4 Hb4 m4 σ4 S4 e4 p4 E4 P4 => ⟨env4, st4, Hb4, m4, S4, e2.trans (e3.trans e4), p2.trans p4, E4, fits', P4⟩⟩)⟩
theorem s_wh {t : T} {b : Ss} {x : Expr} {body : List Stmt} {pos : Pos} (hp : PassesOwn (model X.prog X.w) X.A X.env X.xe) (ht : PT X x (tT (gX X cls) xa c wx t)) (hb : PSs X body (tSs (gX X cls) xa c wx b)) : PS X (.While x body [] pos) (tS (gX X cls) xa c wx (.wh t b)) :=
  ⟨fun pins s σ H D I q => (ps_while hp ht hb).run pins s σ H D I (by
    obtain ⟨env, st, Hb, Fr, m, S, E, P⟩ := q
    rw [exS] at P
    refine ⟨fun n σ H => ∃ env st Hb m, Sim (gX X cls) st H Hb Fr m ∧ RE (gX X cls) xa Hb m env σ ∧ PostS (gX X cls) xa wx D Fr Hb m (whL (fun env st => evT c t env st) (fun env st => exSs c b env st) n env st), ⟨c.turns, env, st, Hb, m, S, E, P⟩, ?_⟩
    rintro n σ1 H1 ⟨env1, st1, Hb1, m1, S1, E1, P1⟩
    cases n with
    | zero => exact P1.elim
    | succ n =>
      rw [whL] at P1
      refine ⟨env1, st1, Hb1, Fr, m1, S1, E1, P1.exprE E1 fun k st2 H2 Hb2 m2 _ S2 e2 p2 P2 => ?_⟩
      cases k with
      | false =>
        rw [if_neg Bool.false_ne_true]
        exact PostS.now P2 S2 (E1.mono e2 p2)
      | true =>
        rw [if_pos rfl]
        refine ⟨fun σ H => ∃ env st Hb m, Sim (gX X cls) st H Hb Fr m ∧ RE (gX X cls) xa Hb m env σ ∧ PostS (gX X cls) xa wx D Fr Hb m (whL (fun env st => evT c t env st) (fun env st => exSs c b env st) n env st), fun σ' H' h => ⟨n, Nat.lt_succ_self n, h⟩, ?_⟩
        exact ⟨env1, st2, Hb2, Fr, m2, S2, E1.mono e2 p2, PostS.turn P2 _ fun env4 st4 H4 Hb4 m4 σ4 S4 e4 p4 E4 P4 => ⟨env4, st4, Hb4, m4, S4, E4, P4⟩⟩)⟩
end
end Pf
set_option Elab.async false
set_option linter.all false
set_option maxRecDepth 100000
set_option maxHeartbeats 1000000
/-! Pf, part L: exceptions: raise, several except clauses with and without names, e.at. -/
namespace Pf
open PySem PySem.Spec PyProof.Rows L2

/-! ### try with clauses that may name the exception -/
/-- the slot of a clause's name takes the exception -/
def putX (σ : L2.St) (i : Option Nat) (a : Addr) : L2.St :=
  match i with
  | some j => σ.set j (some (.ref a))
  | none => σ
def offX (σ : L2.St) (i : Option Nat) : L2.St :=
  match i with
  | some j => σ.set j none
  | none => σ
/-- the ends of a clause's suite: the name goes -/
def endX (D : Ends) (i : Option Nat) : Ends := { nx := fun σ H => D.nx (offX σ i) H, rt := D.rt, bk := fun σ H => D.bk (offX σ i) H, ct := fun σ H => D.ct (offX σ i) H }
abbrev Cl := Value × Option Nat × (Addr → Value → Option Addr → TS)
def wClauses (K : PySem.W.Frag) (Wout : WX) (D : Ends) : List Cl → WX
  | [] => Wout
  | q :: r => fun cls d σ H => ∃ b, PySem.W.exmOne K cls q.1 = some b ∧ (b = true → ∀ a, H a = none → q.2.2 a cls d (endX D q.2.1) (putX σ q.2.1 a) H) ∧ (b = false → wClauses K Wout D r cls d σ H)
def nameOk (X : L2.Cx) (n : Option Str) (i : Option Nat) : Prop :=
  match n, i with
  | none, none => True
  | some n, some i => X.N[i]? = some n ∧ X.env.kindOf n = some .local
  | _, _ => False
inductive ClsOk (X : L2.Cx) : List ExceptHandler → List Cl → Prop
  | nil : ClsOk X [] []
  | cons {x : Str} {n : Option Str} {q : Cl} {b0 : Stmt} {body : List Stmt} {np hp : Pos} {hds : List ExceptHandler} {l : List Cl} (hc : Names X x q.1) (hn : nameOk X n q.2.1)
      (run : ∀ (a : Addr) (o : Obj) (cls : Value) (d : Option Addr) (pn : List (Addr × Obj)), Zc cls d o → (∃ vs, o.data = .fields vs) → PSs (X.suite a ((a, o) :: pn)) (b0 :: body) (q.2.2 a cls d)) (r : ClsOk X hds l) :
      ClsOk X (.ExceptHandler (some (.Name x np)) n (b0 :: body) hp :: hds) (q :: l)
section
variable {X : L2.Cx} {body : List Stmt} {hd0 : ExceptHandler} {hds : List ExceptHandler} {l : List Cl} {pos : Pos} {tb : WX → TS} {Wout : WX}
theorem ps_clauses (hN : X.N.Nodup) (hs : X.stack = X.env :: X.outer) (hf : X.env.frame = some X.env.locals) (tk : Takes X Wout)
    (hb : ∀ (W : WX) (pn : List (Addr × Obj)) (xe : Value → Shared → Prop), Takes (X.tr pn xe) W → PassesOwn (model X.prog X.w) X.A X.env xe → PSs (X.tr pn xe) body (tb W)) (hh : ClsOk X (hd0 :: hds) l) :
    PS X (.Try body (hd0 :: hds) [] [] pos) (fun D σ H => tb (wClauses X.K Wout D l) D σ H) := by
  refine ⟨fun pins s σ H D I h => ?_⟩
  have ok := I.ok
  have hfr : X.A.frames = some (X.env :: X.outer) := by rw [ok.frames, hs]
  refine wpAny_Try_except (wpAny_mono ((hb (wClauses X.K Wout D l) (X.pn ++ pins) (fun e s₁ => wpAny (model X.prog X.w) X.A (noteFrame e X.env) (fun _ s₂ => wpAny (model X.prog X.w) X.A (setFlight e none) (fun _ s₃ =>
    wpAny (model X.prog X.w) X.A (handleBy e X.env (hd0 :: hds)) (SP X pins D) X.xe s₃) X.xe s₂) X.xe s₁) (fun u s' xx => ?_) PassesOwn.looking).run [] s σ H D (I.toTry _) h) (fun f s1 hsp => ?_) (fun e s1 he => he))
  · obtain ⟨a, B, sI, pins', σ', H', cls, d, rfl, J', nb, up, sky, na, os, ag, w⟩ := xx
    have J : Inv X pins σ' H' sI := J'.ofTry ok
    have sky' : Sky B (X.env :: X.outer) a (Zc cls d) X.env.locals s'.heap := by rw [← hs]; exact sky
    show wpAny (model X.prog X.w) X.A (noteFrame (.ref a) X.env) _ _ _
    refine Sky.land Zc.steady hfr hf sky' fun h3 fl3 up3 => ?_
    have J3 : Inv X pins σ' H' { s' with heap := h3 } := J.landed nb fl3.1 (up.trans up3) os ag
    obtain ⟨o3, vs3, he3, hz3, hd3⟩ := fl3.there
    have nfr : a ∉ frs (X.env :: X.outer) := fun hm => by
      obtain ⟨_, o', e', hnf⟩ := fl3.2.2.1.mem hm
      rw [he3] at e'
      cases e'
      exact hnf _ hd3
    have nL : a ≠ X.env.locals := fun z => nfr (List.mem_filterMap.mpr ⟨X.env, List.mem_cons_self, by rw [hf, z]⟩)
    have nF : a ∉ X.fs := fun hm => by
      obtain ⟨e, he, q⟩ := List.mem_filterMap.mp hm
      exact nfr (List.mem_filterMap.mpr ⟨e, List.mem_cons_of_mem _ he, q⟩)
    have S3 := J3.suite he3 hd3 na nL nF
    have go : ∀ {hs' : List ExceptHandler} {l' : List Cl}, ClsOk X hs' l' → wClauses X.K Wout D l' cls d σ' H' → wpAny (model X.prog X.w) X.A (handleBy (.ref a) X.env hs') (SP X pins D) X.xe { s' with heap := h3 } := by
      intro hs' l' hk
      induction hk with
      | nil =>
        intro w
        refine wpAny_handleBy_nil ?_
        obtain ⟨k1, k2, k3, oe, vs, T, oT, ts', he, hz, hd, h1, hr⟩ := id fl3
        unfold PySem.passOn
        refine wpAny_bind (wpAny_field he hd h1 ?_)
        rw [if_neg (show ¬ ((Value.ref T == Value.none) = true) from by simp)]
        have fin : wpAny (model X.prog X.w) X.A (setFlight (.ref a) X.env.frame) (fun _ s4 => wpAny (model X.prog X.w) X.A (throw (.ref a) : Sem Flow) (SP X pins D) X.xe s4) X.xe { s' with heap := h3 } := by
          rw [hf]
          refine HandSPX.setFlight_upZ fl3 fun h4 hh4 up4 => wpAny_throw (tk _ _ ?_)
          exact ⟨a, B, sI, pins, σ', H', cls, d, rfl, J, nb, (up.trans up3).trans up4, .inr (.inr (by rw [hs]; exact hh4)), na, os, ag, w⟩
        first
          | exact wpAny_bind (wpAny_pure (wpAny_bind fin))
          | exact wpAny_bind fin
      | @cons x n q b0 sb np hp hds2 l2 hc hn hsu r ih =>
        intro w
        obtain ⟨b, hb1, hyes, hno⟩ := w
        obtain ⟨c, i, ts⟩ := q
        refine wpAny_handleBy_cons (codeAny_handlers_test ?_) (by intro q; cases q)
        have LT : PySem.W.Looks (model X.prog X.w) h3 (typeOf (.ref a)) cls := fun A Q E s k q => wpAny_typeOf_ref (k _ _ he3) (by rw [hz3.1]; exact q)
        have LM := PySem.W.exm_one (M := model X.prog X.w) (J3.kIn) LT hb1
        have test : ∀ {Q : Value → Shared → Prop} {E : Value → Shared → Prop}, Q c { s' with heap := h3 } → wpAny (model X.prog X.w) (X.A.mark (some (.ref a))) (eval (.Name x np) X.env) Q E { s' with heap := h3 } := fun {Q E} q => by
          obtain ⟨hg, hdbg, hm | ⟨hm, hv, hnn⟩⟩ := hc
          · exact ld_glob (X := X.suite a ((a, o3) :: (X.pn ++ pins))) S3 hg hm q hdbg
          · exact ld_blt (X := X.suite a ((a, o3) :: (X.pn ++ pins))) S3 hg hm hv q hnn hdbg
        refine test (LM.here ?_)
        cases b with
        | false =>
          show wpAny _ X.A (handleBy (.ref a) X.env hds2) _ _ _
          exact ih (hno rfl)
        | true =>
          have hy := hyes rfl a na
          cases n with
          | none =>
            cases i with
            | some i => exact (show False from hn).elim
            | none =>
              refine codeAny_handlers_suite ?_
              refine HandSPX.lands_againZ fl3 fun h4 fl4 up4 => ?_
              have J4 : Inv X pins σ' H' { s' with heap := h4 } := J.landed nb fl4.1 ((up.trans up3).trans up4) os ag
              obtain ⟨o4, vs4, he4, hz4, hd4⟩ := fl4.there
              have S4 := J4.suite he4 hd4 na nL nF
              refine wpAny_mono ((hsu a o4 cls d (X.pn ++ pins) hz4 ⟨_, hd4⟩).run [] _ _ H' _ S4 hy) (fun f s6 hsp => ?_) (fun _ _ z => False.elim z)
              cases f with
              | next =>
                obtain ⟨σ6, H6, S6, q6⟩ := hsp
                exact ⟨_, _, S6.unsuite ok, q6⟩
              | brk =>
                obtain ⟨σ6, H6, S6, q6⟩ := hsp
                exact ⟨_, _, S6.unsuite ok, q6⟩
              | cont =>
                obtain ⟨σ6, H6, S6, q6⟩ := hsp
                exact ⟨_, _, S6.unsuite ok, q6⟩
              | ret u =>
                obtain ⟨v6, σ6, H6, S6, r6, q6⟩ := hsp
                exact ⟨_, _, _, S6.unsuite ok, r6, q6⟩
          | some n =>
            cases i with
            | none => exact (show False from hn).elim
            | some i =>
              obtain ⟨hi, hln⟩ := (show X.N[i]? = some n ∧ X.env.kindOf n = some .local from hn)
              refine codeAny_handlers_suite_as ?_
              refine HandSPX.lands_againZ fl3 fun h4 fl4 up4 => ?_
              have J4 : Inv X pins σ' H' { s' with heap := h4 } := J.landed nb fl4.1 ((up.trans up3).trans up4) os ag
              obtain ⟨o4, vs4, he4, hz4, hd4⟩ := fl4.there
              have S4 := J4.suite he4 hd4 na nL nF
              refine store_ok (X := X.suite a ((a, o4) :: (X.pn ++ pins))) (v := .ref a) S4 hN hi (.inl hln) rfl (fun s5 S5 => ?_) (.inr hln)
              refine wpAny_mono ((hsu a o4 cls d (X.pn ++ pins) hz4 ⟨_, hd4⟩).run [] s5 _ H' _ S5 hy) (fun f s6 hsp => ?_) (fun _ _ z => False.elim z)
              have end_ : ∀ {σ6 : L2.St} {H6 : Hp} {Q : Shared → Prop}, Inv (X.suite a ((a, o4) :: (X.pn ++ pins))) [] σ6 H6 s6 → (∀ s7, Inv X pins (σ6.set i none) H6 s7 → Q s7) →
                  wpAny (model X.prog X.w) X.A (do bindName X.env n .none; unbindBehindTheSuite X.env n hp) (fun _ s7 => Q s7) X.xe s6 := fun {σ6 H6 Q} S6 hq => gone_ok (S6.unsuite ok) hN hi hln hq
              cases f with
              | next =>
                obtain ⟨σ6, H6, S6, q6⟩ := hsp
                exact end_ S6 fun s7 J7 => ⟨_, _, J7, q6⟩
              | brk =>
                obtain ⟨σ6, H6, S6, q6⟩ := hsp
                exact end_ S6 fun s7 J7 => ⟨_, _, J7, q6⟩
              | cont =>
                obtain ⟨σ6, H6, S6, q6⟩ := hsp
                exact end_ S6 fun s7 J7 => ⟨_, _, J7, q6⟩
              | ret u =>
                obtain ⟨v6, σ6, H6, S6, r6, q6⟩ := hsp
                exact end_ S6 fun s7 J7 => ⟨_, _, _, J7, r6, q6⟩
    exact go hh w
  · cases f with
    | next =>
      obtain ⟨σ', H', J', q⟩ := hsp
      exact wpAny_execs_nil ⟨σ', H', J'.ofTry ok, q⟩
    | brk =>
      obtain ⟨σ', H', J', q⟩ := hsp
      exact ⟨σ', H', J'.ofTry ok, q⟩
    | cont =>
      obtain ⟨σ', H', J', q⟩ := hsp
      exact ⟨σ', H', J'.ofTry ok, q⟩
    | ret u =>
      obtain ⟨v, σ', H', J', r, q⟩ := hsp
      exact ⟨v, σ', H', J'.ofTry ok, r, q⟩
end

/-! ### the evaluator's clauses -/
def xaOf (a : Addr) (cls : Value) (d : Option Addr) : Option (Addr × Option Addr × Addr) :=
  match cls, d with
  | .ref C, d => some (a, d, C)
  | _, _ => none
/-- the clauses: ca: the classes, by number -/
def clsOf (g : Gx) (c : Pf.Cx) (ca : Nat → Option Addr) : Hs → List Cl
  | .nil => []
  | .cons h i b hs => (match ca h with | some C => .ref C | none => .none, i, fun a cls d => tSs g (xaOf a cls d) c (fun _ _ _ _ => False) b) :: clsOf g c ca hs
/-- what is known of the classes -/
structure CasOk (K : PySem.W.Frag) (g : Gx) (ca : Nat → Option Addr) : Prop where
  has : ∀ k C nm, g.cls k = some (C, nm) → ca k = some C
  mat : ∀ h k C Ch nm, g.cls k = some (C, nm) → ca h = some Ch → PySem.W.exmOne K (.ref C) (.ref Ch) = some (decide (h = 0 ∨ h = k))
def hsCas (ca : Nat → Option Addr) : Hs → Prop
  | .nil => True
  | .cons h _ _ hs => (∃ C, ca h = some C) ∧ hsCas ca hs
theorem RV.none_any {g : Gx} {xa : Option (Addr × Option Addr × Addr)} {H : Hp} {m : List Addr} : ∀ {w : W} {v : V}, RV g none H m w v → RV g xa H m w v
  | .v _, _, h => h
  | .r _, _, h => h
  | .x _ _, _, ⟨_, _, _, h, _⟩ => nomatch h
theorem plain_get : ∀ {env : Pf.Env} {i : Nat} {k : Nat} {d : D}, plainE env = true → env[i]? ≠ some (some (.x k d))
  | [], i, k, d, _, e => by simp at e
  | o :: env, 0, k, d, h, e => by
    have e : o = some (.x k d) := by simpa using e
    subst e
    cases h
  | o :: env, i + 1, k, d, h, e => by
    have e : env[i]? = some (some (.x k d)) := by simpa using e
    have h2 : plainE env = true := by
      unfold plainE at h
      split at h
      · rename_i z
        cases z
      · cases h
      · rename_i z
        cases z
        exact h
    exact plain_get h2 e
theorem RE.plain {g : Gx} {xa xb : Option (Addr × Option Addr × Addr)} {Hb : Hp} {m : List Addr} {env : Pf.Env} {σ : L2.St} (E : RE g xa Hb m env σ) (h : plainE env = true) : RE g xb Hb m env σ :=
  ⟨E.len, fun i w e => by
    obtain ⟨v, h1, h2⟩ := E.val i w e
    refine ⟨v, h1, ?_⟩
    cases w with
    | v d => exact h2
    | r n => exact h2
    | x k d => exact absurd e (plain_get h)⟩
theorem RE.none_any {g : Gx} {xa : Option (Addr × Option Addr × Addr)} {Hb : Hp} {m : List Addr} {env : Pf.Env} {σ : L2.St} (E : RE g none Hb m env σ) : RE g xa Hb m env σ :=
  ⟨E.len, fun i w e => let ⟨v, h1, h2⟩ := E.val i w e; ⟨v, h1, h2.none_any⟩⟩
theorem RE.off {g : Gx} {xa : Option (Addr × Option Addr × Addr)} {Hb : Hp} {m : List Addr} {env : Pf.Env} {σ : L2.St} (E : RE g xa Hb m env σ) (i : Option Nat) : RE g xa Hb m (goneE i env) (offX σ i) := by
  cases i with
  | none => exact E
  | some j => exact E.unset j
/-- behind a suite -/
theorem gone_post {g : Gx} {xa : Option (Addr × Option Addr × Addr)} {wx w0 : WX} {D : Ends} {Fr Hb : Hp} {m : List Addr} {i : Option Nat} {r : Rs} (P : PostS g none wx D Fr Hb m (gone i r)) : PostS g xa w0 (endX D i) Fr Hb m r := by
  have go : ∀ {env : Pf.Env} {r' : Rs}, PostS g none wx D Fr Hb m (goneS env r') → plainE env = true ∧ PostS g none wx D Fr Hb m r' := fun {env r'} P => by
    unfold goneS at P
    by_cases h : plainE env = true
    · rw [if_pos h] at P
      exact ⟨h, P⟩
    · rw [if_neg h] at P
      exact P.elim
  cases r with
  | nx env st =>
    obtain ⟨h, P⟩ := go P
    exact fun H' Hb' m' σ' S e p E => P H' Hb' m' (offX σ' i) S e p ((E.off i).plain h)
  | brk env st =>
    obtain ⟨h, P⟩ := go P
    exact fun H' Hb' m' σ' S e p E => P H' Hb' m' (offX σ' i) S e p ((E.off i).plain h)
  | cnt env st =>
    obtain ⟨h, P⟩ := go P
    exact fun H' Hb' m' σ' S e p E => P H' Hb' m' (offX σ' i) S e p ((E.off i).plain h)
  | ret w st => exact P
  | exc k d env st => exact P.elim
  | stuck => exact P.elim
theorem clauses_ok {K : PySem.W.Frag} {cls : Nat → Option (Addr × Str)} {c : Pf.Cx} {ca : Nat → Option Addr} {wx : WX} {D : Ends} (T : CasOk K ⟨K, cls⟩ ca) {Fr H Hb : Hp} {m : List Addr} {k : Nat} {d : Pf.D} {env : Pf.Env} {st : Store} {σ : L2.St} {C : Addr} {od : Option Addr}
    (S : Sim ⟨K, cls⟩ st H Hb Fr m) (E : RE ⟨K, cls⟩ none Hb m env σ) (hX : Xkp ⟨K, cls⟩ Hb k d C od) :
    ∀ {hs : Hs}, hsCas ca hs → PostS ⟨K, cls⟩ none wx D Fr Hb m (exHs c hs k d env st) → wClauses K wx D (clsOf ⟨K, cls⟩ c ca hs) (.ref C) od σ H
  | .nil, _, P => by
    rw [exHs] at P
    exact P H Hb m σ C od S (fun _ _ e => e) (Pre.refl m) E hX
  | .cons h i b hs, hq, P => by
    obtain ⟨⟨Ch, hCh⟩, hq⟩ := hq
    rw [exHs] at P
    obtain ⟨nm, hC⟩ := hX.cls
    have hm := T.mat h k C Ch nm hC hCh
    refine ⟨decide (h = 0 ∨ h = k), ?_, fun hd a ha => ?_, fun hd => ?_⟩
    · show PySem.W.exmOne K (.ref C) (match ca h with | some C => .ref C | none => .none) = _
      rw [hCh]
      exact hm
    · rw [if_pos (of_decide_eq_true hd)] at P
      refine ⟨named i k d env, st, Hb, Fr, m, S, ?_, gone_post P⟩
      cases i with
      | none => exact E.none_any
      | some j => exact (RE.none_any (xa := some (a, od, C)) E).setV ⟨a, od, C, rfl, rfl, hX⟩
    · rw [if_neg (of_decide_eq_false hd)] at P
      exact clauses_ok T S E hX hq P
section
variable {X : L2.Cx} {cls : Nat → Option (Addr × Str)} {c : Pf.Cx} {wx : WX}
theorem s_tr {b : Ss} {hs : Hs} {ca : Nat → Option Addr} {body : List Stmt} {hd0 : ExceptHandler} {hds : List ExceptHandler} {pos : Pos} (hN : X.N.Nodup) (hst : X.stack = X.env :: X.outer) (hf : X.env.frame = some X.env.locals) (tk : Takes X wx) (T : CasOk X.K (gX X cls) ca)
    (hb : ∀ (W : WX) (pn : List (Addr × Obj)) (xe : Value → Shared → Prop), Takes (X.tr pn xe) W → PassesOwn (model X.prog X.w) X.A X.env xe → PSs (X.tr pn xe) body (tSs (gX X cls) none c W b)) (hq : hsCas ca hs) (hh : ClsOk X (hd0 :: hds) (clsOf (gX X cls) c ca hs)) :
    PS X (.Try body (hd0 :: hds) [] [] pos) (tS (gX X cls) none c wx (.tr b hs)) :=
  ⟨fun pins s σ H D I q => (ps_clauses hN hst hf tk hb hh).run pins s σ H D I (by
    obtain ⟨env, st, Hb, Fr, m, S, E, P⟩ := q
    rw [exS] at P
    refine ⟨env, st, Hb, Fr, m, S, E, ?_⟩
    cases hr : exSs c b env st with
    | nx env1 st1 =>
      rw [hr] at P
      exact P
    | brk env1 st1 =>
      rw [hr] at P
      exact P
    | cnt env1 st1 =>
      rw [hr] at P
      exact P
    | ret w st1 =>
      rw [hr] at P
      exact P
    | stuck =>
      rw [hr] at P
      exact P
    | exc k d env1 st1 =>
      rw [hr] at P
      intro H1 Hb1 m1 σ1 C od S1 e1 p1 E1 hX
      exact clauses_ok T S1 E1 hX hq (PostS.later (r := exHs c hs k d env1 st1) P e1 p1))⟩
/-- what is known of an exception's class: how it is made -/
def ExMk (P : Program) (w : World) (K : PySem.W.Frag) (mg : Str → Option Value) (base : Heap) (C : Addr) (nm : Str) (hd : Bool) (x : Str) : Prop :=
  ∀ (X : L2.Cx), X.prog = P → X.w = w → X.K = K → X.mg = mg → X.base = base → X.calm = true → Room 4 X.A → ∀ {xs : List Expr} {ta : TA} {p pos : Pos}, PA X xs ta → (∀ σ H Q, xs = [] → ta σ H Q → Q [] H) → xs.all notStar = true → xs.length ≤ 1 → (hd = true ∨ xs ≠ []) → Gl X x →
    PMk X (.Call (.Name x p) xs [] pos) (fun σ H Q => ta σ H fun vs H1 => ∃ v, (vs = [] ∧ v = .int (-1) ∧ hd = true ∨ vs = [v]) ∧ ∀ dd, H1 dd = none → Q (.ref C) (some dd) (upd H1 dd (.xd [(nm, v)])))
theorem s_rais {xa : Option (Addr × Option Addr × Addr)} {k : Nat} {es : Es} {C : Addr} {nm x : Str} {xs : List Expr} {p p2 pos : Pos} (hC : cls k = some (C, nm)) (hc : X.calm = true) (hr : Room 4 X.A) (tk : Takes X wx) {hd : Bool} (M : ExMk X.prog X.w X.K X.mg X.base C nm hd x) (hg : Gl X x) (hl : xs.length ≤ 1) (hdd : hd = true ∨ xs ≠ [])
    (ha : PA X xs (tEs (gX X cls) xa c wx es)) (hn : xs.all notStar = true) (he : esLen es = xs.length) : PS X (.Raise (some (.Call (.Name x p) xs [] p2)) none pos) (tS (gX X cls) xa c wx (.rais k es)) :=
  ⟨fun pins s σ H D I q => (ps_raise hc tk (M X rfl rfl rfl rfl rfl hc hr ha (fun σ H Q z h => by
      rw [z] at he
      rw [es_nil he] at h
      exact tEs_nil h) hn hl hdd hg)).run pins s σ H D I (by
    obtain ⟨env, st, Hb, Fr, m, S, E, P⟩ := q
    rw [exS] at P
    refine ⟨env, st, Hb, Fr, m, S, E, P.exprE E fun ws st1 H1 Hb1 m1 eqw S1 e1 p1 P1 vs rvs => ?_⟩
    cases hk : keptOf ws with
    | none =>
      rw [hk] at P1
      exact P1.elim
    | some d =>
      rw [hk] at P1
      have P1 : PostS (gX X cls) xa wx D Fr Hb1 m1 (.exc k d env st1) := P1
      have got : ∃ v, (vs = [] ∧ v = .int (-1) ∧ hd = true ∨ vs = [v]) ∧ RD X.K Hb1 d v := by
        have hl0 := evEs_len eqw
        match ws, hk, rvs with
        | [], hk, .nil =>
          cases hk
          refine ⟨_, .inl ⟨rfl, rfl, hdd.resolve_right fun z => z ?_⟩, RD.int _⟩
          rw [he] at hl0
          exact List.eq_nil_of_length_eq_zero hl0.symm
        | [.v d'], hk, .cons r .nil =>
          cases hk
          exact ⟨_, .inr rfl, r⟩
      obtain ⟨v, hv, rv⟩ := got
      refine ⟨v, hv, fun dd hdd => ?_⟩
      have e2 := Same.new (o := .xd [(nm, v)]) (S1.fresh hdd)
      exact P1 _ _ m1 σ C (some dd) (S1.newD hdd) e2 (Pre.refl m1) ((E.mono e1 p1).mono e2 (Pre.refl m1)) (.at hC upd_same (rv.mono e2)))⟩
/-- a class whose exceptions keep nothing -/
def ExMkB (P : Program) (w : World) (K : PySem.W.Frag) (mg : Str → Option Value) (base : Heap) (C : Addr) (x : Str) : Prop :=
  ∀ (X : L2.Cx), X.prog = P → X.w = w → X.K = K → X.mg = mg → X.base = base → X.calm = true → Room 4 X.A → ∀ {p pos : Pos}, Gl X x → PMk X (.Call (.Name x p) [] [] pos) (fun σ H Q => Q (.ref C) none H)
theorem s_raisB {xa : Option (Addr × Option Addr × Addr)} {k : Nat} {C : Addr} {nm x : Str} {p p2 pos : Pos} (hC : cls k = some (C, nm)) (hc : X.calm = true) (hr : Room 4 X.A) (tk : Takes X wx) (M : ExMkB X.prog X.w X.K X.mg X.base C x) (hg : Gl X x) :
    PS X (.Raise (some (.Call (.Name x p) [] [] p2)) none pos) (tS (gX X cls) xa c wx (.raisB k)) :=
  ⟨fun pins s σ H D I q => (ps_raise hc tk (M X rfl rfl rfl rfl rfl hc hr hg)).run pins s σ H D I (by
    obtain ⟨env, st, Hb, Fr, m, S, E, P⟩ := q
    rw [exS] at P
    exact P H Hb m σ C none S (fun _ _ e => e) (Pre.refl m) E (.bare hC))⟩
/-- made on the spot, and looked at -/
def ExMkV (P : Program) (w : World) (K : PySem.W.Frag) (mg : Str → Option Value) (base : Heap) (C : Addr) (nm pn : Str) (x : Str) : Prop :=
  ∀ (X : L2.Cx), X.prog = P → X.w = w → X.K = K → X.mg = mg → X.base = base → X.calm = true → Room 4 X.A → ∀ {e : Expr} {te : TE} {p kp pos pos2 : Pos}, PE X e te → Gl X x →
    PE X (.Attribute (.Call (.Name x p) [] [⟨some pn, e, kp⟩] pos) nm pos2) (fun σ H Q => te σ H fun v H1 => ∀ dd, H1 dd = none → Q v (upd H1 dd (.xd [(nm, v)])))
theorem c_mkx {xa : Option (Addr × Option Addr × Addr)} {k : Nat} {e : Pf.E} {C : Addr} {nm pn x : Str} {y : Expr} {p kp pos pos2 : Pos} (hc : X.calm = true) (hr : Room 4 X.A) (M : ExMkV X.prog X.w X.K X.mg X.base C nm pn x) (hg : Gl X x) (he : PE X y (tE (gX X cls) xa c wx e)) :
    PE X (.Attribute (.Call (.Name x p) [] [⟨some pn, y, kp⟩] pos) nm pos2) (tE (gX X cls) xa c wx (.mkx k pn nm e)) :=
  ⟨fun pins s σ H Q I q => (M X rfl rfl rfl rfl rfl hc hr he hg).run pins s σ H Q I (by
    obtain ⟨env, st, Hb, Fr, m, S, E, P⟩ := q
    rw [evE] at P
    refine ⟨env, st, Hb, Fr, m, S, E, P.thn fun w st1 H1 Hb1 m1 S1 e1 p1 P1 v rv dd hdd => ?_⟩
    cases w with
    | v d =>
      have P1 : Post (gX X cls) wx σ Fr Hb1 m1 (.ok (.v d) st1) fun w _ Hb' m' H' => ∀ v, RW (gX X cls) Hb' m' w v → Q v H' := P1
      exact P1.newD S1 hdd _ v (RD.mono (Same.new (S1.fresh hdd)) rv)
    | _ => exact P1.elim)⟩
/-- e.f in an except suite -/
theorem c_exat {a : Addr} {o : Obj} {kl : Value} {d : Option Addr} {pn : List (Addr × Obj)} {i : Nat} {ks : List Nat} {n x : Str} {p pos : Pos} {w0 : WX} (hz : Zc kl d o) (hf : ∃ vs, o.data = .fields vs) (hT : ∀ k C nm, k ∈ ks → cls k = some (C, nm) → nm = n ∧ XfC X.K C ∧ PySem.W.findIn X.K (.ref C) n = some none)
    (hN : X.N[i]? = some x) (hv : Vis X.env.scope x) (hd : (x == ("__debug__" : Str)) = false) (hcd : (x == ("__classdict__" : Str)) = false) :
    PE (X.suite a ((a, o) :: pn)) (.Attribute (.Name x p) n pos) (tE (gX X cls) (xaOf a kl d) c w0 (.exat i ks n)) :=
  ⟨fun pins s σ H Q I q => by
    obtain ⟨env, st, Hb, Fr, m, S, E, P⟩ := q
    rw [evE] at P
    obtain ⟨w, hw, q⟩ := P.ofO S
    have go : ∃ k dx, env[i]? = some (some (.x k dx)) ∧ w = .v dx ∧ k ∈ ks ∧ isBare dx = false := by
      unfold exatO at hw
      split at hw
      · split at hw
        · rename_i hh
          obtain ⟨z1, z2⟩ := and2 hh
          cases hw
          refine ⟨_, _, by assumption, rfl, by simpa using z1, ?_⟩
          simpa using z2
        · cases hw
      · cases hw
    obtain ⟨k, dx, he, rfl, hk, hb⟩ := go
    obtain ⟨v, h1, a', od, C, h2, rfl, h3⟩ := E.val i _ he
    have hcl : kl = .ref C ∧ d = od ∧ a = a' := by
      unfold xaOf at h2
      split at h2
      · cases h2
        exact ⟨rfl, rfl, rfl⟩
      · cases h2
    obtain ⟨rfl, rfl, rfl⟩ := hcl
    cases h3 with
    | bare _ => exact absurd hb (by decide)
    | @«at» _ _ nm dd u h3 h4 h5 =>
      obtain ⟨rfl, T, hno⟩ := hT k C nm hk h3
      refine (pe_xf (X := X) T hno hz hf (pe_var (X := X.suite a ((a, o) :: pn)) hN hv hd hcd) rfl).run pins s σ H Q I ?_
      refine ⟨.ref a, h1, rfl, rfl, dd, [(nm, u)], u, rfl, S.hb _ _ h4, ?_, q _ h5⟩
      show (match nm == nm with | true => some u | false => List.lookup nm []) = some u
      rw [beq_self_eq_true]⟩
end
end Pf
set_option Elab.async false
set_option linter.all false
set_option maxRecDepth 100000
set_option maxHeartbeats 1000000
/-! Pf, part M: when a text is the code's; what a context must have. -/
namespace Pf
open PySem PySem.Spec PyProof.Rows L2

/-! ### scopes -/
/-- e: the scope as it stands in the context, sc: as it is written -/
structure ScR (sc e : Scope) : Prop where
  kind : e.kind = .function
  rel : ∀ x, e.names.lookup x = sc.names.lookup x ∨ (sc.names.lookup x = some .free ∧ e.names.lookup x = some .cell)
def visB (sc : Scope) (x : Str) : Bool := match sc.names.lookup x with | some .local => true | some .cell => true | some .free => true | _ => false
def locB (sc : Scope) (x : Str) : Bool := decide (sc.names.lookup x = some .local) || decide (sc.names.lookup x = some .cell)
def glB (sc : Scope) (x : Str) : Bool := decide (sc.names.lookup x = some .globalImplicit)
theorem vis_ok {sc e : Scope} (r : ScR sc e) {x : Str} (h : visB sc x = true) : Vis e x := by
  unfold visB at h
  rcases r.rel x with k | ⟨_, k⟩
  · split at h
    · rename_i z
      exact .inl (k.trans z)
    · rename_i z
      exact .inr (.inl (k.trans z))
    · rename_i z
      exact .inr (.inr (k.trans z))
    · cases h
  · exact .inr (.inl k)
theorem local_ok {sc e : Scope} (r : ScR sc e) {x : Str} (h : sc.names.lookup x = some .local) : e.names.lookup x = some .local := by
  rcases r.rel x with k | ⟨k, _⟩
  · exact k.trans h
  · rw [h] at k
    cases k
theorem loc_ok {X : L2.Cx} {sc : Scope} (r : ScR sc X.env.scope) (fc : ∀ x, sc.names.lookup x = some .cell → X.fn x = true) {x : Str} (h : locB sc x = true) : StO X x := by
  rcases Bool.or_eq_true_iff.mp h with h | h
  · have e := local_ok r (of_decide_eq_true h)
    exact ⟨.inl e, .inr e⟩
  · have h : sc.names.lookup x = some .cell := of_decide_eq_true h
    rcases r.rel x with k | ⟨k, _⟩
    · exact ⟨.inr (k.trans h), .inl (fc x h)⟩
    · rw [h] at k
      cases k
theorem gl_ok {X : L2.Cx} {sc : Scope} (r : ScR sc X.env.scope) {x : Str} (h : glB sc x = true) : Gl X x := by
  have h : sc.names.lookup x = some .globalImplicit := of_decide_eq_true h
  rcases r.rel x with k | ⟨k, _⟩
  · exact k.trans h
  · rw [h] at k
    cases k
theorem blk_ok {N : List Str} {sc e scope : Scope} {own : List (Str × Nat)} (r : ScR sc e) (h : blkC N sc scope own = true) : BlkOk N e scope own := by
  obtain ⟨h1, h2, h3, h4, h5⟩ := blkOk_by h
  refine ⟨h1, h2, h3, fun y hy ef => ?_, h5⟩
  rcases r.rel y.1 with k | ⟨_, k⟩
  · rw [k]
    exact h4 y hy ef
  · exact .inl k
theorem map_lookup {β : Type} (f : Str × β → Str × β) (hf : ∀ q, (f q).1 = q.1) (x : Str) : ∀ l : List (Str × β), (l.map f).lookup x = (l.lookup x).map fun b => (f (x, b)).2
  | [] => rfl
  | (y, b) :: l => by
    have ih := map_lookup f hf x l
    have e : f (y, b) = (y, (f (y, b)).2) := Prod.ext (hf (y, b)) rfl
    rw [List.map_cons, e, List.lookup_cons, List.lookup_cons]
    cases h : x == y with
    | true =>
      have exy : x = y := eq_of_beq h
      subst exy
      rfl
    | false => exact ih
theorem blk_sc {scope : Scope} {env : PySem.Env} {cl : List (Str × Addr)} {C : Addr} (h : scope.kind = .function) : ScR scope (compEnvC scope cl C env).scope where
  kind := h
  rel := fun x => by
    show (scope.names.map _).lookup x = _ ∨ (_ ∧ (scope.names.map _).lookup x = _)
    rw [map_lookup _ (fun q => by dsimp only; split <;> rfl)]
    cases hl : scope.names.lookup x with
    | none => exact .inl rfl
    | some k =>
      show some _ = _ ∨ _
      by_cases hk : (k == NameKind.free && env.scope.kind == .function && env.kindOf x == some .cell) = true
      · refine .inr ⟨?_, ?_⟩
        · have h1 := (and2 (and2 hk).1).1
          rw [eq_of_beq h1]
        · show some (Prod.snd (if (k == NameKind.free && env.scope.kind == .function && env.kindOf x == some .cell) = true then (x, NameKind.cell) else (x, k))) = _
          rw [if_pos hk]
      · refine .inl ?_
        show some (Prod.snd (if (k == NameKind.free && env.scope.kind == .function && env.kindOf x == some .cell) = true then (x, NameKind.cell) else (x, k))) = _
        rw [if_neg hk]

/-! ### the swapping rules -/
def swapB (sc scope : Scope) (t : Str) (p vp : Pos) : Bool := sc.names.lookup t == some .local && p.line == vp.line && !(scope.names.any fun (n, k) => n == t && (k == .local || k == .cell))
theorem kind_eq {sc : Scope} {env : PySem.Env} (r : ScR sc env.scope) (id : Str) : (env.kindOf id == some NameKind.local) = (sc.names.lookup id == some NameKind.local) := by
  show (env.scope.names.lookup id == some NameKind.local) = _
  rcases r.rel id with e | ⟨e1, e2⟩
  · rw [e]
  · rw [e1, e2]
    rfl
theorem swaps_lc {elt : Expr} {gs : List Comprehension} {sc scope : Scope} {vp p : Pos} {t : Str} {n : Nat} {env : PySem.Env} (r : ScR sc env.scope) : swapsWith (.ListComp elt gs scope vp) (some (.Name t p)) n env = pure (swapB sc scope t p vp) := by
  have h1 : env.blockKind = .function := by
    unfold PySem.Env.blockKind
    rw [r.kind]
    rfl
  show pure (env.blockKind == .function && env.kindOf t == some .local && p.line == vp.line && !(scope.names.any fun (n, k) => n == t && (k == .local || k == .cell))) = _
  rw [h1, kind_eq r]
  rfl
def isStar : Expr → Bool
  | .Starred .. => true
  | _ => false
def nameOn (sc : Scope) (line : Nat) : Expr → Option Str
  | .Name id pos => if (sc.names.lookup id == some .local && pos.line == line) = true then some id else none
  | _ => none
def parSw (sc : Scope) (ts vs : List Expr) : Option (Option (List Str)) :=
  if (!(ts.length == 2 || ts.length == 3) || vs.length != ts.length) = true then some none
  else if vs.any isStar = true then some none
  else if ((ts.filterMap (nameOn sc ((ts.head?.map (·.pos.line)).getD 0))).length != ts.length || (ts.filterMap (nameOn sc ((ts.head?.map (·.pos.line)).getD 0))).eraseDups.length != (ts.filterMap (nameOn sc ((ts.head?.map (·.pos.line)).getD 0))).length) = true then some none
  else if vs.all (foldedForSure 8) = true then some none
  else if vs.all (constantsAlone 8) = true then none
  else some (some (ts.filterMap (nameOn sc ((ts.head?.map (·.pos.line)).getD 0))))
theorem stores_par {sc : Scope} {env : PySem.Env} {ts vs : List Expr} {k k2 : Nat} {p p2 : Pos} {o : Option (List Str)} (r : ScR sc env.scope) (h : parSw sc ts vs = some o) : swappedStores [.Tuple ts k p] (.Tuple vs k2 p2) env = pure o := by
  have h1 : env.blockKind = .function := by
    unfold PySem.Env.blockKind
    rw [r.kind]
    rfl
  have hl := fun id => kind_eq r id
  unfold parSw at h
  unfold swappedStores
  simp only [h1, hl, pure_bind]
  by_cases c1 : (!(ts.length == 2 || ts.length == 3) || vs.length != ts.length) = true
  · rw [if_pos c1] at h
    cases h
    rw [if_pos (by simp only [c1, Bool.true_or])]
  · rw [if_neg c1] at h
    have c1' : (!(ts.length == 2 || ts.length == 3) || vs.length != ts.length || (ScopeKind.function != ScopeKind.function)) = false := by
      rw [Bool.eq_false_iff.mpr c1]
      rfl
    rw [if_neg (by rw [c1']; exact Bool.false_ne_true)]
    change (if vs.any isStar = true then pure none
      else if ((ts.filterMap (nameOn sc ((ts.head?.map (·.pos.line)).getD 0))).length != ts.length || (ts.filterMap (nameOn sc ((ts.head?.map (·.pos.line)).getD 0))).eraseDups.length != (ts.filterMap (nameOn sc ((ts.head?.map (·.pos.line)).getD 0))).length) = true then pure none
      else if vs.all (foldedForSure 8) = true then pure none
      else if vs.all (constantsAlone 8) = true then _
      else pure (some (ts.filterMap (nameOn sc ((ts.head?.map (·.pos.line)).getD 0))))) = _
    generalize ts.filterMap (nameOn sc ((ts.head?.map (·.pos.line)).getD 0)) = names at h ⊢
    by_cases c2 : vs.any isStar = true
    · rw [if_pos c2] at h ⊢
      cases h
      rfl
    · rw [if_neg c2] at h ⊢
      by_cases c3 : (names.length != ts.length || names.eraseDups.length != names.length) = true
      · rw [if_pos c3] at h ⊢
        cases h
        rfl
      · rw [if_neg c3] at h ⊢
        by_cases c4 : vs.all (foldedForSure 8) = true
        · rw [if_pos c4] at h ⊢
          cases h
          rfl
        · rw [if_neg c4] at h ⊢
          by_cases c5 : vs.all (constantsAlone 8) = true
          · rw [if_pos c5] at h
            cases h
          · rw [if_neg c5] at h ⊢
            cases h
            rfl
end Pf
set_option Elab.async false
set_option linter.all false
set_option maxRecDepth 100000
set_option maxHeartbeats 2000000
/-! Pf, part N: the check of an expression against its text, and that it is sound. -/
namespace Pf
open PySem PySem.Spec PyProof.Rows L2

structure Tb where
  bl : List Str
  fn : List Str
  sh : List (List (Nat × List Str × List Ag))
  cs : List Str
  gl : List (Str × D)
  xn : List Str
  xp : List Str
  xk : List Nat
/-- what the world holds -/
structure Ground (P : Program) (w : World) (K : PySem.W.Frag) (mg : Str → Option Value) (base : Heap) (cls : Nat → Option (Addr × Str)) (ca : Nat → Option Addr) (T : Tb) : Prop where
  bl : ∀ x ∈ T.bl, mg x = none
  gl : ∀ q ∈ T.gl, ∃ u v, mg q.1 = some u ∧ RelV v u ∧ ∀ H, RD K H q.2 v
  cas : CasOk K ⟨K, cls⟩ ca
  cs : ∀ k x, T.cs[k]? = some x → ∃ C, ca k = some C ∧ mg x = some (.ref C)
  mkx : ∀ k x, T.cs[k]? = some x → k ≠ 0 → (T.xk[k]? = some 0 ∨ T.xk[k]? = some 1) → ∃ C nm, cls k = some (C, nm) ∧ T.xn[k]? = some nm ∧ ExMk P w K mg base C nm (decide (T.xk[k]? = some 0)) x ∧ ∀ pn, T.xp[k]? = some pn → ExMkV P w K mg base C nm pn x
  mkb : ∀ k x, T.cs[k]? = some x → k ≠ 0 → T.xk[k]? = some 2 → ∃ C nm, cls k = some (C, nm) ∧ ExMkB P w K mg base C x
  xn : ∀ k C nm, cls k = some (C, nm) → T.xk[k]? ≠ some 2 → T.xn[k]? = some nm ∧ XfC K C ∧ PySem.W.findIn K (.ref C) nm = some none
def xatB (T : Tb) (ks : List Nat) (n : Str) : Bool := ks.all fun k => decide (T.xn[k]? = some n) && !decide (T.xk[k]? = some 2)
/-- what a context must have -/
structure Fx (X : L2.Cx) (T : Tb) (N : List Str) (sc : Scope) (b : Bool) (cls : Nat → Option (Addr × Str)) (ca : Nat → Option Addr) (xa : Option (Addr × Option Addr × Addr)) (c : Pf.Cx) (wx : WX) (kk : Nat) : Prop where
  nN : X.N = N
  nd : N.Nodup
  sr : ScR sc X.env.scope
  fc : ∀ x, sc.names.lookup x = some .cell → X.fn x = true
  gr : Ground X.prog X.w X.K X.mg X.base cls ca T
  un : X.A.units + 65 < cLine
  tk : Takes X wx
  ca : b = true → X.calm = true
  rm : b = true → Room kk X.A ∧ 4 ≤ kk
  nx : b = true → xa = none
  fns : ∀ f x, T.fn[f]? = some x → FnAt X.prog X.w X.K X.mg X.base ⟨X.K, cls⟩ c f kk x (T.sh[f]?.getD [])
  xr : ∀ i ks n x p pos, N[i]? = some x → visB sc x = true → (x == ("__debug__" : Str)) = false → (x == ("__classdict__" : Str)) = false → xatB T ks n = true → PE X (.Attribute (.Name x p) n pos) (tE (gX X cls) xa c wx (.exat i ks n))

def optB {α : Type} (o : Option α) (f : α → Bool) : Bool :=
  match o with
  | some a => f a
  | none => false
theorem optB_ok {α : Type} {o : Option α} {f : α → Bool} (h : optB o f = true) : ∃ a, o = some a ∧ f a = true := by
  cases o with
  | none => cases h
  | some a => exact ⟨a, rfl, h⟩
def constD : Const → Option D
  | .none => some .non
  | .bool b => some (.bl b)
  | .int i => some (.int i)
  | .str s => some (.str s.cps.toList)
  | _ => none
def litB (d : D) (x : Expr) : Bool := optB (isConst x) fun k => optB (constD k) fun d' => deqD d d'
def plainN (n : Str) : Bool := !(n == ("__debug__" : Str)) && !(n == ("__classdict__" : Str))
def bltB (T : Tb) (sc : Scope) (x : Str) : Bool := decide (x ∈ T.bl) && glB sc x
def isW : Pf.T → Bool
  | .andd _ _ => true
  | .orr _ _ => true
  | .one _ => true
  | _ => false
def okNames (N : List Str) (sc : Scope) : List Nat → List Expr → Bool
  | [], [] => true
  | i :: is, t :: ts => optB (isName t) (fun x => decide (N[i]? = some x) && locB sc x) && okNames N sc is ts
  | _, _ => false
def okTg (N : List Str) (sc : Scope) (tg : List Nat) (t : Expr) : Bool :=
  match tg with
  | [i] => optB (isName t) fun x => decide (N[i]? = some x) && locB sc x
  | _ => optB (isTup t) fun ts => okNames N sc tg ts
def ownOf (N : List Str) (vs : List Nat) : List (Str × Nat) := vs.filterMap fun v => (N[v]?).map fun x => (x, v)
def isTyN (s : Str) (x : Expr) : Bool := optB (isName x) fun n => decide (n = s)
def isSeqT (x : Expr) : Bool := match x with
  | .Tuple [a, c] _ _ => isTyN "list" a && isTyN "tuple" c
  | _ => false
/-- the second argument of isinstance -/
def isiArg (T : Tb) (sc : Scope) (bf : Bfn) (x : Expr) : Bool :=
  match bf with
  | .isint => isTyN "int" x && bltB T sc "int"
  | .isbool => isTyN "bool" x && bltB T sc "bool"
  | .isstr => isTyN "str" x && bltB T sc "str"
  | .isseq => isSeqT x && (bltB T sc "list" && bltB T sc "tuple")
  | _ => false
def two1 {α : Type} : List α → Option α
  | [a] => some a
  | _ => none
def pair1 {α : Type} : List α → Option (α × α)
  | [a, b] => some (a, b)
  | _ => none
mutual
def okE (T : Tb) (N : List Str) (b : Bool) : E → Scope → Expr → Bool
  | .var i, sc, x => optB (isName x) fun n => decide (N[i]? = some n) && (visB sc n && plainN n)
  | .lit d, _, x => litB d x
  | .gl y d, sc, x => optB (isName x) fun n => decide (n = y) && (glB sc n && (plainN n && T.gl.any fun q => decide (q.1 = y) && deqD q.2 d))
  | .neg a, sc, x => optB (isNeg x) fun y => okE T N b a sc y
  | .bin op a c, sc, x => optB (isBin x) fun q => decide (q.2.1 = opOf op) && (okE T N b a sc q.1 && okE T N b c sc q.2.2)
  | .cmp op a c, sc, x => optB (isCmp x) fun q => decide (q.2.1 = copOf op) && (notSet q.2.2 && (okE T N b a sc q.1 && okE T N b c sc q.2.2))
  | .chn op op' a c d, sc, x => optB (isChn x) fun q => decide (q.2.1 = copOf op) && (decide (q.2.2.1 = copOf op') && (notSet q.2.2.2.2 && (okE T N b a sc q.1 && (okE T N b c sc q.2.2.2.1 && okE T N b d sc q.2.2.2.2))))
  | .nott a, sc, x => optB (isNot x) fun y => okE T N b a sc y
  | .andd a c, sc, x => optB (isBool2 x) fun q => decide (q.1 = .And) && (okE T N b a sc q.2.1 && okE T N b c sc q.2.2)
  | .orr a c, sc, x => optB (isBool2 x) fun q => decide (q.1 = .Or) && (okE T N b a sc q.2.1 && okE T N b c sc q.2.2)
  | .one a, sc, x => optB (isBool1 x) fun y => okE T N b a sc y
  | .ife t a c, sc, x => optB (isIf x) fun q => okT T N b t sc q.1 && (okE T N b a sc q.2.1 && okE T N b c sc q.2.2)
  | .tup es, sc, x => optB (isTup x) fun xs => decide (esLen es ≤ LIM) && okA T N b es sc xs []
  | .idx a c, sc, x => optB (isIdx x) fun q => notSlice q.2 && (okE T N b a sc q.1 && okE T N b c sc q.2)
  | .slc a lo hi, sc, x => optB (isSlc x) fun q => okE T N b a sc q.1 && (okO T N b lo sc q.2.1 && okO T N b hi sc q.2.2)
  | .frz l, sc, x => okL T N b l sc x
  | .liv l, sc, x => okL T N b l sc x
  | .fz a, sc, x => okE T N b a sc x
  | .call _ f np ks pm es, sc, x => optB (isCall x) fun q => b && (decide (T.fn[f]? = some q.1) && (glB sc q.1 && (plainN q.1 && (((T.sh[f]?.getD []).any fun s => decide (s.1 = np) && (decide (s.2.1 = ks) && deqAgs s.2.2 pm)) && (decide (q.2.1.length = np) && (kwOk q.2.2 ks && okA T N b es sc q.2.1 q.2.2))))))
  | .blt bf es, sc, x => optB (isCall x) fun q => q.2.2.isEmpty && (if bltPlain bf = true then b && (decide (q.1 = bltN bf) && (bltB T sc (bltN bf) && (!q.2.1.isEmpty && okA T N b es sc q.2.1 [])))
      else decide (q.1 = ("isinstance" : Str)) && (bltB T sc "isinstance" && optB (pair1 q.2.1) fun u => isiArg T sc bf u.2 && okA T N b es sc [u.1] []))
  | .pop a, sc, x => optB (isMeth x) fun q => decide (q.2.1 = ("pop" : Str)) && (q.2.2.isEmpty && (notCall0 q.1 && okE T N b a sc q.1))
  | .popi a c, sc, x => optB (isMeth x) fun q => decide (q.2.1 = ("pop" : Str)) && (notCall0 q.1 && (okE T N b a sc q.1 && optB (two1 q.2.2) fun y => notStar y && okE T N b c sc y))
  | .app a c, sc, x => optB (isMeth x) fun q => decide (q.2.1 = ("append" : Str)) && (notCall0 q.1 && (okE T N b a sc q.1 && optB (two1 q.2.2) fun y => notStar y && okE T N b c sc y))
  | .exat i ks n, sc, x => optB (isAttr x) fun q => optB (isName q.1) fun y => decide (N[i]? = some y) && (visB sc y && (plainN y && (decide (q.2 = n) && xatB T ks n)))
  | .mkx k pn nm e, sc, x => optB (isMkx x) fun q => b && (decide (k ≠ 0) && (decide (T.cs[k]? = some q.1) && ((decide (T.xk[k]? = some 0) || decide (T.xk[k]? = some 1)) && (decide (T.xn[k]? = some nm) && (decide (T.xp[k]? = some pn) && (decide (q.2.1 = pn) && (decide (q.2.2.2 = nm) && (glB sc q.1 && okE T N b e sc q.2.2.1))))))))
def okT (T : Tb) (N : List Str) (b : Bool) : Pf.T → Scope → Expr → Bool
  | .vv a, sc, x => plainT x && okE T N b a sc x
  | .cmp op a c, sc, x => optB (isCmp x) fun q => decide (q.2.1 = copOf op) && (notSet q.2.2 && (okE T N b a sc q.1 && okE T N b c sc q.2.2))
  | .chn op op' a c d, sc, x => optB (isChn x) fun q => decide (q.2.1 = copOf op) && (decide (q.2.2.1 = copOf op') && (notSet q.2.2.2.2 && (okE T N b a sc q.1 && (okE T N b c sc q.2.2.2.1 && okE T N b d sc q.2.2.2.2))))
  | .nott a, sc, x => optB (isNot x) fun y => okT T N b a sc y
  | .andd a c, sc, x => optB (isBool2 x) fun q => decide (q.1 = .And) && (okT T N b a sc q.2.1 && (isW c && okT T N b c sc q.2.2))
  | .orr a c, sc, x => optB (isBool2 x) fun q => decide (q.1 = .Or) && (okT T N b a sc q.2.1 && (isW c && okT T N b c sc q.2.2))
  | .one a, sc, x => optB (isBool1 x) fun y => okT T N b a sc y
def okL (T : Tb) (N : List Str) (b : Bool) : L → Scope → Expr → Bool
  | .disp es, sc, x => optB (isLst x) fun xs => decide (esLen es ≤ LIM) && okA T N b es sc xs []
  | .lc vs tg it ts e, sc, x => optB (isLc x) fun q => b && (notSet q.2.2.1 && (okI T N b tg it sc q.2.2.1 q.2.1 && (blkC N sc q.2.2.2.2 (ownOf N vs) && (decide ((ownOf N vs).map (·.2) = vs) && (tg.all (fun i => decide (i ∈ vs)) && (okTg N q.2.2.2.2 tg q.2.1 && (okTs T N b ts q.2.2.2.2 q.2.2.2.1 && okE T N b e q.2.2.2.2 q.1)))))))
  | .lc2 .., _, _ => false
  | .ofs a, sc, x => optB (isCall x) fun q => decide (q.1 = ("list" : Str)) && (bltB T sc "list" && (q.2.2.isEmpty && optB (two1 q.2.1) fun y => notStar y && okE T N b a sc y))
  | .slc a lo hi, sc, x => optB (isSlc x) fun q => okE T N b a sc q.1 && (okO T N b lo sc q.2.1 && okO T N b hi sc q.2.2)
  | .rev a, sc, x => optB (isRev x) fun y => okE T N b a sc y
  | .cat a c, sc, x => optB (isBin x) fun q => decide (q.2.1 = .Add) && (okE T N b a sc q.1 && okE T N b c sc q.2.2)
  | .rep a c, sc, x => optB (isBin x) fun q => decide (q.2.1 = .Mult) && (okE T N b a sc q.1 && okE T N b c sc q.2.2)
  | .srt a, sc, x => optB (isCall x) fun q => decide (q.1 = ("sorted" : Str)) && (bltB T sc "sorted" && (q.2.2.isEmpty && optB (two1 q.2.1) fun y => notStar y && okE T N b a sc y))
def okI (T : Tb) (N : List Str) (b : Bool) (tg : List Nat) : I → Scope → Expr → Expr → Bool
  | .seq a, sc, x, _ => okE T N b a sc x
  | .rng1 a, sc, x, _ => optB (isCall x) fun q => decide (q.1 = ("range" : Str)) && (bltB T sc "range" && (q.2.2.isEmpty && optB (two1 q.2.1) fun y => notStar y && okE T N b a sc y))
  | .rng2 a c, sc, x, _ => optB (isCall x) fun q => decide (q.1 = ("range" : Str)) && (bltB T sc "range" && (q.2.2.isEmpty && optB (pair1 q.2.1) fun y => notStar y.1 && (notStar y.2 && (okE T N b a sc y.1 && okE T N b c sc y.2))))
  | .enu a, sc, x, t => (isTup t).isSome && optB (isCall x) fun q => decide (q.1 = ("enumerate" : Str)) && (bltB T sc "enumerate" && (q.2.2.isEmpty && optB (two1 q.2.1) fun y => notStar y && okE T N b a sc y))
  | .zp a c, sc, x, t => (isTup t).isSome && optB (isCall x) fun q => decide (q.1 = ("zip" : Str)) && (bltB T sc "zip" && (q.2.2.isEmpty && optB (pair1 q.2.1) fun y => notStar y.1 && (notStar y.2 && (okE T N b a sc y.1 && okE T N b c sc y.2))))
def okA (T : Tb) (N : List Str) (b : Bool) : Es → Scope → List Expr → List Keyword → Bool
  | .nil, _, [], [] => true
  | .cons e es, sc, x :: xs, ks => notStar x && (okE T N b e sc x && okA T N b es sc xs ks)
  | .cons e es, sc, [], k :: ks => okE T N b e sc k.value && okA T N b es sc [] ks
  | _, _, _, _ => false
def okTs (T : Tb) (N : List Str) (b : Bool) : Ts → Scope → List Expr → Bool
  | .yes, _, xs => xs.isEmpty
  | .one t, sc, xs => optB (two1 xs) fun y => okT T N b t sc y
def okO (T : Tb) (N : List Str) (b : Bool) : O → Scope → Option Expr → Bool
  | .none, _, o => o.isNone
  | .some e, sc, o => optB o fun y => okE T N b e sc y
end

/-! ### small ones -/
theorem plainN_ok {n : Str} (h : plainN n = true) : (n == ("__debug__" : Str)) = false ∧ (n == ("__classdict__" : Str)) = false := by
  obtain ⟨h1, h2⟩ := and2 h
  exact ⟨by simpa using h1, by simpa using h2⟩
theorem two1_ok {α : Type} {l : List α} {a : α} (h : two1 l = some a) : l = [a] := by
  unfold two1 at h
  split at h
  · cases h
    rfl
  · cases h
theorem pair1_ok {α : Type} {l : List α} {a : α × α} (h : pair1 l = some a) : l = [a.1, a.2] := by
  unfold pair1 at h
  split at h
  · cases h
    rfl
  · cases h
theorem empty_ok {α : Type} {l : List α} (h : l.isEmpty = true) : l = [] := by
  cases l with
  | nil => rfl
  | cons a l => cases h
section
variable {X : L2.Cx} {T : Tb} {N : List Str} {sc : Scope} {b : Bool} {cls : Nat → Option (Addr × Str)} {ca : Nat → Option Addr} {xa : Option (Addr × Option Addr × Addr)} {c : Pf.Cx} {wx : WX} {kk : Nat}
theorem Fx.bi (F : Fx X T N sc b cls ca xa c wx kk) {x : Str} {v : Value} (h : bltB T sc x = true) (hb : bootBuiltins x = some v) (h1 : x ≠ "__name__") (h2 : (x == ("__debug__" : Str)) = false) : Bi X x v := by
  obtain ⟨h3, h4⟩ := and2 h
  exact ⟨gl_ok F.sr h4, F.gr.bl x (of_decide_eq_true h3), hb, h1, h2⟩
theorem blt_bi (F : Fx X T N sc b cls ca xa c wx kk) (bf : Bfn) (hp : bltPlain bf = true) (h : bltB T sc (bltN bf) = true) : Bi X (bltN bf) (bltV bf) := by
  cases bf with
  | len => exact F.bi h (by decide +kernel) (by decide) (by decide)
  | int => exact F.bi h (by decide +kernel) (by decide) (by decide)
  | abs => exact F.bi h (by decide +kernel) (by decide) (by decide)
  | tuple => exact F.bi h (by decide +kernel) (by decide) (by decide)
  | min => exact F.bi h (by decide +kernel) (by decide) (by decide)
  | max => exact F.bi h (by decide +kernel) (by decide) (by decide)
  | all => exact F.bi h (by decide +kernel) (by decide) (by decide)
  | any => exact F.bi h (by decide +kernel) (by decide) (by decide)
  | _ => cases hp
theorem lit_ok {d : D} {x : Expr} (h : litB d x = true) : PE X x (tE (gX X cls) xa c wx (.lit d)) := by
  obtain ⟨k, hk, h⟩ := optB_ok h
  obtain ⟨d', hd, h⟩ := optB_ok h
  have e := deqD_ok h
  subst e
  obtain ⟨u, p, rfl⟩ := isConst_ok hk
  have ev : ∀ env st, evE c (.lit d) env st = .ok (.v d) st := fun env st => by rw [evE]
  cases k with
  | none =>
    cases hd
    exact c_val ev pe_non fun _ => RD.non
  | bool v =>
    cases hd
    exact c_val ev pe_bl fun _ => RD.bl v
  | int i =>
    cases hd
    exact c_val ev pe_int fun _ => RD.int i
  | str s =>
    cases hd
    refine c_val ev pe_str fun H => ?_
    have q := RD.str (K := X.K) (H := H) s.cps.toList
    rw [Array.toArray_toList] at q
    exact q
  | _ => cases hd
/-- a row of values with its texts -/
inductive EsR (X : L2.Cx) (cls : Nat → Option (Addr × Str)) (xa : Option (Addr × Option Addr × Addr)) (c : Pf.Cx) (wx : WX) : Es → List Expr → Prop
  | nil : EsR X cls xa c wx .nil []
  | cons {e : Pf.E} {es : Es} {x : Expr} {xs : List Expr} : notStar x = true → PE X x (tE (gX X cls) xa c wx e) → EsR X cls xa c wx es xs → EsR X cls xa c wx (.cons e es) (x :: xs)
inductive EsK (X : L2.Cx) (cls : Nat → Option (Addr × Str)) (xa : Option (Addr × Option Addr × Addr)) (c : Pf.Cx) (wx : WX) : Es → List Keyword → Prop
  | nil : EsK X cls xa c wx .nil []
  | cons {e : Pf.E} {es : Es} {k : Keyword} {ks : List Keyword} : PE X k.value (tE (gX X cls) xa c wx e) → EsK X cls xa c wx es ks → EsK X cls xa c wx (.cons e es) (k :: ks)
theorem EsR.pa {es : Es} {xs : List Expr} (h : EsR X cls xa c wx es xs) : PA X xs (tEs (gX X cls) xa c wx es) ∧ xs.all notStar = true ∧ esLen es = xs.length := by
  induction h with
  | nil => exact ⟨a_nil, rfl, rfl⟩
  | cons h1 h2 _ ih => exact ⟨a_cons h1 h2 ih.1, by rw [List.all_cons, h1, ih.2.1]; rfl, by rw [List.length_cons, ← ih.2.2]; rfl⟩
theorem EsK.pk {es : Es} {ks : List Keyword} (h : EsK X cls xa c wx es ks) : PK X ks (tEs (gX X cls) xa c wx es) ∧ esLen es = ks.length := by
  induction h with
  | nil => exact ⟨k_nil, rfl⟩
  | @cons e es k ks h1 _ ih =>
    obtain ⟨nm, v, p⟩ := k
    exact ⟨k_cons h1 ih.1, by rw [List.length_cons, ← ih.2]; rfl⟩
theorem esApp_nil : ∀ es : Es, esApp es .nil = es
  | .nil => rfl
  | .cons e es => by
    show Es.cons e (esApp es .nil) = _
    rw [esApp_nil es]
/-- no keywords -/
theorem row_nil {es : Es} {xs : List Expr} (h : ∃ e1 e2, es = esApp e1 e2 ∧ EsR X cls xa c wx e1 xs ∧ EsK X cls xa c wx e2 []) : EsR X cls xa c wx es xs := by
  obtain ⟨e1, e2, rfl, h1, h2⟩ := h
  cases h2
  rw [esApp_nil]
  exact h1
theorem names_ok2 (F : Fx X T N sc b cls ca xa c wx kk) : ∀ {tg : List Nat} {ts : List Expr}, okNames N sc tg ts = true → NamesR X tg ts
  | [], [], _ => .nil
  | [], _ :: _, h => by cases h
  | _ :: _, [], h => by cases h
  | i :: is, t :: ts, h => by
    obtain ⟨h1, h2⟩ := and2 (show (optB (isName t) (fun x => decide (N[i]? = some x) && locB sc x) && okNames N sc is ts) = true from h)
    obtain ⟨x, hx, h4⟩ := optB_ok h1
    obtain ⟨h5, h3⟩ := and2 h4
    obtain ⟨p, rfl⟩ := isName_ok hx
    exact .cons ⟨x, p, rfl, by rw [F.nN]; exact of_decide_eq_true h5, loc_ok F.sr F.fc h3⟩ (names_ok2 F h2)
theorem tg_pg {N' : List Str} {sc' : Scope} {Y : L2.Cx} (hN : Y.N = N') (hnd : N'.Nodup) (sr : ScR sc' Y.env.scope) (fc : ∀ x, sc'.names.lookup x = some .cell → Y.fn x = true) (hc : Y.calm = true) {tg : List Nat} {t : Expr} (h : okTg N' sc' tg t = true) : PG Y t (gTg Y.K tg) := by
  have go : ∀ {tg : List Nat} {ts : List Expr}, okNames N' sc' tg ts = true → NamesR Y tg ts := by
    intro tg
    induction tg with
    | nil =>
      intro ts h
      cases ts with
      | nil => exact .nil
      | cons _ _ => cases h
    | cons i is ih =>
      intro ts h
      cases ts with
      | nil => cases h
      | cons t ts =>
        obtain ⟨h1, h2⟩ := and2 (show (optB (isName t) (fun x => decide (N'[i]? = some x) && locB sc' x) && okNames N' sc' is ts) = true from h)
        obtain ⟨x, hx, h4⟩ := optB_ok h1
        obtain ⟨h5, h3⟩ := and2 h4
        obtain ⟨p, rfl⟩ := isName_ok hx
        exact .cons ⟨x, p, rfl, by rw [hN]; exact of_decide_eq_true h5, loc_ok sr fc h3⟩ (ih h2)
  have many : ∀ {ts : List Expr} {k : Nat} {p : Pos}, okNames N' sc' tg ts = true → PG Y (.Tuple ts k p) (gTup Y.K tg.length (gNames tg)) := fun {ts k p} h => g_tup hc (by rw [hN]; exact hnd) (go h)
  cases tg with
  | nil =>
    obtain ⟨ts, ht, h1⟩ := optB_ok (show optB (isTup t) (fun ts => okNames N' sc' [] ts) = true from h)
    obtain ⟨k, p, rfl⟩ := isTup_ok ht
    exact many h1
  | cons i is =>
    cases is with
    | nil =>
      obtain ⟨x, hx, h4⟩ := optB_ok (show optB (isName t) (fun x => decide (N'[i]? = some x) && locB sc' x) = true from h)
      obtain ⟨h5, h3⟩ := and2 h4
      obtain ⟨p, rfl⟩ := isName_ok hx
      have hl := loc_ok sr fc h3
      exact pg_name (by rw [hN]; exact hnd) (by rw [hN]; exact of_decide_eq_true h5) hl.1 hl.2
    | cons j is =>
      obtain ⟨ts, ht, h1⟩ := optB_ok (show optB (isTup t) (fun ts => okNames N' sc' (i :: j :: is) ts) = true from h)
      obtain ⟨k, p, rfl⟩ := isTup_ok ht
      exact many h1
/-- a block's context -/
theorem Fx.blk (F : Fx X T N sc b cls ca xa c wx kk) (hb : b = true) {scope : Scope} (hk : scope.kind = .function) (s : Shared) (H : Hp) (C : Addr) (cl : List (Str × Addr)) (fp : List Addr) :
    Fx (X.blk s H scope (compEnvC scope cl C X.env) fp) T N scope b cls ca xa c (fun _ _ _ _ => False) kk where
  nN := F.nN
  nd := F.nd
  sr := blk_sc hk
  fc := fun x h => by
    show (scope.names.lookup x == some .cell) = true
    rw [h]
    rfl
  gr := F.gr
  un := F.un
  tk := takes_none5
  ca := F.ca
  rm := F.rm
  nx := F.nx
  fns := F.fns
  xr := fun i ks n x p pos h1 h2 h3 h4 h5 => by
    have e := F.nx hb
    subst e
    refine ⟨fun pins s σ H Q I q => ?_⟩
    obtain ⟨env, st, Hb, Fr, m, S, E, P⟩ := q
    rw [evE] at P
    obtain ⟨w, hw, q⟩ := P.ofO S
    unfold exatO at hw
    split at hw
    · rename_i k d he
      obtain ⟨v, _, a, od, C, h2, _⟩ := E.val i _ he
      cases h2
    · cases hw
end
end Pf
set_option Elab.async false
set_option linter.all false
set_option maxRecDepth 100000
set_option maxHeartbeats 4000000
/-! Pf, part O: an expression that is checked keeps the evaluator's word. -/
namespace Pf
open PySem PySem.Spec PyProof.Rows L2
section
variable {T : Tb} {N : List Str} {b : Bool} {cls : Nat → Option (Addr × Str)} {ca : Nat → Option Addr} {c : Pf.Cx} {kk : Nat}
mutual
theorem soundE : ∀ (e : Pf.E) {X : L2.Cx} {sc : Scope} {xa : Option (Addr × Option Addr × Addr)} {wx : WX} (F : Fx X T N sc b cls ca xa c wx kk) {x : Expr}, okE T N b e sc x = true → PE X x (tE (gX X cls) xa c wx e)
  | .var i, X, sc, xa, wx, F, x, h => by
    rw [okE] at h
    obtain ⟨n, hn, h1⟩ := optB_ok h
    obtain ⟨h2, h3⟩ := and2 h1
    obtain ⟨h4, h5⟩ := and2 h3
    obtain ⟨d1, d2⟩ := plainN_ok h5
    obtain ⟨p, rfl⟩ := isName_ok hn
    exact c_var (by rw [F.nN]; exact of_decide_eq_true h2) (vis_ok F.sr h4) d1 d2
  | .lit d, X, sc, xa, wx, F, x, h => by
    rw [okE] at h
    exact lit_ok h
  | .gl y d, X, sc, xa, wx, F, x, h => by
    rw [okE] at h
    obtain ⟨n, hn, h1⟩ := optB_ok h
    obtain ⟨h2, h3⟩ := and2 h1
    obtain ⟨h4, h5⟩ := and2 h3
    obtain ⟨h6, h7⟩ := and2 h5
    obtain ⟨d1, d2⟩ := plainN_ok h6
    obtain ⟨q, hq, h8⟩ := List.any_eq_true.mp h7
    obtain ⟨h9, h10⟩ := and2 h8
    have e1 : q.1 = y := of_decide_eq_true h9
    have e2 : q.2 = d := deqD_ok h10
    have e3 : n = y := of_decide_eq_true h2
    obtain ⟨u, v, g1, g2, g3⟩ := F.gr.gl q hq
    rw [e1] at g1
    rw [e2] at g3
    rw [e3] at hn h4 d1
    obtain ⟨p, rfl⟩ := isName_ok hn
    exact c_val (fun env st => by rw [evE]) (pe_glob (gl_ok F.sr h4) g1 g2 d1) g3
  | .neg a, X, sc, xa, wx, F, x, h => by
    rw [okE] at h
    obtain ⟨y, hy, h1⟩ := optB_ok h
    obtain ⟨p, rfl⟩ := isNeg_ok hy
    exact c_neg (soundE a F h1)
  | .bin op a d, X, sc, xa, wx, F, x, h => by
    rw [okE] at h
    obtain ⟨⟨y, o, z⟩, hq, h1⟩ := optB_ok h
    obtain ⟨h2, h3⟩ := and2 h1
    obtain ⟨h4, h5⟩ := and2 h3
    have e1 : o = opOf op := of_decide_eq_true h2
    obtain ⟨p, rfl⟩ := isBin_ok hq
    dsimp only
    rw [e1]
    exact c_bin (soundE a F h4) (soundE d F h5)
  | .cmp op a d, X, sc, xa, wx, F, x, h => by
    rw [okE] at h
    obtain ⟨⟨y, o, z⟩, hq, h1⟩ := optB_ok h
    obtain ⟨h2, h3⟩ := and2 h1
    obtain ⟨h4, h5⟩ := and2 h3
    obtain ⟨h6, h7⟩ := and2 h5
    have e1 : o = copOf op := of_decide_eq_true h2
    obtain ⟨p, rfl⟩ := isCmp_ok hq
    dsimp only
    rw [e1]
    exact c_cmp F.un h4 (soundE a F h6) (soundE d F h7)
  | .chn op op' a d e, X, sc, xa, wx, F, x, h => by
    rw [okE] at h
    obtain ⟨⟨y, o, o', z, u⟩, hq, h1⟩ := optB_ok h
    obtain ⟨h2, h3⟩ := and2 h1
    obtain ⟨h4, h5⟩ := and2 h3
    obtain ⟨h6, h7⟩ := and2 h5
    obtain ⟨h8, h9⟩ := and2 h7
    obtain ⟨h10, h11⟩ := and2 h9
    have e1 : o = copOf op := of_decide_eq_true h2
    have e2 : o' = copOf op' := of_decide_eq_true h4
    obtain ⟨p, rfl⟩ := isChn_ok hq
    dsimp only
    rw [e1, e2]
    exact c_chn F.un h6 (soundE a F h8) (soundE d F h10) (soundE e F h11)
  | .nott a, X, sc, xa, wx, F, x, h => by
    rw [okE] at h
    obtain ⟨y, hy, h1⟩ := optB_ok h
    obtain ⟨p, rfl⟩ := isNot_ok hy
    exact c_not (soundE a F h1)
  | .andd a d, X, sc, xa, wx, F, x, h => by
    rw [okE] at h
    obtain ⟨⟨o, y, z⟩, hq, h1⟩ := optB_ok h
    obtain ⟨h2, h3⟩ := and2 h1
    obtain ⟨h4, h5⟩ := and2 h3
    have e1 : o = .And := of_decide_eq_true h2
    rw [e1] at hq
    obtain ⟨u, r, p, rfl, e2⟩ := isBool2_ok hq
    have e2 : z = .BoolOp .And (u :: r) p := e2
    rw [e2] at h5
    exact c_and (soundE a F h4) (soundE d F h5)
  | .orr a d, X, sc, xa, wx, F, x, h => by
    rw [okE] at h
    obtain ⟨⟨o, y, z⟩, hq, h1⟩ := optB_ok h
    obtain ⟨h2, h3⟩ := and2 h1
    obtain ⟨h4, h5⟩ := and2 h3
    have e1 : o = .Or := of_decide_eq_true h2
    rw [e1] at hq
    obtain ⟨u, r, p, rfl, e2⟩ := isBool2_ok hq
    have e2 : z = .BoolOp .Or (u :: r) p := e2
    rw [e2] at h5
    exact c_or (soundE a F h4) (soundE d F h5)
  | .one a, X, sc, xa, wx, F, x, h => by
    rw [okE] at h
    obtain ⟨y, hy, h1⟩ := optB_ok h
    obtain ⟨o, p, rfl⟩ := isBool1_ok hy
    exact c_one (soundE a F h1)
  | .ife t a d, X, sc, xa, wx, F, x, h => by
    rw [okE] at h
    obtain ⟨⟨y, z, u⟩, hq, h1⟩ := optB_ok h
    obtain ⟨h2, h3⟩ := and2 h1
    obtain ⟨h4, h5⟩ := and2 h3
    obtain ⟨p, rfl⟩ := isIf_ok hq
    exact c_ife (soundT t F h2).1 (soundE a F h4) (soundE d F h5)
  | .tup es, X, sc, xa, wx, F, x, h => by
    rw [okE] at h
    obtain ⟨xs, hq, h1⟩ := optB_ok h
    obtain ⟨h2, h3⟩ := and2 h1
    obtain ⟨k, p, rfl⟩ := isTup_ok hq
    exact c_tup (of_decide_eq_true h2) (row_nil (soundA es F h3)).pa.1
  | .idx a d, X, sc, xa, wx, F, x, h => by
    rw [okE] at h
    obtain ⟨⟨y, z⟩, hq, h1⟩ := optB_ok h
    obtain ⟨h2, h3⟩ := and2 h1
    obtain ⟨h4, h5⟩ := and2 h3
    obtain ⟨p, rfl⟩ := isIdx_ok hq
    exact c_idx h2 (soundE a F h4) (soundE d F h5)
  | .slc a lo hi, X, sc, xa, wx, F, x, h => by
    rw [okE] at h
    obtain ⟨⟨y, l, u⟩, hq, h1⟩ := optB_ok h
    obtain ⟨h2, h3⟩ := and2 h1
    obtain ⟨h4, h5⟩ := and2 h3
    obtain ⟨p, p', rfl⟩ := isSlc_ok hq
    exact c_slc (soundE a F h2) (soundO lo F h4) (soundO hi F h5)
  | .frz l, X, sc, xa, wx, F, x, h => by
    rw [okE] at h
    exact c_frz (soundL l F h)
  | .liv l, X, sc, xa, wx, F, x, h => by
    rw [okE] at h
    exact c_liv (soundL l F h)
  | .fz a, X, sc, xa, wx, F, x, h => by
    rw [okE] at h
    exact c_fz (soundE a F h)
  | .call k f np ks pm es, X, sc, xa, wx, F, x, h => by
    rw [okE] at h
    obtain ⟨⟨n, xs, kws⟩, hq, h1⟩ := optB_ok h
    obtain ⟨h2, h3⟩ := and2 h1
    obtain ⟨h4, h5⟩ := and2 h3
    obtain ⟨h6, h7⟩ := and2 h5
    obtain ⟨h8, h9⟩ := and2 h7
    obtain ⟨h10, h11⟩ := and2 h9
    obtain ⟨h12, h13⟩ := and2 h11
    obtain ⟨h14, h15⟩ := and2 h13
    obtain ⟨s, hs, h16⟩ := List.any_eq_true.mp h10
    obtain ⟨h17, h18⟩ := and2 h16
    obtain ⟨h19, h20⟩ := and2 h18
    have e1 : s = (np, ks, pm) := by
      obtain ⟨s1, s2, s3⟩ := s
      have z1 : s1 = np := of_decide_eq_true h17
      have z2 : s2 = ks := of_decide_eq_true h19
      have z3 : s3 = pm := deqAgs_ok h20
      rw [z1, z2, z3]
    rw [e1] at hs
    obtain ⟨e1, e2, rfl, r1, r2⟩ := soundA es F h15
    obtain ⟨p1, p2, p3⟩ := r1.pa
    obtain ⟨k1, k2⟩ := r2.pk
    have hl : xs.length = np := of_decide_eq_true h12
    obtain ⟨p, p', rfl⟩ := isCall_ok hq
    exact c_own (F.fns f n (of_decide_eq_true h4)) (F.rm h2).1 (gl_ok F.sr h6) (plainN_ok h8).1 F.tk hs hl (p3.trans hl) (k2.trans (kw_len h14)) p1 p2 k1 h14
  | .blt bf es, X, sc, xa, wx, F, x, h => by
    rw [okE] at h
    obtain ⟨⟨n, xs, kws⟩, hq, h1⟩ := optB_ok h
    obtain ⟨h2, h3⟩ := and2 h1
    have ek : kws = [] := empty_ok h2
    subst ek
    by_cases hp : bltPlain bf = true
    · rw [if_pos hp] at h3
      obtain ⟨h4, h5⟩ := and2 h3
      obtain ⟨h6, h7⟩ := and2 h5
      obtain ⟨h8, h9⟩ := and2 h7
      obtain ⟨h10, h11⟩ := and2 h9
      have en : n = bltN bf := of_decide_eq_true h6
      subst en
      obtain ⟨p1, p2, p3⟩ := (row_nil (soundA es F h11)).pa
      obtain ⟨p, p', rfl⟩ := isCall_ok hq
      cases xs with
      | nil => cases h10
      | cons y ys => exact c_call hp (F.ca h4) (blt_bi F bf hp h8) p2 p1
    · rw [if_neg hp] at h3
      obtain ⟨h4, h5⟩ := and2 h3
      obtain ⟨h6, h7⟩ := and2 h5
      obtain ⟨⟨y, z⟩, hu, h8⟩ := optB_ok h7
      obtain ⟨h9, h10⟩ := and2 h8
      have en : n = ("isinstance" : Str) := of_decide_eq_true h4
      subst en
      have exs : xs = [y, z] := pair1_ok hu
      subst exs
      have bi := F.bi (v := .builtin "isinstance") h6 (by decide +kernel) (by decide) (by decide)
      have r := row_nil (soundA es F h10)
      obtain ⟨p, p', rfl⟩ := isCall_ok hq
      cases r with
      | cons n1 n2 n3 =>
        cases n3
        have one : ∀ {s : Str} {tn : String}, bltB T sc s = true → bootBuiltins s = some (.type tn) → s ≠ "__name__" → (s == ("__debug__" : Str)) = false → Bi X s (.type tn) := fun hb hv a1 a2 => F.bi hb hv a1 a2
        cases bf with
        | isint =>
          obtain ⟨g1, g2⟩ := and2 (show (isTyN "int" z && bltB T sc "int") = true from h9)
          obtain ⟨m, hm, g3⟩ := optB_ok g1
          have em : m = ("int" : Str) := of_decide_eq_true g3
          subst em
          obtain ⟨p2, rfl⟩ := isName_ok hm
          exact c_isi (.inl rfl) bi (one g2 (by decide +kernel) (by decide) (by decide)) n1 n2
        | isbool =>
          obtain ⟨g1, g2⟩ := and2 (show (isTyN "bool" z && bltB T sc "bool") = true from h9)
          obtain ⟨m, hm, g3⟩ := optB_ok g1
          have em : m = ("bool" : Str) := of_decide_eq_true g3
          subst em
          obtain ⟨p2, rfl⟩ := isName_ok hm
          exact c_isi (.inr (.inl rfl)) bi (one g2 (by decide +kernel) (by decide) (by decide)) n1 n2
        | isstr =>
          obtain ⟨g1, g2⟩ := and2 (show (isTyN "str" z && bltB T sc "str") = true from h9)
          obtain ⟨m, hm, g3⟩ := optB_ok g1
          have em : m = ("str" : Str) := of_decide_eq_true g3
          subst em
          obtain ⟨p2, rfl⟩ := isName_ok hm
          exact c_isi (.inr (.inr rfl)) bi (one g2 (by decide +kernel) (by decide) (by decide)) n1 n2
        | isseq =>
          obtain ⟨g1, g2⟩ := and2 (show (isSeqT z && (bltB T sc "list" && bltB T sc "tuple")) = true from h9)
          obtain ⟨g4, g5⟩ := and2 g2
          unfold isSeqT at g1
          split at g1
          · obtain ⟨g6, g7⟩ := and2 g1
            obtain ⟨m, hm, g8⟩ := optB_ok g6
            obtain ⟨m', hm', g9⟩ := optB_ok g7
            have em : m = ("list" : Str) := of_decide_eq_true g8
            have em' : m' = ("tuple" : Str) := of_decide_eq_true g9
            subst em em'
            obtain ⟨p2, rfl⟩ := isName_ok hm
            obtain ⟨p3, rfl⟩ := isName_ok hm'
            exact c_isiSeq bi (one g4 (by decide +kernel) (by decide) (by decide)) (one g5 (by decide +kernel) (by decide) (by decide)) n1 n2
          · cases g1
        | _ => cases h9
  | .pop a, X, sc, xa, wx, F, x, h => by
    rw [okE] at h
    obtain ⟨⟨o, m, as⟩, hq, h1⟩ := optB_ok h
    obtain ⟨h2, h3⟩ := and2 h1
    obtain ⟨h4, h5⟩ := and2 h3
    obtain ⟨h6, h7⟩ := and2 h5
    have em : m = ("pop" : Str) := of_decide_eq_true h2
    have ea : as = [] := empty_ok h4
    subst em ea
    obtain ⟨ap, p, rfl, hl⟩ := isMeth_ok hq
    exact c_pop hl h6 (soundE a F h7)
  | .popi a d, X, sc, xa, wx, F, x, h => by
    rw [okE] at h
    obtain ⟨⟨o, m, as⟩, hq, h1⟩ := optB_ok h
    obtain ⟨h2, h3⟩ := and2 h1
    obtain ⟨h4, h5⟩ := and2 h3
    obtain ⟨h6, h7⟩ := and2 h5
    obtain ⟨y, hy, h8⟩ := optB_ok h7
    obtain ⟨h9, h10⟩ := and2 h8
    have em : m = ("pop" : Str) := of_decide_eq_true h2
    have ea : as = [y] := two1_ok hy
    subst em ea
    obtain ⟨ap, p, rfl, hl⟩ := isMeth_ok hq
    exact c_popi hl h4 h9 (soundE a F h6) (soundE d F h10)
  | .app a d, X, sc, xa, wx, F, x, h => by
    rw [okE] at h
    obtain ⟨⟨o, m, as⟩, hq, h1⟩ := optB_ok h
    obtain ⟨h2, h3⟩ := and2 h1
    obtain ⟨h4, h5⟩ := and2 h3
    obtain ⟨h6, h7⟩ := and2 h5
    obtain ⟨y, hy, h8⟩ := optB_ok h7
    obtain ⟨h9, h10⟩ := and2 h8
    have em : m = ("append" : Str) := of_decide_eq_true h2
    have ea : as = [y] := two1_ok hy
    subst em ea
    obtain ⟨ap, p, rfl, hl⟩ := isMeth_ok hq
    exact c_app hl h4 h9 (soundE a F h6) (soundE d F h10)
  | .exat i ks n, X, sc, xa, wx, F, x, h => by
    rw [okE] at h
    obtain ⟨⟨o, m⟩, hq, h1⟩ := optB_ok h
    obtain ⟨y, hy, h2⟩ := optB_ok h1
    obtain ⟨h3, h4⟩ := and2 h2
    obtain ⟨h5, h6⟩ := and2 h4
    obtain ⟨h7, h8⟩ := and2 h6
    obtain ⟨h9, h10⟩ := and2 h8
    have em : m = n := of_decide_eq_true h9
    subst em
    obtain ⟨d1, d2⟩ := plainN_ok h7
    obtain ⟨p, rfl⟩ := isAttr_ok hq
    dsimp only at hy
    obtain ⟨p', rfl⟩ := isName_ok hy
    exact F.xr i ks m y p' p (of_decide_eq_true h3) h5 d1 d2 h10
  | .mkx k pn nm e, X, sc, xa, wx, F, x, h => by
    rw [okE] at h
    obtain ⟨⟨n, q, y, m⟩, hq, h1⟩ := optB_ok h
    obtain ⟨h2, h3⟩ := and2 h1
    obtain ⟨h4, h5⟩ := and2 h3
    obtain ⟨h6, h7⟩ := and2 h5
    obtain ⟨h8, h9⟩ := and2 h7
    obtain ⟨h10, h11⟩ := and2 h9
    obtain ⟨h12, h13⟩ := and2 h11
    obtain ⟨h14, h15⟩ := and2 h13
    obtain ⟨h16, h17⟩ := and2 h15
    obtain ⟨h18, h19⟩ := and2 h17
    have e1 : q = pn := of_decide_eq_true h14
    have e2 : m = nm := of_decide_eq_true h16
    subst e1 e2
    obtain ⟨C, nm', hC, g1, M, V⟩ := F.gr.mkx k n (of_decide_eq_true h6) (of_decide_eq_true h4) ((Bool.or_eq_true_iff.mp h8).imp of_decide_eq_true of_decide_eq_true)
    have e3 : nm' = m := Option.some.inj (g1.symm.trans (of_decide_eq_true h10))
    subst e3
    obtain ⟨r1, r2⟩ := F.rm h2
    obtain ⟨p, kp, pos, pos2, rfl⟩ := isMkx_ok hq
    exact c_mkx (F.ca h2) (r1.mono r2) (V q (of_decide_eq_true h12)) (gl_ok F.sr h18) (soundE e F h19)
theorem soundT : ∀ (t : Pf.T) {X : L2.Cx} {sc : Scope} {xa : Option (Addr × Option Addr × Addr)} {wx : WX} (F : Fx X T N sc b cls ca xa c wx kk) {x : Expr}, okT T N b t sc x = true → PT X x (tT (gX X cls) xa c wx t) ∧ (isW t = true → PW X x (tT (gX X cls) xa c wx t))
  | .vv a, X, sc, xa, wx, F, x, h => by
    rw [okT] at h
    obtain ⟨h1, h2⟩ := and2 h
    exact ⟨t_vv h1 (soundE a F h2), fun z => nomatch z⟩
  | .cmp op a d, X, sc, xa, wx, F, x, h => by
    rw [okT] at h
    obtain ⟨⟨y, o, z⟩, hq, h1⟩ := optB_ok h
    obtain ⟨h2, h3⟩ := and2 h1
    obtain ⟨h4, h5⟩ := and2 h3
    obtain ⟨h6, h7⟩ := and2 h5
    have e1 : o = copOf op := of_decide_eq_true h2
    obtain ⟨p, rfl⟩ := isCmp_ok hq
    dsimp only
    rw [e1]
    exact ⟨t_cmp F.un h4 (soundE a F h6) (soundE d F h7), fun z => nomatch z⟩
  | .chn op op' a d e, X, sc, xa, wx, F, x, h => by
    rw [okT] at h
    obtain ⟨⟨y, o, o', z, u⟩, hq, h1⟩ := optB_ok h
    obtain ⟨h2, h3⟩ := and2 h1
    obtain ⟨h4, h5⟩ := and2 h3
    obtain ⟨h6, h7⟩ := and2 h5
    obtain ⟨h8, h9⟩ := and2 h7
    obtain ⟨h10, h11⟩ := and2 h9
    have e1 : o = copOf op := of_decide_eq_true h2
    have e2 : o' = copOf op' := of_decide_eq_true h4
    obtain ⟨p, rfl⟩ := isChn_ok hq
    dsimp only
    rw [e1, e2]
    exact ⟨t_chn F.un h6 (soundE a F h8) (soundE d F h10) (soundE e F h11), fun z => nomatch z⟩
  | .nott a, X, sc, xa, wx, F, x, h => by
    rw [okT] at h
    obtain ⟨y, hy, h1⟩ := optB_ok h
    obtain ⟨p, rfl⟩ := isNot_ok hy
    exact ⟨t_not (soundT a F h1).1, fun z => nomatch z⟩
  | .andd a d, X, sc, xa, wx, F, x, h => by
    rw [okT] at h
    obtain ⟨⟨o, y, z⟩, hq, h1⟩ := optB_ok h
    obtain ⟨h2, h3⟩ := and2 h1
    obtain ⟨h4, h5⟩ := and2 h3
    obtain ⟨h6, h7⟩ := and2 h5
    have e1 : o = .And := of_decide_eq_true h2
    rw [e1] at hq
    obtain ⟨u, r, p, rfl, e2⟩ := isBool2_ok hq
    have e2 : z = .BoolOp .And (u :: r) p := e2
    rw [e2] at h7
    have g := t_and (soundT a F h4).1 ((soundT d F h7).2 h6)
    exact ⟨g.pt, fun _ => g⟩
  | .orr a d, X, sc, xa, wx, F, x, h => by
    rw [okT] at h
    obtain ⟨⟨o, y, z⟩, hq, h1⟩ := optB_ok h
    obtain ⟨h2, h3⟩ := and2 h1
    obtain ⟨h4, h5⟩ := and2 h3
    obtain ⟨h6, h7⟩ := and2 h5
    have e1 : o = .Or := of_decide_eq_true h2
    rw [e1] at hq
    obtain ⟨u, r, p, rfl, e2⟩ := isBool2_ok hq
    have e2 : z = .BoolOp .Or (u :: r) p := e2
    rw [e2] at h7
    have g := t_or (soundT a F h4).1 ((soundT d F h7).2 h6)
    exact ⟨g.pt, fun _ => g⟩
  | .one a, X, sc, xa, wx, F, x, h => by
    rw [okT] at h
    obtain ⟨y, hy, h1⟩ := optB_ok h
    obtain ⟨o, p, rfl⟩ := isBool1_ok hy
    have g := t_one (o := o) (pos := p) (soundT a F h1).1
    exact ⟨g.pt, fun _ => g⟩
theorem soundL : ∀ (l : Pf.L) {X : L2.Cx} {sc : Scope} {xa : Option (Addr × Option Addr × Addr)} {wx : WX} (F : Fx X T N sc b cls ca xa c wx kk) {x : Expr}, okL T N b l sc x = true → PE X x (tL (gX X cls) xa c wx l)
  | .disp es, X, sc, xa, wx, F, x, h => by
    rw [okL] at h
    obtain ⟨xs, hq, h1⟩ := optB_ok h
    obtain ⟨h2, h3⟩ := and2 h1
    obtain ⟨p, rfl⟩ := isLst_ok hq
    exact l_disp (of_decide_eq_true h2) (row_nil (soundA es F h3)).pa.1
  | .lc vs tg it ts e, X, sc, xa, wx, F, x, h => by
    rw [okL] at h
    obtain ⟨⟨elt, tgE, iter, ifs, scope⟩, hq, h1⟩ := optB_ok h
    obtain ⟨h2, h3⟩ := and2 h1
    obtain ⟨h4, h5⟩ := and2 h3
    obtain ⟨h6, h7⟩ := and2 h5
    obtain ⟨h8, h9⟩ := and2 h7
    obtain ⟨h10, h11⟩ := and2 h9
    obtain ⟨h12, h13⟩ := and2 h11
    obtain ⟨h14, h15⟩ := and2 h13
    obtain ⟨h16, h17⟩ := and2 h15
    have ok := blk_ok F.sr h8
    have hg : ∀ (s : Shared) (H : Hp) (C : Addr) (cl : List (Str × Addr)) (fp : List Addr), PG (X.blk s H scope (compEnvC scope cl C X.env) fp) tgE (gTg X.K tg) := fun s H C cl fp => tg_pg (Y := X.blk s H scope (compEnvC scope cl C X.env) fp) F.nN F.nd (blk_sc ok.kind) (F.blk h2 ok.kind s H C cl fp).fc (F.ca h2) h14
    have ht : ∀ (s : Shared) (H : Hp) (C : Addr) (cl : List (Str × Addr)) (fp : List Addr), PTs (X.blk s H scope (compEnvC scope cl C X.env) fp) ifs (tTs (gX X cls) xa c (fun _ _ _ _ => False) ts) := fun s H C cl fp => soundTs ts (F.blk h2 ok.kind s H C cl fp) h16
    have he : ∀ (s : Shared) (H : Hp) (C : Addr) (cl : List (Str × Addr)) (fp : List Addr), PE (X.blk s H scope (compEnvC scope cl C X.env) fp) elt (tE (gX X cls) xa c (fun _ _ _ _ => False) e) := fun s H C cl fp => soundE e (F.blk h2 ok.kind s H C cl fp) h17
    have hi := soundI it tg F h6
    have ok' : BlkOk X.N X.env.scope scope (ownOf N vs) := by
      rw [F.nN]
      exact ok
    obtain ⟨p, rfl⟩ := isLc_ok hq
    exact l_lc (F.ca h2) (by rw [F.nN]; exact F.nd) hi ok' (of_decide_eq_true h10) (fun i hi => of_decide_eq_true (List.all_eq_true.mp h12 i hi)) hg ht he h4
  | .lc2 .., X, sc, xa, wx, F, x, h => by
    rw [okL] at h
    cases h
  | .ofs a, X, sc, xa, wx, F, x, h => by
    rw [okL] at h
    obtain ⟨⟨n, xs, kws⟩, hq, h1⟩ := optB_ok h
    obtain ⟨h2, h3⟩ := and2 h1
    obtain ⟨h4, h5⟩ := and2 h3
    obtain ⟨h6, h7⟩ := and2 h5
    obtain ⟨y, hy, h8⟩ := optB_ok h7
    obtain ⟨h9, h10⟩ := and2 h8
    have en : n = ("list" : Str) := of_decide_eq_true h2
    have ek : kws = [] := empty_ok h6
    have ex : xs = [y] := two1_ok hy
    subst en ek ex
    obtain ⟨p, p', rfl⟩ := isCall_ok hq
    exact l_ofs (F.bi h4 (by decide +kernel) (by decide) (by decide)) h9 (soundE a F h10)
  | .slc a lo hi, X, sc, xa, wx, F, x, h => by
    rw [okL] at h
    obtain ⟨⟨y, l, u⟩, hq, h1⟩ := optB_ok h
    obtain ⟨h2, h3⟩ := and2 h1
    obtain ⟨h4, h5⟩ := and2 h3
    obtain ⟨p, p', rfl⟩ := isSlc_ok hq
    exact l_slc (soundE a F h2) (soundO lo F h4) (soundO hi F h5)
  | .rev a, X, sc, xa, wx, F, x, h => by
    rw [okL] at h
    obtain ⟨y, hq, h1⟩ := optB_ok h
    obtain ⟨k, p1, p2, p3, p, rfl⟩ := isRev_ok hq
    exact l_rev (soundE a F h1)
  | .cat a d, X, sc, xa, wx, F, x, h => by
    rw [okL] at h
    obtain ⟨⟨y, o, z⟩, hq, h1⟩ := optB_ok h
    obtain ⟨h2, h3⟩ := and2 h1
    obtain ⟨h4, h5⟩ := and2 h3
    have e1 : o = .Add := of_decide_eq_true h2
    subst e1
    obtain ⟨p, rfl⟩ := isBin_ok hq
    exact l_cat (soundE a F h4) (soundE d F h5)
  | .rep a d, X, sc, xa, wx, F, x, h => by
    rw [okL] at h
    obtain ⟨⟨y, o, z⟩, hq, h1⟩ := optB_ok h
    obtain ⟨h2, h3⟩ := and2 h1
    obtain ⟨h4, h5⟩ := and2 h3
    have e1 : o = .Mult := of_decide_eq_true h2
    subst e1
    obtain ⟨p, rfl⟩ := isBin_ok hq
    exact l_rep (soundE a F h4) (soundE d F h5)
  | .srt a, X, sc, xa, wx, F, x, h => by
    rw [okL] at h
    obtain ⟨⟨n, xs, kws⟩, hq, h1⟩ := optB_ok h
    obtain ⟨h2, h3⟩ := and2 h1
    obtain ⟨h4, h5⟩ := and2 h3
    obtain ⟨h6, h7⟩ := and2 h5
    obtain ⟨y, hy, h8⟩ := optB_ok h7
    obtain ⟨h9, h10⟩ := and2 h8
    have en : n = ("sorted" : Str) := of_decide_eq_true h2
    have ek : kws = [] := empty_ok h6
    have ex : xs = [y] := two1_ok hy
    subst en ek ex
    obtain ⟨p, p', rfl⟩ := isCall_ok hq
    exact l_srt (F.bi h4 (by decide +kernel) (by decide) (by decide)) h9 (soundE a F h10)
theorem soundI : ∀ (it : Pf.I) (tg : List Nat) {X : L2.Cx} {sc : Scope} {xa : Option (Addr × Option Addr × Addr)} {wx : WX} (F : Fx X T N sc b cls ca xa c wx kk) {x t : Expr}, okI T N b tg it sc x t = true → PI X t x (tI (gX X cls) xa c wx tg it)
  | .seq a, tg, X, sc, xa, wx, F, x, t, h => by
    rw [okI] at h
    exact i_seq (soundE a F h)
  | .rng1 a, tg, X, sc, xa, wx, F, x, t, h => by
    rw [okI] at h
    obtain ⟨⟨n, xs, kws⟩, hq, h1⟩ := optB_ok h
    obtain ⟨h2, h3⟩ := and2 h1
    obtain ⟨h4, h5⟩ := and2 h3
    obtain ⟨h6, h7⟩ := and2 h5
    obtain ⟨y, hy, h8⟩ := optB_ok h7
    obtain ⟨h9, h10⟩ := and2 h8
    have en : n = ("range" : Str) := of_decide_eq_true h2
    have ek : kws = [] := empty_ok h6
    have ex : xs = [y] := two1_ok hy
    subst en ek ex
    obtain ⟨p, p', rfl⟩ := isCall_ok hq
    exact i_rng1 (F.bi h4 (by decide +kernel) (by decide) (by decide)) h9 (soundE a F h10)
  | .enu a, tg, X, sc, xa, wx, F, x, t, h => by
    rw [okI] at h
    obtain ⟨ht, h⟩ := and2 h
    obtain ⟨tt, htt⟩ := Option.isSome_iff_exists.mp ht
    obtain ⟨⟨n, xs, kws⟩, hq, h1⟩ := optB_ok h
    obtain ⟨h2, h3⟩ := and2 h1
    obtain ⟨h4, h5⟩ := and2 h3
    obtain ⟨h6, h7⟩ := and2 h5
    obtain ⟨y, hy, h8⟩ := optB_ok h7
    obtain ⟨h9, h10⟩ := and2 h8
    have en : n = ("enumerate" : Str) := of_decide_eq_true h2
    have ek : kws = [] := empty_ok h6
    have ex : xs = [y] := two1_ok hy
    subst en ek ex
    obtain ⟨p, p', rfl⟩ := isCall_ok hq
    obtain ⟨k, p2, rfl⟩ := isTup_ok htt
    exact i_enu (F.bi h4 (by decide +kernel) (by decide) (by decide)) h9 (soundE a F h10)
  | .rng2 a d, tg, X, sc, xa, wx, F, x, t, h => by
    rw [okI] at h
    obtain ⟨⟨n, xs, kws⟩, hq, h1⟩ := optB_ok h
    obtain ⟨h2, h3⟩ := and2 h1
    obtain ⟨h4, h5⟩ := and2 h3
    obtain ⟨h6, h7⟩ := and2 h5
    obtain ⟨⟨y, z⟩, hy, h8⟩ := optB_ok h7
    obtain ⟨h9, h10⟩ := and2 h8
    obtain ⟨h11, h12⟩ := and2 h10
    obtain ⟨h13, h14⟩ := and2 h12
    have en : n = ("range" : Str) := of_decide_eq_true h2
    have ek : kws = [] := empty_ok h6
    have ex : xs = [y, z] := pair1_ok hy
    subst en ek ex
    obtain ⟨p, p', rfl⟩ := isCall_ok hq
    exact i_rng2 (F.bi h4 (by decide +kernel) (by decide) (by decide)) h9 h11 (soundE a F h13) (soundE d F h14)
  | .zp a d, tg, X, sc, xa, wx, F, x, t, h => by
    rw [okI] at h
    obtain ⟨ht, h⟩ := and2 h
    obtain ⟨tt, htt⟩ := Option.isSome_iff_exists.mp ht
    obtain ⟨⟨n, xs, kws⟩, hq, h1⟩ := optB_ok h
    obtain ⟨h2, h3⟩ := and2 h1
    obtain ⟨h4, h5⟩ := and2 h3
    obtain ⟨h6, h7⟩ := and2 h5
    obtain ⟨⟨y, z⟩, hy, h8⟩ := optB_ok h7
    obtain ⟨h9, h10⟩ := and2 h8
    obtain ⟨h11, h12⟩ := and2 h10
    obtain ⟨h13, h14⟩ := and2 h12
    have en : n = ("zip" : Str) := of_decide_eq_true h2
    have ek : kws = [] := empty_ok h6
    have ex : xs = [y, z] := pair1_ok hy
    subst en ek ex
    obtain ⟨p, p', rfl⟩ := isCall_ok hq
    obtain ⟨k, p2, rfl⟩ := isTup_ok htt
    exact i_zp (F.bi h4 (by decide +kernel) (by decide) (by decide)) h9 h11 (soundE a F h13) (soundE d F h14)
theorem soundA : ∀ (es : Es) {X : L2.Cx} {sc : Scope} {xa : Option (Addr × Option Addr × Addr)} {wx : WX} (F : Fx X T N sc b cls ca xa c wx kk) {xs : List Expr} {ks : List Keyword}, okA T N b es sc xs ks = true → ∃ e1 e2, es = esApp e1 e2 ∧ EsR X cls xa c wx e1 xs ∧ EsK X cls xa c wx e2 ks
  | .nil, X, sc, xa, wx, F, [], [], h => ⟨.nil, .nil, rfl, .nil, .nil⟩
  | .nil, X, sc, xa, wx, F, _ :: _, ks, h => by
    rw [okA] at h
    · cases h
    all_goals (intros; first | contradiction | simp_all)
  | .nil, X, sc, xa, wx, F, [], _ :: _, h => by
    rw [okA] at h
    · cases h
    all_goals (intros; first | contradiction | simp_all)
  | .cons e es, X, sc, xa, wx, F, x :: xs, ks, h => by
    rw [okA] at h
    obtain ⟨h1, h2⟩ := and2 h
    obtain ⟨h3, h4⟩ := and2 h2
    obtain ⟨e1, e2, rfl, r1, r2⟩ := soundA es F h4
    exact ⟨.cons e e1, e2, rfl, .cons h1 (soundE e F h3) r1, r2⟩
  | .cons e es, X, sc, xa, wx, F, [], k :: ks, h => by
    rw [okA] at h
    obtain ⟨h3, h4⟩ := and2 h
    obtain ⟨e1, e2, rfl, r1, r2⟩ := soundA es F h4
    cases r1
    exact ⟨.nil, .cons e e2, rfl, .nil, .cons (soundE e F h3) r2⟩
  | .cons e es, X, sc, xa, wx, F, [], [], h => by
    rw [okA] at h
    · cases h
    all_goals (intros; first | contradiction | simp_all)
theorem soundTs : ∀ (ts : Ts) {X : L2.Cx} {sc : Scope} {xa : Option (Addr × Option Addr × Addr)} {wx : WX} (F : Fx X T N sc b cls ca xa c wx kk) {xs : List Expr}, okTs T N b ts sc xs = true → PTs X xs (tTs (gX X cls) xa c wx ts)
  | .yes, X, sc, xa, wx, F, xs, h => by
    rw [okTs] at h
    have e := empty_ok h
    subst e
    exact ⟨fun pins s σ H Q I q => pts_nil.run pins s σ H Q I (by
      obtain ⟨env, st, Hb, Fr, m, S, E, P⟩ := q
      rw [evTs] at P
      exact P.now S)⟩
  | .one t, X, sc, xa, wx, F, xs, h => by
    rw [okTs] at h
    obtain ⟨y, hy, h1⟩ := optB_ok h
    have e := two1_ok hy
    subst e
    exact ⟨fun pins s σ H Q I q => (pts_one (soundT t F h1).1).run pins s σ H Q I (by
      obtain ⟨env, st, Hb, Fr, m, S, E, P⟩ := q
      rw [evTs] at P
      exact ⟨env, st, Hb, Fr, m, S, E, P⟩)⟩
theorem soundO : ∀ (o : O) {X : L2.Cx} {sc : Scope} {xa : Option (Addr × Option Addr × Addr)} {wx : WX} (F : Fx X T N sc b cls ca xa c wx kk) {x : Option Expr}, okO T N b o sc x = true → PO X x (tO (gX X cls) xa c wx o)
  | .none, X, sc, xa, wx, F, x, h => by
    rw [okO] at h
    have e : x = none := Option.isNone_iff_eq_none.mp h
    subst e
    exact o_none
  | .some e, X, sc, xa, wx, F, x, h => by
    rw [okO] at h
    obtain ⟨y, hy, h1⟩ := optB_ok h
    subst hy
    exact o_some (soundE e F h1)
end
end
end Pf
set_option Elab.async false
set_option linter.all false
set_option maxRecDepth 100000
set_option maxHeartbeats 4000000
/-! Pf, part P: statements that are checked keep the evaluator's word; whole defs. -/
namespace Pf
open PySem PySem.Spec PyProof.Rows L2

/-! ### the forms of a statement -/
def isPas : Stmt → Bool | .Pass _ => true | .Expr (.Constant (.str _) _ _) _ => true | _ => false
def isBrk : Stmt → Bool | .Break _ => true | _ => false
def isCnt : Stmt → Bool | .Continue _ => true | _ => false
def isRetN : Stmt → Bool | .Return none _ => true | _ => false
def isAsgN : Stmt → Option (Str × Pos × Expr) | .Assign [.Name n p] x _ => some (n, p, x) | _ => none
def isAsgT : Stmt → Option (List Expr × Expr) | .Assign [.Tuple ts _ _] x _ => some (ts, x) | _ => none
def isAsgS : Stmt → Option (Expr × Expr × Expr) | .Assign [.Subscript a b _] x _ => some (a, b, x) | _ => none
def isAugN : Stmt → Option (Str × Operator × Expr) | .AugAssign (.Name n _) o x _ => some (n, o, x) | _ => none
def isExS : Stmt → Option Expr | .Expr x _ => some x | _ => none
def isRetS : Stmt → Option Expr | .Return (some x) _ => some x | _ => none
def isIfS : Stmt → Option (Expr × List Stmt × List Stmt) | .If x a b _ => some (x, a, b) | _ => none
def isForS : Stmt → Option (Expr × Expr × List Stmt) | .For t i b [] _ => some (t, i, b) | _ => none
def isWhS : Stmt → Option (Expr × List Stmt) | .While x b [] _ => some (x, b) | _ => none
def isRaiS : Stmt → Option (Str × List Expr) | .Raise (some (.Call (.Name x _) xs [] _)) none _ => some (x, xs) | _ => none
def isTryS : Stmt → Option (List Stmt × List ExceptHandler) | .Try b hs [] [] _ => some (b, hs) | _ => none
def isHd : ExceptHandler → Option (Str × Option Str × List Stmt)
  | .ExceptHandler (some (.Name x _)) n b _ => some (x, n, b)
  | _ => none
section
variable {s : Stmt}
theorem isPas_ok (h : isPas s = true) : (∃ p, s = .Pass p) ∨ ∃ x j p q, s = .Expr (.Constant (.str x) j p) q := by
  unfold isPas at h; split at h <;> first | exact .inl ⟨_, rfl⟩ | exact .inr ⟨_, _, _, _, rfl⟩ | cases h
theorem isBrk_ok (h : isBrk s = true) : ∃ p, s = .Break p := by
  unfold isBrk at h; split at h <;> first | exact ⟨_, rfl⟩ | cases h
theorem isCnt_ok (h : isCnt s = true) : ∃ p, s = .Continue p := by
  unfold isCnt at h; split at h <;> first | exact ⟨_, rfl⟩ | cases h
theorem isRetN_ok (h : isRetN s = true) : ∃ p, s = .Return none p := by
  unfold isRetN at h; split at h <;> first | exact ⟨_, rfl⟩ | cases h
theorem isAsgN_ok {q : Str × Pos × Expr} (h : isAsgN s = some q) : ∃ pos, s = .Assign [.Name q.1 q.2.1] q.2.2 pos := by
  unfold isAsgN at h; split at h <;> first | (cases h; exact ⟨_, rfl⟩) | cases h
theorem isAsgT_ok {q : List Expr × Expr} (h : isAsgT s = some q) : ∃ k p pos, s = .Assign [.Tuple q.1 k p] q.2 pos := by
  unfold isAsgT at h; split at h <;> first | (cases h; exact ⟨_, _, _, rfl⟩) | cases h
theorem isAsgS_ok {q : Expr × Expr × Expr} (h : isAsgS s = some q) : ∃ p pos, s = .Assign [.Subscript q.1 q.2.1 p] q.2.2 pos := by
  unfold isAsgS at h; split at h <;> first | (cases h; exact ⟨_, _, rfl⟩) | cases h
theorem isAugN_ok {q : Str × Operator × Expr} (h : isAugN s = some q) : ∃ p pos, s = .AugAssign (.Name q.1 p) q.2.1 q.2.2 pos := by
  unfold isAugN at h; split at h <;> first | (cases h; exact ⟨_, _, rfl⟩) | cases h
theorem isExS_ok {q : Expr} (h : isExS s = some q) : ∃ pos, s = .Expr q pos := by
  unfold isExS at h; split at h <;> first | (cases h; exact ⟨_, rfl⟩) | cases h
theorem isRetS_ok {q : Expr} (h : isRetS s = some q) : ∃ pos, s = .Return (some q) pos := by
  unfold isRetS at h; split at h <;> first | (cases h; exact ⟨_, rfl⟩) | cases h
theorem isIfS_ok {q : Expr × List Stmt × List Stmt} (h : isIfS s = some q) : ∃ pos, s = .If q.1 q.2.1 q.2.2 pos := by
  unfold isIfS at h; split at h <;> first | (cases h; exact ⟨_, rfl⟩) | cases h
theorem isForS_ok {q : Expr × Expr × List Stmt} (h : isForS s = some q) : ∃ pos, s = .For q.1 q.2.1 q.2.2 [] pos := by
  unfold isForS at h; split at h <;> first | (cases h; exact ⟨_, rfl⟩) | cases h
theorem isWhS_ok {q : Expr × List Stmt} (h : isWhS s = some q) : ∃ pos, s = .While q.1 q.2 [] pos := by
  unfold isWhS at h; split at h <;> first | (cases h; exact ⟨_, rfl⟩) | cases h
theorem isRaiS_ok {q : Str × List Expr} (h : isRaiS s = some q) : ∃ p p2 pos, s = .Raise (some (.Call (.Name q.1 p) q.2 [] p2)) none pos := by
  unfold isRaiS at h; split at h <;> first | (cases h; exact ⟨_, _, _, rfl⟩) | cases h
theorem isTryS_ok {q : List Stmt × List ExceptHandler} (h : isTryS s = some q) : ∃ pos, s = .Try q.1 q.2 [] [] pos := by
  unfold isTryS at h; split at h <;> first | (cases h; exact ⟨_, rfl⟩) | cases h
theorem isHd_ok {s : ExceptHandler} {q : Str × Option Str × List Stmt} (h : isHd s = some q) : ∃ p pos, s = .ExceptHandler (some (.Name q.1 p)) q.2.1 q.2.2 pos := by
  unfold isHd at h; split at h <;> first | (cases h; exact ⟨_, _, rfl⟩) | cases h
end
def isLcE : E → Bool
  | .liv (.lc ..) => true
  | .frz (.lc ..) => true
  | _ => false
def lclB (sc : Scope) (x : Str) : Bool := decide (sc.names.lookup x = some .local)
/-- the swapped store of two or three names -/
def par23 (N : List Str) (sc : Scope) (is : List Nat) (names : List Str) : Bool :=
  match is, names with
  | [i, j], [x, y] => decide (N[i]? = some x) && (decide (N[j]? = some y) && (lclB sc x && (lclB sc y && decide (i ≠ j))))
  | [i, j, l], [x, y, z] => decide (N[i]? = some x) && (decide (N[j]? = some y) && (decide (N[l]? = some z) && (lclB sc x && (lclB sc y && (lclB sc z && (decide (i ≠ j) && (decide (i ≠ l) && decide (j ≠ l))))))))
  | _, _ => false
def nameB (N : List Str) (sc : Scope) (n : Option Str) (i : Option Nat) : Bool :=
  match n, i with
  | none, none => true
  | some n, some i => decide (N[i]? = some n) && lclB sc n
  | _, _ => false
mutual
def okS (T : Tb) (N : List Str) : S → Bool → Scope → Stmt → Bool
  | .pas, _, _, x => isPas x
  | .brk, _, _, x => isBrk x
  | .cnt, _, _, x => isCnt x
  | .retN, _, _, x => isRetN x
  | .asg i e, b, sc, x => optB (isAsgN x) fun q => decide (N[i]? = some q.1) && (locB sc q.1 && (okE T N b e sc q.2.2 && (notLc q.2.2 || optB (isLc q.2.2) fun u => !swapB sc u.2.2.2.2 q.1 q.2.1 q.2.2.pos || isLcE e)))
  | .par is es, b, sc, x => optB (isAsgT x) fun q => optB (isTup q.2) fun xs => b && (okNames N sc is q.1 && (decide (esLen es ≤ LIM) && (okA T N b es sc xs [] && (decide (xs.length = is.length) && match parSw sc q.1 xs with
      | some none => true
      | some (some names) => decide (q.1.filterMap isName = names) && par23 N sc is names
      | none => false))))
  | .unp is e, b, sc, x => optB (isAsgT x) fun q => (isTup q.2).isNone && (b && (okNames N sc is q.1 && okE T N b e sc q.2))
  | .seti a d e, b, sc, x => optB (isAsgS x) fun q => notSlice q.2.1 && (okE T N b a sc q.1 && (okE T N b d sc q.2.1 && okE T N b e sc q.2.2))
  | .aug i op e, b, sc, x => optB (isAugN x) fun q => decide (q.2.1 = opOf op) && (decide (op = .add ∨ op = .sub) && (decide (N[i]? = some q.1) && (locB sc q.1 && okE T N b e sc q.2.2)))
  | .ex e, b, sc, x => optB (isExS x) fun q => notLc q && okE T N b e sc q
  | .ret e, b, sc, x => optB (isRetS x) fun q => okE T N b e sc q
  | .ite t y z, b, sc, x => optB (isIfS x) fun q => okT T N b t sc q.1 && (okSs T N y b sc q.2.1 && okSs T N z b sc q.2.2)
  | .fo tg it y, b, sc, x => optB (isForS x) fun q => b && (notSet q.2.1 && (okI T N b tg it sc q.2.1 q.1 && (okTg N sc tg q.1 && okSs T N y b sc q.2.2)))
  | .wh t y, b, sc, x => optB (isWhS x) fun q => b && (okT T N b t sc q.1 && okSs T N y b sc q.2)
  | .rais k es, b, sc, x => optB (isRaiS x) fun q => b && (decide (k ≠ 0) && (decide (T.cs[k]? = some q.1) && (glB sc q.1 && (decide (q.2.length ≤ 1) && ((decide (T.xk[k]? = some 0) || (decide (T.xk[k]? = some 1) && !q.2.isEmpty)) && okA T N b es sc q.2 [])))))
  | .raisB k, b, sc, x => optB (isRaiS x) fun q => b && (decide (k ≠ 0) && (decide (T.cs[k]? = some q.1) && (decide (T.xk[k]? = some 2) && (glB sc q.1 && q.2.isEmpty))))
  | .tr y hs, b, sc, x => optB (isTryS x) fun q => b && (!q.2.isEmpty && (okSs T N y b sc q.1 && okHs T N hs sc q.2))
def okSs (T : Tb) (N : List Str) : Ss → Bool → Scope → List Stmt → Bool
  | .nil, _, _, xs => xs.isEmpty
  | .cons s ss, b, sc, x :: xs => okS T N s b sc x && okSs T N ss b sc xs
  | .cons _ _, _, _, [] => false
def okHs (T : Tb) (N : List Str) : Hs → Scope → List ExceptHandler → Bool
  | .nil, _, xs => xs.isEmpty
  | .cons h i y hs, sc, x :: xs => optB (isHd x) (fun q => decide (T.cs[h]? = some q.1) && (glB sc q.1 && (plainN q.1 && (nameB N sc q.2.1 i && (!q.2.2.isEmpty && okSs T N y false sc q.2.2))))) && okHs T N hs sc xs
  | .cons _ _ _ _, _, [] => false
end
/-- what a context of statements must have -/
structure Sx (X : L2.Cx) (T : Tb) (N : List Str) (sc : Scope) (b : Bool) (cls : Nat → Option (Addr × Str)) (ca : Nat → Option Addr) (xa : Option (Addr × Option Addr × Addr)) (c : Pf.Cx) (wx : WX) (kk : Nat) : Prop where
  fx : Fx X T N sc b cls ca xa c wx kk
  hp : b = true → PassesOwn (model X.prog X.w) X.A X.env X.xe
  hst : X.stack = X.env :: X.outer
  hf : X.env.frame = some X.env.locals
section
variable {X : L2.Cx} {T : Tb} {N : List Str} {sc : Scope} {b : Bool} {cls : Nat → Option (Addr × Str)} {ca : Nat → Option Addr} {xa : Option (Addr × Option Addr × Addr)} {c : Pf.Cx} {wx : WX} {kk : Nat}
theorem exat_no {Y : L2.Cx} {i : Nat} {ks : List Nat} {n x : Str} {p pos : Pos} {w0 : WX} : PE Y (.Attribute (.Name x p) n pos) (tE (gX Y cls) none c w0 (.exat i ks n)) :=
  ⟨fun pins s σ H Q I q => by
    obtain ⟨env, st, Hb, Fr, m, S, E, P⟩ := q
    rw [evE] at P
    obtain ⟨w, hw, q⟩ := P.ofO S
    unfold exatO at hw
    split at hw
    · rename_i k d he
      obtain ⟨v, _, a, od, C, h2, _⟩ := E.val i _ he
      cases h2
    · cases hw⟩
theorem Fx.tr (F : Fx X T N sc b cls ca xa c wx kk) {W : WX} {pn : List (Addr × Obj)} {xe : Value → Shared → Prop} (tk : Takes (X.tr pn xe) W) (hb : b = true) : Fx (X.tr pn xe) T N sc b cls ca xa c W kk where
  nN := F.nN
  nd := F.nd
  sr := F.sr
  fc := F.fc
  gr := F.gr
  un := F.un
  tk := tk
  ca := F.ca
  rm := F.rm
  nx := F.nx
  fns := F.fns
  xr := fun i ks n x p pos h1 h2 h3 h4 h5 => by
    have e := F.nx hb
    subst e
    exact exat_no
theorem Fx.suite (F : Fx X T N sc b cls ca xa c wx kk) {a : Addr} {o : Obj} {kl : Value} {d : Option Addr} {pn : List (Addr × Obj)} (hz : Zc kl d o) (hv : ∃ vs, o.data = .fields vs) : Fx (X.suite a ((a, o) :: pn)) T N sc false cls ca (xaOf a kl d) c (fun _ _ _ _ => False) kk where
  nN := F.nN
  nd := F.nd
  sr := F.sr
  fc := F.fc
  gr := F.gr
  un := F.un
  tk := takes_none5
  ca := fun z => nomatch z
  rm := fun z => nomatch z
  nx := fun z => nomatch z
  fns := F.fns
  xr := fun i ks n x p pos h1 h2 h3 h4 h5 => by
    refine c_exat hz hv (fun k C nm hk e => ?_) (by rw [F.nN]; exact h1) (vis_ok F.sr h2) h3 h4
    obtain ⟨z1, z2⟩ := and2 (List.all_eq_true.mp h5 k hk)
    obtain ⟨g1, g2, g3⟩ := F.gr.xn k C nm e (by simpa using z2)
    have e1 : nm = n := Option.some.inj (g1.symm.trans (of_decide_eq_true z1))
    subst e1
    exact ⟨rfl, g2, g3⟩
theorem Sx.tr (F : Sx X T N sc b cls ca xa c wx kk) {W : WX} {pn : List (Addr × Obj)} {xe : Value → Shared → Prop} (tk : Takes (X.tr pn xe) W) (hp : PassesOwn (model X.prog X.w) X.A X.env xe) (hb : b = true) : Sx (X.tr pn xe) T N sc b cls ca xa c W kk :=
  ⟨F.fx.tr tk hb, fun _ => hp, F.hst, F.hf⟩
theorem Sx.suite (F : Sx X T N sc b cls ca xa c wx kk) {a : Addr} {o : Obj} {kl : Value} {d : Option Addr} {pn : List (Addr × Obj)} (hz : Zc kl d o) (hv : ∃ vs, o.data = .fields vs) : Sx (X.suite a ((a, o) :: pn)) T N sc false cls ca (xaOf a kl d) c (fun _ _ _ _ => False) kk :=
  ⟨F.fx.suite hz hv, (fun z => nomatch z), F.hst, F.hf⟩
/-- a comprehension's parts -/
theorem lc_parts (F : Fx X T N sc b cls ca xa c wx kk) {vs tg : List Nat} {it : I} {ts : Ts} {e : Pf.E} {x : Expr} (h : okL T N b (.lc vs tg it ts e) sc x = true) : ∃ elt tgE iter ifs scope p, x = .ListComp elt [⟨tgE, iter, ifs, 0⟩] scope p ∧ X.calm = true ∧ notSet iter = true ∧ PI X tgE iter (tI (gX X cls) xa c wx tg it) ∧
    BlkOk X.N X.env.scope scope (ownOf N vs) ∧ (ownOf N vs).map (·.2) = vs ∧ (∀ i ∈ tg, i ∈ vs) ∧
    (∀ (s : Shared) (H : Hp) (C : Addr) (cl : List (Str × Addr)) (fp : List Addr), PG (X.blk s H scope (compEnvC scope cl C X.env) fp) tgE (gTg X.K tg)) ∧
    (∀ (s : Shared) (H : Hp) (C : Addr) (cl : List (Str × Addr)) (fp : List Addr), PTs (X.blk s H scope (compEnvC scope cl C X.env) fp) ifs (tTs (gX X cls) xa c (fun _ _ _ _ => False) ts)) ∧
    ∀ (s : Shared) (H : Hp) (C : Addr) (cl : List (Str × Addr)) (fp : List Addr), PE (X.blk s H scope (compEnvC scope cl C X.env) fp) elt (tE (gX X cls) xa c (fun _ _ _ _ => False) e) := by
  rw [okL] at h
  obtain ⟨⟨elt, tgE, iter, ifs, scope⟩, hq, h1⟩ := optB_ok h
  obtain ⟨h2, h3⟩ := and2 h1
  obtain ⟨h4, h5⟩ := and2 h3
  obtain ⟨h6, h7⟩ := and2 h5
  obtain ⟨h8, h9⟩ := and2 h7
  obtain ⟨h10, h11⟩ := and2 h9
  obtain ⟨h12, h13⟩ := and2 h11
  obtain ⟨h14, h15⟩ := and2 h13
  obtain ⟨h16, h17⟩ := and2 h15
  have ok := blk_ok F.sr h8
  obtain ⟨p, hx⟩ := isLc_ok hq
  refine ⟨elt, tgE, iter, ifs, scope, p, hx, F.ca h2, h4, soundI it tg F h6, by rw [F.nN]; exact ok, of_decide_eq_true h10, fun i hi => of_decide_eq_true (List.all_eq_true.mp h12 i hi), ?_, ?_, ?_⟩
  · exact fun s H C cl fp => tg_pg (Y := X.blk s H scope (compEnvC scope cl C X.env) fp) F.nN F.nd (blk_sc ok.kind) (F.blk h2 ok.kind s H C cl fp).fc (F.ca h2) h14
  · exact fun s H C cl fp => soundTs ts (F.blk h2 ok.kind s H C cl fp) h16
  · exact fun s H C cl fp => soundE e (F.blk h2 ok.kind s H C cl fp) h17
/-- name = [..], stored in the block -/
theorem s_asgLc (F : Fx X T N sc b cls ca xa c wx kk) {i : Nat} {e : Pf.E} {vs tg : List Nat} {it : I} {ts : Ts} {e' : Pf.E} {x : Expr} {n : Str} {p pos : Pos} (himp : ∀ {σ H Q}, tE (gX X cls) xa c wx e σ H Q → tL (gX X cls) xa c wx (.lc vs tg it ts e') σ H Q) (h : okL T N b (.lc vs tg it ts e') sc x = true)
    (hi : X.N[i]? = some n) (hl : X.env.scope.names.lookup n = some .local) (hs : ∀ m, swapsWith x (some (.Name n p)) m X.env = pure true) : PS X (.Assign [.Name n p] x pos) (tS (gX X cls) xa c wx (.asg i e)) := by
  obtain ⟨elt, tgE, iter, ifs, scope, p', rfl, hc, h4, hI, ok, hv, ht, g1, g2, g3⟩ := lc_parts F h
  refine ⟨fun pins s σ H D I q => (ps_setLc hc (by rw [F.nN]; exact F.nd) hi hl (hs _) hI ok g1 g2 g3 (set_folded h4)).run pins s σ H D I ?_⟩
  rw [hv]
  exact lc_imp ht (himp (asg_imp q))
end
section
variable {T : Tb} {N : List Str} {cls : Nat → Option (Addr × Str)} {ca : Nat → Option Addr} {c : Pf.Cx} {kk : Nat}
theorem filter_two {ts : List Expr} {is : List Nat} {X : L2.Cx} {names : List Str} (h : NamesR X is ts) (e : ts.filterMap isName = names) : ts.length = names.length ∧ ∀ (k : Nat) (x : Str), names[k]? = some x → ∃ p, ts[k]? = some (Expr.Name x p) := by
  subst e
  induction h with
  | nil => exact ⟨rfl, fun k x h => by simp at h⟩
  | cons h t ih =>
    obtain ⟨x, p, rfl, _⟩ := h
    obtain ⟨i2, i3⟩ := ih
    have e : ∀ l : List Expr, (Expr.Name x p :: l).filterMap isName = x :: l.filterMap isName := fun l => rfl
    rw [e]
    refine ⟨by rw [List.length_cons, List.length_cons, i2], fun k y hk => ?_⟩
    cases k with
    | zero =>
      have ey : x = y := by simpa using hk
      subst ey
      exact ⟨p, by simp⟩
    | succ k =>
      obtain ⟨p', hp⟩ := i3 k y (by simpa using hk)
      exact ⟨p', by simpa using hp⟩
mutual
theorem soundS : ∀ (s : S) {X : L2.Cx} {sc : Scope} {b : Bool} {xa : Option (Addr × Option Addr × Addr)} {wx : WX} (F : Sx X T N sc b cls ca xa c wx kk) {x : Stmt}, okS T N s b sc x = true → PS X x (tS (gX X cls) xa c wx s)
  | .pas, X, sc, b, xa, wx, F, x, h => by
    rw [okS] at h
    rcases isPas_ok h with ⟨p, rfl⟩ | ⟨y, j, p, q, rfl⟩
    · exact s_pas
    · exact s_doc
  | .brk, X, sc, b, xa, wx, F, x, h => by
    rw [okS] at h
    obtain ⟨p, rfl⟩ := isBrk_ok h
    exact s_brk
  | .cnt, X, sc, b, xa, wx, F, x, h => by
    rw [okS] at h
    obtain ⟨p, rfl⟩ := isCnt_ok h
    exact s_cnt
  | .retN, X, sc, b, xa, wx, F, x, h => by
    rw [okS] at h
    obtain ⟨p, rfl⟩ := isRetN_ok h
    exact s_retN
  | .asg i e, X, sc, b, xa, wx, F, x, h => by
    rw [okS] at h
    obtain ⟨⟨n, p, v⟩, hq, h1⟩ := optB_ok h
    obtain ⟨h2, h3⟩ := and2 h1
    obtain ⟨h4, h5⟩ := and2 h3
    obtain ⟨h6, h7⟩ := and2 h5
    have hi : X.N[i]? = some n := by
      rw [F.fx.nN]
      exact of_decide_eq_true h2
    have hN : X.N.Nodup := by
      rw [F.fx.nN]
      exact F.fx.nd
    have hv := soundE e F.fx h6
    have hst := loc_ok F.fx.sr F.fx.fc h4
    obtain ⟨pos, rfl⟩ := isAsgN_ok hq
    rcases Bool.or_eq_true_iff.mp h7 with h8 | h8
    · exact s_asg hN hi hst (swaps_no h8) hv
    · obtain ⟨⟨elt, tgE, iter, ifs, scope⟩, hu, h9⟩ := optB_ok h8
      obtain ⟨vp, ev⟩ := isLc_ok hu
      have ev : v = .ListComp elt [⟨tgE, iter, ifs, 0⟩] scope vp := ev
      have hsw : ∀ m, swapsWith v (some (.Name n p)) m X.env = pure (swapB sc scope n p v.pos) := fun m => by
        rw [ev]
        exact swaps_lc F.fx.sr
      cases hb : swapB sc scope n p v.pos with
      | false =>
        exact s_asg hN hi hst (by rw [hsw, hb]) hv
      | true =>
        have h9 : (!swapB sc scope n p v.pos || isLcE e) = true := h9
        rw [hb] at h9
        have hl : X.env.scope.names.lookup n = some .local := by
          have h10 : (sc.names.lookup n == some .local && p.line == v.pos.line && !(scope.names.any fun (n', k) => n' == n && (k == .local || k == .cell))) = true := hb
          exact local_ok F.fx.sr (eq_of_beq (and2 (and2 h10).1).1)
        have hsw2 : ∀ m, swapsWith v (some (.Name n p)) m X.env = pure true := fun m => by rw [hsw, hb]
        match e, h6, h9 with
        | .liv (.lc vs tg it ts e'), h6, _ =>
          rw [okE] at h6
          exact s_asgLc F.fx (fun q => liv_imp q) h6 hi hl hsw2
        | .frz (.lc vs tg it ts e'), h6, _ =>
          rw [okE] at h6
          exact s_asgLc F.fx (fun q => frz_imp q) h6 hi hl hsw2
  | .par is es, X, sc, b, xa, wx, F, x, h => by
    rw [okS] at h
    obtain ⟨⟨ts, v⟩, hq, h1⟩ := optB_ok h
    obtain ⟨xs, hv, h2⟩ := optB_ok h1
    obtain ⟨h3, h4⟩ := and2 h2
    obtain ⟨h5, h6⟩ := and2 h4
    obtain ⟨h7, h8⟩ := and2 h6
    obtain ⟨h9, h10⟩ := and2 h8
    obtain ⟨h11, h12⟩ := and2 h10
    have hN : X.N.Nodup := by
      rw [F.fx.nN]
      exact F.fx.nd
    have hc := F.fx.ca h3
    have names := names_ok2 F.fx h5
    have pa := (row_nil (soundA es F.fx h9)).pa.1
    have hlen : xs.length = is.length := of_decide_eq_true h11
    obtain ⟨k2, p2, ev⟩ := isTup_ok hv
    have ev : v = .Tuple xs k2 p2 := ev
    subst ev
    obtain ⟨k, p, pos, rfl⟩ := isAsgT_ok hq
    cases hsw : parSw sc ts xs with
    | none =>
      rw [hsw] at h12
      cases h12
    | some o =>
      have hst := stores_par (k := k) (p := p) (k2 := k2) (p2 := p2) F.fx.sr hsw
      cases o with
      | none => exact s_parT hc hN names (of_decide_eq_true h7) hst pa
      | some nm =>
        rw [hsw] at h12
        obtain ⟨h13, h14⟩ := and2 h12
        obtain ⟨l1, l2⟩ := filter_two names (of_decide_eq_true h13)
        have two : ∀ {i j : Nat} {y z : Str}, is = [i, j] → nm = [y, z] → ∃ a d py pz, xs = [a, d] ∧ ts = [.Name y py, .Name z pz] := fun {i j y z} ei en => by
          subst ei en
          match xs, hlen with
          | [a, d], _ =>
            match ts, l1, l2 with
            | [t1, t2], _, l2 =>
              obtain ⟨p1, q1⟩ := l2 0 y rfl
              obtain ⟨p2, q2⟩ := l2 1 z rfl
              have e1 : t1 = .Name y p1 := by simpa using q1
              have e2 : t2 = .Name z p2 := by simpa using q2
              exact ⟨a, d, p1, p2, rfl, by rw [e1, e2]⟩
        have three : ∀ {i j l : Nat} {y z u : Str}, is = [i, j, l] → nm = [y, z, u] → ∃ a d e py pz pu, xs = [a, d, e] ∧ ts = [.Name y py, .Name z pz, .Name u pu] := fun {i j l y z u} ei en => by
          subst ei en
          match xs, hlen with
          | [a, d, e], _ =>
            match ts, l1, l2 with
            | [t1, t2, t3], _, l2 =>
              obtain ⟨p1, q1⟩ := l2 0 y rfl
              obtain ⟨p2, q2⟩ := l2 1 z rfl
              obtain ⟨p3, q3⟩ := l2 2 u rfl
              have e1 : t1 = .Name y p1 := by simpa using q1
              have e2 : t2 = .Name z p2 := by simpa using q2
              have e3 : t3 = .Name u p3 := by simpa using q3
              exact ⟨a, d, e, p1, p2, p3, rfl, by rw [e1, e2, e3]⟩
        unfold par23 at h14
        split at h14
        · rename_i i j y z
          obtain ⟨g1, g2⟩ := and2 h14
          obtain ⟨g3, g4⟩ := and2 g2
          obtain ⟨g5, g6⟩ := and2 g4
          obtain ⟨g7, g8⟩ := and2 g6
          obtain ⟨a, d, py, pz, e1, e2⟩ := two rfl rfl
          subst e1 e2
          exact s_par2 hc hN (by rw [F.fx.nN]; exact of_decide_eq_true g1) (by rw [F.fx.nN]; exact of_decide_eq_true g3) (of_decide_eq_true g8) (local_ok F.fx.sr (of_decide_eq_true g5)) (local_ok F.fx.sr (of_decide_eq_true g7)) hst pa
        · rename_i i j l y z u
          obtain ⟨g1, g2⟩ := and2 h14
          obtain ⟨g3, g4⟩ := and2 g2
          obtain ⟨g5, g6⟩ := and2 g4
          obtain ⟨g7, g8⟩ := and2 g6
          obtain ⟨g9, g10⟩ := and2 g8
          obtain ⟨g11, g12⟩ := and2 g10
          obtain ⟨g13, g14⟩ := and2 g12
          obtain ⟨g15, g16⟩ := and2 g14
          obtain ⟨a, d, e, py, pz, pu, e1, e2⟩ := three rfl rfl
          subst e1 e2
          exact s_par3 hc hN (by rw [F.fx.nN]; exact of_decide_eq_true g1) (by rw [F.fx.nN]; exact of_decide_eq_true g3) (by rw [F.fx.nN]; exact of_decide_eq_true g5) (of_decide_eq_true g13) (of_decide_eq_true g15) (of_decide_eq_true g16)
            (local_ok F.fx.sr (of_decide_eq_true g7)) (local_ok F.fx.sr (of_decide_eq_true g9)) (local_ok F.fx.sr (of_decide_eq_true g11)) hst pa
        · cases h14
  | .unp is e, X, sc, b, xa, wx, F, x, h => by
    rw [okS] at h
    obtain ⟨⟨ts, v⟩, hq, h1⟩ := optB_ok h
    obtain ⟨h3, h4⟩ := and2 h1
    obtain ⟨h5, h6⟩ := and2 h4
    obtain ⟨h7, h8⟩ := and2 h6
    obtain ⟨k, p, pos, rfl⟩ := isAsgT_ok hq
    exact s_unp (F.fx.ca h5) (by rw [F.fx.nN]; exact F.fx.nd) (names_ok2 F.fx h7) (Option.isNone_iff_eq_none.mp h3) (soundE e F.fx h8)
  | .seti a d e, X, sc, b, xa, wx, F, x, h => by
    rw [okS] at h
    obtain ⟨⟨y, z, v⟩, hq, h1⟩ := optB_ok h
    obtain ⟨h3, h4⟩ := and2 h1
    obtain ⟨h5, h6⟩ := and2 h4
    obtain ⟨h7, h8⟩ := and2 h6
    obtain ⟨p, pos, rfl⟩ := isAsgS_ok hq
    exact s_seti h3 (soundE a F.fx h5) (soundE d F.fx h7) (soundE e F.fx h8)
  | .aug i op e, X, sc, b, xa, wx, F, x, h => by
    rw [okS] at h
    obtain ⟨⟨n, o, v⟩, hq, h1⟩ := optB_ok h
    obtain ⟨h3, h4⟩ := and2 h1
    obtain ⟨h5, h6⟩ := and2 h4
    obtain ⟨h7, h8⟩ := and2 h6
    obtain ⟨h9, h10⟩ := and2 h8
    have eo : o = opOf op := of_decide_eq_true h3
    subst eo
    obtain ⟨p, pos, rfl⟩ := isAugN_ok hq
    exact s_aug (of_decide_eq_true h5) (by rw [F.fx.nN]; exact F.fx.nd) (by rw [F.fx.nN]; exact of_decide_eq_true h7) (loc_ok F.fx.sr F.fx.fc h9) (soundE e F.fx h10)
  | .ex e, X, sc, b, xa, wx, F, x, h => by
    rw [okS] at h
    obtain ⟨v, hq, h1⟩ := optB_ok h
    obtain ⟨h3, h4⟩ := and2 h1
    obtain ⟨pos, rfl⟩ := isExS_ok hq
    exact s_ex h3 (soundE e F.fx h4)
  | .ret e, X, sc, b, xa, wx, F, x, h => by
    rw [okS] at h
    obtain ⟨v, hq, h1⟩ := optB_ok h
    obtain ⟨pos, rfl⟩ := isRetS_ok hq
    exact s_ret (soundE e F.fx h1)
  | .ite t y z, X, sc, b, xa, wx, F, x, h => by
    rw [okS] at h
    obtain ⟨⟨q, u, v⟩, hq, h1⟩ := optB_ok h
    obtain ⟨h3, h4⟩ := and2 h1
    obtain ⟨h5, h6⟩ := and2 h4
    obtain ⟨pos, rfl⟩ := isIfS_ok hq
    exact s_ite (soundT t F.fx h3).1 (soundSs y F h5) (soundSs z F h6)
  | .fo tg it y, X, sc, b, xa, wx, F, x, h => by
    rw [okS] at h
    obtain ⟨⟨t, i, u⟩, hq, h1⟩ := optB_ok h
    obtain ⟨h3, h4⟩ := and2 h1
    obtain ⟨h5, h6⟩ := and2 h4
    obtain ⟨h7, h8⟩ := and2 h6
    obtain ⟨h9, h10⟩ := and2 h8
    obtain ⟨pos, rfl⟩ := isForS_ok hq
    exact s_fo (F.hp h3) (F.fx.ca h3) (soundI it tg F.fx h7) (tg_pg F.fx.nN F.fx.nd F.fx.sr F.fx.fc (F.fx.ca h3) h9) (soundSs y F h10) h5
  | .wh t y, X, sc, b, xa, wx, F, x, h => by
    rw [okS] at h
    obtain ⟨⟨q, u⟩, hq, h1⟩ := optB_ok h
    obtain ⟨h3, h4⟩ := and2 h1
    obtain ⟨h5, h6⟩ := and2 h4
    obtain ⟨pos, rfl⟩ := isWhS_ok hq
    exact s_wh (F.hp h3) (soundT t F.fx h5).1 (soundSs y F h6)
  | .rais k es, X, sc, b, xa, wx, F, x, h => by
    rw [okS] at h
    obtain ⟨⟨n, xs⟩, hq, h1⟩ := optB_ok h
    obtain ⟨h3, h4⟩ := and2 h1
    obtain ⟨h5, h6⟩ := and2 h4
    obtain ⟨h7, h8⟩ := and2 h6
    obtain ⟨h9, h10⟩ := and2 h8
    obtain ⟨h11, h12'⟩ := and2 h10
    obtain ⟨h13, h12⟩ := and2 h12'
    have hk : (T.xk[k]? = some 0 ∨ T.xk[k]? = some 1) ∧ (decide (T.xk[k]? = some 0) = true ∨ xs ≠ []) := by
      rcases Bool.or_eq_true_iff.mp h13 with z | z
      · exact ⟨.inl (of_decide_eq_true z), .inl z⟩
      · obtain ⟨z1, z2⟩ := and2 z
        refine ⟨.inr (of_decide_eq_true z1), .inr fun e => ?_⟩
        dsimp only at z2
        rw [e] at z2
        cases z2
    obtain ⟨C, nm, hC, _, M, _⟩ := F.fx.gr.mkx k n (of_decide_eq_true h7) (of_decide_eq_true h5) hk.1
    obtain ⟨p1, p2, p3⟩ := (row_nil (soundA es F.fx h12)).pa
    obtain ⟨r1, r2⟩ := F.fx.rm h3
    obtain ⟨p, p', pos, rfl⟩ := isRaiS_ok hq
    exact s_rais hC (F.fx.ca h3) (r1.mono r2) F.fx.tk M (gl_ok F.fx.sr h9) (of_decide_eq_true h11) hk.2 p1 p2 p3
  | .raisB k, X, sc, b, xa, wx, F, x, h => by
    rw [okS] at h
    obtain ⟨⟨n, xs⟩, hq, h1⟩ := optB_ok h
    obtain ⟨h3, h4⟩ := and2 h1
    obtain ⟨h5, h6⟩ := and2 h4
    obtain ⟨h7, h8⟩ := and2 h6
    obtain ⟨h9, h10⟩ := and2 h8
    obtain ⟨h11, h12⟩ := and2 h10
    obtain ⟨C, nm, hC, M⟩ := F.fx.gr.mkb k n (of_decide_eq_true h7) (of_decide_eq_true h5) (of_decide_eq_true h9)
    obtain ⟨r1, r2⟩ := F.fx.rm h3
    obtain ⟨p, p', pos, rfl⟩ := isRaiS_ok hq
    have e := empty_ok h12
    dsimp only at e
    subst e
    exact s_raisB hC (F.fx.ca h3) (r1.mono r2) F.fx.tk M (gl_ok F.fx.sr h11)
  | .tr y hs, X, sc, b, xa, wx, F, x, h => by
    rw [okS] at h
    obtain ⟨⟨u, hds⟩, hq, h1⟩ := optB_ok h
    obtain ⟨h3, h4⟩ := and2 h1
    obtain ⟨h5, h6⟩ := and2 h4
    obtain ⟨h7, h8⟩ := and2 h6
    have e := F.fx.nx h3
    subst e
    obtain ⟨g1, g2⟩ := soundHs hs F h8
    obtain ⟨pos, rfl⟩ := isTryS_ok hq
    cases hds with
    | nil => cases h5
    | cons hd hds =>
      exact s_tr (by rw [F.fx.nN]; exact F.fx.nd) F.hst F.hf F.fx.tk F.fx.gr.cas (fun W pn xe tk hp => soundSs y (F.tr tk hp h3) h7) g1 g2
theorem soundSs : ∀ (ss : Ss) {X : L2.Cx} {sc : Scope} {b : Bool} {xa : Option (Addr × Option Addr × Addr)} {wx : WX} (F : Sx X T N sc b cls ca xa c wx kk) {xs : List Stmt}, okSs T N ss b sc xs = true → PSs X xs (tSs (gX X cls) xa c wx ss)
  | .nil, X, sc, b, xa, wx, F, xs, h => by
    rw [okSs] at h
    have e := empty_ok h
    subst e
    exact ss_nil
  | .cons s ss, X, sc, b, xa, wx, F, x :: xs, h => by
    rw [okSs] at h
    obtain ⟨h1, h2⟩ := and2 h
    exact ss_cons (soundS s F h1) (soundSs ss F h2)
  | .cons s ss, X, sc, b, xa, wx, F, [], h => by
    rw [okSs] at h
    cases h
theorem soundHs : ∀ (hs : Hs) {X : L2.Cx} {sc : Scope} {b : Bool} {xa : Option (Addr × Option Addr × Addr)} {wx : WX} (F : Sx X T N sc b cls ca xa c wx kk) {xs : List ExceptHandler}, okHs T N hs sc xs = true → hsCas ca hs ∧ ClsOk X xs (clsOf (gX X cls) c ca hs)
  | .nil, X, sc, b, xa, wx, F, xs, h => by
    rw [okHs] at h
    have e := empty_ok h
    subst e
    exact ⟨trivial, .nil⟩
  | .cons k i y hs, X, sc, b, xa, wx, F, [], h => by
    rw [okHs] at h
    cases h
  | .cons k i y hs, X, sc, b, xa, wx, F, x :: xs, h => by
    rw [okHs] at h
    obtain ⟨h1, h2⟩ := and2 h
    obtain ⟨⟨n, o, u⟩, hq, h3⟩ := optB_ok h1
    obtain ⟨h4, h5⟩ := and2 h3
    obtain ⟨h6, h7⟩ := and2 h5
    obtain ⟨h8, h9⟩ := and2 h7
    obtain ⟨h10, h11⟩ := and2 h9
    obtain ⟨h12, h13⟩ := and2 h11
    obtain ⟨g1, g2⟩ := soundHs hs F h2
    obtain ⟨C, e1, e2⟩ := F.fx.gr.cs k n (of_decide_eq_true h4)
    obtain ⟨p, pos, rfl⟩ := isHd_ok hq
    refine ⟨⟨⟨C, e1⟩, g1⟩, ?_⟩
    cases u with
    | nil => cases h12
    | cons b0 body =>
      refine ClsOk.cons (q := (match ca k with | some C => .ref C | none => .none, i, fun a cls' d => tSs (gX X cls) (xaOf a cls' d) c (fun _ _ _ _ => False) y)) ?_ ?_ (fun a o cls' d pn hz hv => soundSs y (F.suite hz hv) h13) g2
      · refine ⟨gl_ok F.fx.sr h6, (plainN_ok h8).1, .inl ?_⟩
        rw [e1]
        exact e2
      · show nameOk X o i
        match o, i, h10 with
        | none, none, _ => trivial
        | some n, some i, h10 =>
          obtain ⟨z1, z2⟩ := and2 (show (decide (N[i]? = some n) && lclB sc n) = true from h10)
          exact ⟨by rw [F.fx.nN]; exact of_decide_eq_true z1, local_ok F.fx.sr (of_decide_eq_true z2)⟩
end
end
end Pf
set_option Elab.async false
set_option linter.all false
set_option maxRecDepth 100000
set_option maxHeartbeats 4000000
/-! Pf, part Q: defs by levels of calls. -/
namespace Pf
open PySem PySem.Spec PyProof.Rows L2

/-- from a call's outcome to its suite's -/
theorem back_post {g : Gx} {E : XK} {Q : VK} {Fr Hb : Hp} {m : List Addr} {r : Rs} (P : Post g (fun cls d _ H' => E cls d H') [] Fr Hb m (backS r) fun w _ Hb' m' H' => ∀ v, RW g Hb' m' w v → Q v H') :
    PostS g none (fun cls d _ H' => E cls d H') { nx := fun _ H' => Q .non H', rt := Q } Fr Hb m r := by
  cases r with
  | nx env st => exact fun H' Hb' m' σ' S e p _ => P H' Hb' m' S e p .non RD.non
  | ret w st => exact fun H' Hb' m' S e p v rv => P H' Hb' m' S e p v rv
  | brk env st => exact P.elim
  | cnt env st => exact P.elim
  | exc k d env st => exact fun H' Hb' m' σ' C od S e p _ h1 => P H' Hb' m' C od S e p h1
  | stuck => exact P.elim
theorem start_re {g : Gx} {Hb : Hp} {m : List Addr} {N : List Str} {ws : List W} {vs : List V} (r : RWs g Hb m ws vs) : RE g none Hb m (startE N.length ws) (L2.start N vs) := by
  have hl := r.length
  refine ⟨?_, fun i w h => ?_⟩
  · unfold startE L2.start
    rw [List.length_append, List.length_append, List.length_map, List.length_map, List.length_replicate, List.length_replicate, hl]
  · unfold startE at h
    by_cases hi : i < ws.length
    · rw [List.getElem?_append_left (by rw [List.length_map]; exact hi), List.getElem?_map] at h
      obtain ⟨w', h1, h2⟩ := map_ok h
      have e : w = w' := Option.some.inj h2
      subst e
      obtain ⟨v, h3, h4⟩ := r.get h1
      refine ⟨v, ?_, .of h4⟩
      unfold L2.start
      rw [List.getElem?_append_left (by rw [List.length_map, ← hl]; exact hi), List.getElem?_map, h3]
      rfl
    · rw [List.getElem?_append_right (by rw [List.length_map]; omega), List.getElem?_replicate] at h
      split at h <;> cases h
/-- a def: what stands behind the top, and that its text is the code's -/
structure DefAt (K : PySem.W.Frag) (mg : Str → Option Value) (T : Tb) (tab : Nat → Option Fd) (f : Nat) (x : Str) (sh : List (Nat × List Str × List Ag)) : Prop where
  ex : ∃ (a : Addr) (fdv : FuncData) (fd : Fd) (N ps : List Str) (x' qual : Str) (params : Arguments) (body : List Stmt) (scope : Scope) (dvs : List V) (kws : List (Str × V)),
    tab f = some fd ∧ mg x = some (.ref a) ∧ FunD K x' qual params body scope dvs kws a fdv ∧ FnScope N ps scope ∧ okSs T N fd.body true scope body = true ∧ fd.n = N.length ∧ fd.ps = ps.length ∧ ∀ q ∈ sh, BindF K fdv ps q.1 q.2.1 q.2.2
section
variable {P : Program} {w : World} {K : PySem.W.Frag} {mg : Str → Option Value} {base : Heap} {cls : Nat → Option (Addr × Str)} {ca : Nat → Option Addr} {T : Tb} {tab : Nat → Option Fd} {turns : Nat}
theorem sp_zero {f : Nat} {vs : List V} {H : Hp} {Q : VK} {E : XK} (h : spF ⟨K, cls⟩ ⟨callF tab turns 0, turns⟩ f vs H Q E) : False := by
  obtain ⟨ws, st, Hb, Fr, m, S, r, P⟩ := h
  exact P
theorem sp_len {j f : Nat} {fd : Fd} (ht : tab f = some fd) {vs : List V} {H : Hp} {Q : VK} {E : XK} (h : spF ⟨K, cls⟩ ⟨callF tab turns (j + 1), turns⟩ f vs H Q E) :
    ∃ ws st Hb Fr m, Sim ⟨K, cls⟩ st H Hb Fr m ∧ RWs ⟨K, cls⟩ Hb m ws vs ∧ ws.length = fd.ps ∧
      Post ⟨K, cls⟩ (fun cls d _ H' => E cls d H') [] Fr Hb m (backS (exSs ⟨callF tab turns j, turns⟩ fd.body (startE fd.n ws) st)) fun w _ Hb' m' H' => ∀ v, RW ⟨K, cls⟩ Hb' m' w v → Q v H' := by
  obtain ⟨ws, st, Hb, Fr, m, S, r, P⟩ := h
  refine ⟨ws, st, Hb, Fr, m, S, r, ?_⟩
  have e : callF tab turns (j + 1) f ws st = if ws.length = fd.ps then backS (exSs ⟨callF tab turns j, turns⟩ fd.body (startE fd.n ws) st) else .stuck := by
    show (match tab f with
      | none => R.stuck
      | some fd => if ws.length = fd.ps then backS (exSs ⟨callF tab turns j, turns⟩ fd.body (startE fd.n ws) st) else .stuck) = _
    rw [ht]
  have P : Post ⟨K, cls⟩ (fun cls d _ H' => E cls d H') [] Fr Hb m (callF tab turns (j + 1) f ws st) _ := P
  rw [e] at P
  by_cases hl : ws.length = fd.ps
  · rw [if_pos hl] at P
    exact ⟨hl, P⟩
  · rw [if_neg hl] at P
    exact P.elim
theorem fn_ok (G : Ground P w K mg base cls ca T) {j f : Nat} {fd : Fd} {N ps : List Str} {x' qual : Str} {params : Arguments} {body : List Stmt} {scope : Scope} {dvs : List V} {kws : List (Str × V)} {a : Addr} {fdv : FuncData}
    (h1 : tab f = some fd) (F : FunD K x' qual params body scope dvs kws a fdv) (S : FnScope N ps scope) (h4 : okSs T N fd.body true scope body = true) (h5 : fd.n = N.length) (h6 : fd.ps = ps.length)
    (ih : ∀ f x, T.fn[f]? = some x → FnAt P w K mg base ⟨K, cls⟩ ⟨callF tab turns j, turns⟩ f (j + 4) x (T.sh[f]?.getD [])) : FnOk P w K mg base (L2.CX P w) (j + 1 + 4) a fdv ps (spF ⟨K, cls⟩ ⟨callF tab turns (j + 1), turns⟩ f) := by
  refine F.ok (k := j + 4) (CX := L2.CX P w) S (fun vs H Q E h => ?_) (fun cdv A outer s H vs Q E hr h => ?_)
  · obtain ⟨ws, st, Hb, Fr, m, _, r, hl, _⟩ := sp_len h1 h
    rw [← r.length, hl, h6]
  · obtain ⟨ws, st, Hb, Fr, m, Si, r, hl, Po⟩ := sp_len h1 h
    have un := hr.un
    have fx : Fx (cxOf (L2.CX P w) P w K mg base N qual scope a cdv A outer s H E) T N scope true cls ca none ⟨callF tab turns j, turns⟩ (fun cls d _ H' => E cls d H') (j + 4) := {
      nN := rfl
      nd := S.nd
      sr := ⟨S.kind, fun _ => .inl rfl⟩
      fc := fun _ _ => rfl
      gr := G
      un := by
        show (A.deeper (envOfC qual scope s.heap.objs.size a cdv)).units + 65 < cLine
        omega
      tk := takes_of rfl rfl rfl rfl
      ca := fun _ => rfl
      rm := fun _ => ⟨hr, Nat.le_add_left 4 j⟩
      nx := fun _ => rfl
      fns := ih
      xr := fun _ _ _ _ _ _ _ _ _ _ _ => exat_no }
    have sx : Sx (cxOf (L2.CX P w) P w K mg base N qual scope a cdv A outer s H E) T N scope true cls ca none ⟨callF tab turns j, turns⟩ (fun cls d _ H' => E cls d H') (j + 4) := ⟨fx, fun _ => passes_of rfl, rfl, rfl⟩
    refine ⟨_, soundSs fd.body sx h4, startE fd.n ws, st, Hb, Fr, m, Si, ?_, back_post Po⟩
    rw [h5]
    exact start_re r
theorem def_ok (G : Ground P w K mg base cls ca T) {j f : Nat} {x : Str} {sh : List (Nat × List Str × List Ag)} (D : DefAt K mg T tab f x sh)
    (ih : ∀ f x, T.fn[f]? = some x → FnAt P w K mg base ⟨K, cls⟩ ⟨callF tab turns j, turns⟩ f (j + 4) x (T.sh[f]?.getD [])) : FnAt P w K mg base ⟨K, cls⟩ ⟨callF tab turns (j + 1), turns⟩ f (j + 1 + 4) x sh := by
  obtain ⟨a, fdv, fd, N, ps, x', qual, params, body, scope, dvs, kws, h1, h2, F, S, h4, h5, h6, h7⟩ := D.ex
  exact ⟨a, fdv, ps, h2, F.kp, fn_ok G h1 F S h4 h5 h6 ih, h7⟩
/-- all levels -/
theorem levels (G : Ground P w K mg base cls ca T) (D : ∀ f x, T.fn[f]? = some x → DefAt K mg T tab f x (T.sh[f]?.getD [])) : ∀ (j f : Nat) (x : Str), T.fn[f]? = some x → FnAt P w K mg base ⟨K, cls⟩ ⟨callF tab turns j, turns⟩ f (j + 4) x (T.sh[f]?.getD [])
  | 0, f, x, h => by
    obtain ⟨a, fdv, fd, N, ps, x', qual, params, body, scope, dvs, kws, h1, h2, F, S, h4, h5, h6, h7⟩ := (D f x h).ex
    exact ⟨a, fdv, ps, h2, F.kp, ⟨fun vs H Q E h => (sp_zero h).elim, fun A outer s H args us vs Q E _ _ _ _ h => (sp_zero h).elim⟩, h7⟩
  | j + 1, f, x, h => def_ok G (D f x h) fun f x h => levels G D j f x h
/-! ### the law's def -/
theorem rds_of_ints {H : Hp} : ∀ ns : List Int, RDs K H (ns.map .int) (ns.map V.int)
  | [] => .nil
  | n :: ns => .cons (RD.int n) (rds_of_ints ns)
/-- what a law is to do: it answers True for the scripts that C lets -/
def spLaw (K : PySem.W.Frag) (C : List Int → Prop) : Sp := fun vs H Q _ => ∃ (a : Addr) (ns : List Int), vs = [.ref a] ∧ SqL K H a (ns.map V.int) ∧ C ns ∧ ∀ H', Q (.bl true) H'
theorem law_sp {f j : Nat} {C : List Int → Prop} (hC : ∀ ns, C ns → ns.length ≤ sizeLine) (h : ∀ ns, C ns → ∃ st, callF tab turns j f [.v (.lst (ns.map .int))] [] = .ok (.v (.bl true)) st) {vs : List V} {H : Hp} {Q : VK} {E : XK} (q : spLaw K C vs H Q E) : spF ⟨K, cls⟩ ⟨callF tab turns j, turns⟩ f vs H Q E := by
  obtain ⟨a, ns, rfl, hS, hc, hQ⟩ := q
  obtain ⟨st, e⟩ := h ns hc
  refine ⟨[.v (.lst (ns.map .int))], [], H, fun _ => none, [], ⟨fun _ _ e => e, fun _ _ e => (nomatch e), fun _ h => absurd rfl h, rfl, fun i j p h => by simp at h, fun n c p h => by simp at h⟩, .cons (RD.lst hS (rds_of_ints ns) ?_) .nil, ?_⟩
  · rw [List.length_map]
    exact hC ns hc
  · show Post _ _ _ _ _ _ (callF tab turns j f [.v (.lst (ns.map .int))] []) _
    rw [e]
    intro H' Hb' m' S e p v rv
    cases rv
    exact hQ H'
end
end Pf
set_option Elab.async false
set_option linter.all false
set_option maxRecDepth 100000
set_option maxHeartbeats 4000000
/-! Pf, part X: an own exception whose __init__(self, at=-1) says super().__init__(text) and keeps at. -/
namespace Pf
open PySem PySem.Spec PyProof.Rows L2

abbrev exT : List Value := [.type "Exception", .type "BaseException", .type "object"]
/-! ### self.name = v, of a class whose row of classes is own ones, then Exception's -/
section
open Builtin Builtin.ObjectAttr PySem.W
variable {prog : Program} {w : World} {A : Around} {R : Result → Shared → Prop} {hp : Heap} {g : Array GenState} {d : Drawn} {t : Nat} {os : OsState}
theorem osaX {K : PySem.W.Frag} {name : Str} {tk : Tok} {v : Value} {x C : Addr} {fv : Array Value} {cd : ClassData} {bm : List Value}
    (X : K.In hp) (hx : hp.get? x = some { cls := .ref C, data := .fields fv }) (hcd : PySem.W.clsIn K C = some cd) (hm : cd.mro = .ref C :: bm) (ht : PySem.W.excTail exT bm = true) (hh : cd.hasDict = true) (ha : PySem.W.findIn K (.ref C) name = some none)
    (hq : ∀ h' tk' dx, (∀ b o, b ≠ x → hp.get? b = some o → h'.get? b = some o) → hp.objs.size ≤ dx → dx ≠ x → h'.get? x = some { cls := .ref C, dict := some dx, data := .fields fv } →
      h'.Ns1 dx (fun y => if y = name then some v else none) → R (.ok (.ret .none)) ⟨h', g, d, tk', os⟩) :
    codeAny (model prog w) A (.call (.builtin "object.__setattr__") ⟨[.ref x, .str name tk, v], []⟩) R ⟨hp, g, d, t, os⟩ := by
  have I : PySem.W.InstAt hp x { cls := .ref C, data := .fields fv } C none := ⟨hx, rfl, rfl, trivial⟩
  have SF := F.store_object
  have hob : (Value.ref C :: bm).contains (.type "object") = true := by
    rw [List.contains_cons, PySem.W.excTail_contains "object" bm ht, show exT.contains (.type "object") = true from by decide +kernel, Bool.or_true]
  have hxs : x ≠ hp.objs.size := Nat.ne_of_lt (Heap.lt_size hx)
  have mi : PySem.W.mroIn K C (.type "object") = some true := by
    unfold PySem.W.mroIn
    rw [hcd, Option.bind_some, hm, if_neg (show ¬ (List.isEmpty (Value.ref C :: bm) = true) from Bool.false_ne_true), hob]
  have sub : PySem.W.Looks (model prog w) hp (isInstance (.ref x) (.type "object")) true := I.type.andThen (PySem.W.looks_mroIn X mi)
  refine codeAny_call_builtin SF.slot.plain SF.entry (@PySem.W.check_slot (model prog w) _ _ ⟨hp, g, d, t, os⟩ "object.__setattr__" "object" "__setattr__" (.ref x) [.str name tk, v] [] _ SF.kind SF.split sub (SF.args (.ref x) (.str name tk) v) ?_)
  have hmr : PySem.W.Looks (model prog w) hp (mroOf (.ref C)) cd.mro := (PySem.W.looks_clsIn X hcd).andThen .now
  have L3 : PySem.W.Looks (model prog w) hp (storeTaker? none) none := .now
  have hpass : refuseLoop (.ref x) "__setattr__" cd.mro = pure () := by
    rw [hm, refuseLoop_ref]
    exact PySem.W.excTail_pass _ (F.store_Exception.passes _) _ ht
  rw [PySem.W.osa_eq, refuse_eq]
  refine wpAny_bind (wpAny_bind (I.type.at (wpAny_bind (hmr.at ?_))))
  rw [hpass]
  refine wpAny_pure (wpAny_bind (I.type.at (wpAny_bind ((PySem.W.looks_findIn X ha).at (wpAny_bind (L3.at ?_))))))
  show wpAny _ _ (storeInOwnDict (.ref x) (.ref C) (.str name tk) name v false) _ _ _
  have hcls : PySem.W.Looks (model prog w) hp (classData C) cd := PySem.W.looks_clsIn X hcd
  obtain ⟨nm, bs, mro, ns, qn, hd, sn, sb, ab, col, del⟩ := cd
  dsimp only at hh
  subst hh
  unfold storeInOwnDict ownDictForStores
  repeat (first | with_reducible refine HandSPX.store_in_new ?_ ?_ | with_reducible refine wpAny_loadPart_at hx ?_ | with_reducible refine hcls.at ?_ | wp_step)
  · exact ⟨_, #[], _, (Heap.get?_update_ne _ _ _ _ hxs.symm).trans (Heap.get?_push_at rfl rfl), rfl, fun e he => absurd he (by simp), fun _ => rfl⟩
  · intro h' tk' hn' hs
    have hx1 : (hp.push { cls := .type "dict", data := .dict #[] }).get? x = some { cls := .ref C, data := .fields fv } := Heap.get?_push_of_some _ hx
    refine hq h' tk' hp.objs.size (fun b o hb ho => ?_) (Nat.le_refl _) hxs.symm ?_ hn'
    · exact (hs.2 b (Nat.ne_of_lt (Heap.lt_size ho))).trans ((Heap.get?_update_ne _ _ _ _ hb).trans (Heap.get?_push_of_some _ ho))
    · exact (hs.2 x hxs).trans (Heap.get?_update_self _ hx1 rfl)
end

/-! ### the class -/
/-- the free parts of such an __init__'s text; kd: 0 with the default -1, 1 without a default, 2 of an exception that keeps nothing -/
structure IniT where
  q : Str
  msg : Str
  j : Nat
  sc : Scope
  e0 : Expr
  ps : Pos
  pa : Pos
  p0 : Pos
  p1 : Pos
  p2 : Pos
  p3 : Pos
  p4 : Pos
  p5 : Pos
  p6 : Pos
  p7 : Pos
  p8 : Pos
  p9 : Pos
  nm : Str
  pn : Str
  kd : Nat
def IniT.params (i : IniT) : Arguments := ⟨[], ⟨"self", none, i.ps⟩ :: (match i.kd with | 2 => [] | _ => [⟨i.pn, none, i.pa⟩]), none, [], [], none, match i.kd with | 0 => [i.e0] | _ => []⟩
def IniT.body (i : IniT) : List Stmt :=
  .Expr (.Call (.Attribute (.Call (.Name "super" i.p0) [] [] i.p1) "__init__" i.p2) [.Constant (.str i.msg) i.j i.p3] [] i.p4) i.p5 :: (match i.kd with | 2 => [] | _ => [.Assign [.Attribute (.Name "self" i.p6) i.nm i.p7] (.Name i.pn i.p8) i.p9])
def scIs (sc : Scope) (x : Str) (k : NameKind) : Prop := sc.names.lookup x = some k
def pnOk (x : Str) : Prop := x = "at" ∨ x = "word" ∨ x = "robot"
/-- where the __init__ stands -/
def IniAt (P : Program) (K : PySem.W.Frag) (C : Addr) (i : IniT) : Prop :=
  ∃ (f cc cda : Addr) (dV oc ccl cl kV doc pm ct : Value) (od cdd cld an : Option Addr) (osl ccs csl : Array (Option Value)) (file : Str) (tf : Tok) (vs : Array Value),
    PySem.W.findIn K (.ref C) "__init__" = some (some (.ref f)) ∧ PySem.W.typeIn K (.ref f) = some (.type "function") ∧
    K.lookup f = some ⟨oc, od, .func (PySem.W.ksFn "__init__" i.q i.params i.body i.sc dV kV doc pm an (.ref cda) ct cc), osl⟩ ∧
    PySem.W.codeIn K (.ref cda) i.q = true ∧ K.lookup cda = some ⟨ccl, cdd, .fields vs, ccs⟩ ∧ vs[2]? = some (.str file tf) ∧ ((P.main.file : Str) == file) = true ∧ K.lookup cc = some ⟨cl, cld, .cell (some (.ref C)), csl⟩ ∧
    (i.kd = 0 → ∃ (T : Addr) (oT : Obj) (nT : Nat) (t1 : Tok), dV = .ref T ∧ K.lookup T = some oT ∧ oT.data = .seq #[.int (-1) t1] nT) ∧ (i.kd ≠ 0 → dV = .none) ∧
    i.sc.kind = .function ∧ i.sc.isCoroutine = false ∧ i.sc.isGenerator = false ∧ (∀ y ∈ i.sc.names, y.2 ≠ .cell) ∧ scIs i.sc "self" .local ∧ (i.kd ≠ 2 → scIs i.sc i.pn .local) ∧ scIs i.sc "super" .globalImplicit ∧ scIs i.sc "__class__" .free ∧ (i.p2.endLine == i.p4.line) = true
/-- what stands of such a class; i.nm: what it keeps -/
structure ExC (P : Program) (K : PySem.W.Frag) (mg : Str → Option Value) (C : Addr) (x : Str) (i : IniT) : Prop where
  gC : mg x = some (.ref C)
  nd : (x == ("__debug__" : Str)) = false
  kC : PySem.W.keepIn K (.ref C) = true
  ei : PySem.W.excInitIn K C exT "Exception.__new__" = true
  sa : PySem.W.findIn K (.ref C) "__setattr__" = some (some (.builtin "object.__setattr__"))
  no : PySem.W.findIn K (.ref C) i.nm = some none
  exE : PySem.W.subIn K (.ref C) (.type "Exception") = some true
  exC : PySem.W.subIn K (.ref C) (.type "BaseException") = some true
  tyC : PySem.W.typeIn K (.ref C) = some (.type "type")
  sup : mg "super" = none
  top : (P.main.scope.names.lookup ("super" : Str)).isSome = false
  tp : PySem.W.nsIn K cStatics "thirdparty.any" = some none
  mem : PySem.W.mroIn K C (.ref C) = some true
  cls : ∃ cd bm, PySem.W.clsIn K C = some cd ∧ cd.mro = .ref C :: bm ∧ PySem.W.excTail exT bm = true ∧ cd.hasDict = true ∧ PySem.W.alongIn K "__init__" bm = some (some (.builtin "Exception.__init__"))
  pn : i.kd ≠ 2 → pnOk i.pn
  ini : IniAt P K C i
section
variable {K : PySem.W.Frag} {i : IniT} {T cda cc : Addr} {kV doc pm ct dV : Value} {an : Option Addr} {oT : Obj} {nT : Nat} {d : Value} {s : Shared} {e v : Value}
theorem bind_one (h0 : i.kd = 0) (hp : pnOk i.pn) (X : K.In s.heap) (hT : K.lookup T = some oT) (hd : oT.data = .seq #[d] nT) :
    BindsTo s (PySem.W.ksFn "__init__" i.q i.params i.body i.sc (.ref T) kV doc pm an (.ref cda) ct cc) ⟨[e], []⟩ [("self", e), (i.pn, d)] := by
  obtain ⟨q, msg, j, sc, e0, ps, pa, p0, p1, p2, p3, p4, p5, p6, p7, p8, p9, nm, pn, kd⟩ := i
  dsimp only at h0 hp
  subst h0
  rcases hp with rfl | rfl | rfl
  · exact PySem.W.binds_K X rfl hT hd rfl rfl
  · exact PySem.W.binds_K X rfl hT hd rfl rfl
  · exact PySem.W.binds_K X rfl hT hd rfl rfl
theorem bind_two0 (h0 : i.kd = 0) (hp : pnOk i.pn) (X : K.In s.heap) (hT : K.lookup T = some oT) (hd : oT.data = .seq #[d] nT) :
    BindsTo s (PySem.W.ksFn "__init__" i.q i.params i.body i.sc (.ref T) kV doc pm an (.ref cda) ct cc) ⟨[e, v], []⟩ [("self", e), (i.pn, v)] := by
  obtain ⟨q, msg, j, sc, e0, ps, pa, p0, p1, p2, p3, p4, p5, p6, p7, p8, p9, nm, pn, kd⟩ := i
  dsimp only at h0 hp
  subst h0
  rcases hp with rfl | rfl | rfl
  · exact PySem.W.binds_K X rfl hT hd rfl rfl
  · exact PySem.W.binds_K X rfl hT hd rfl rfl
  · exact PySem.W.binds_K X rfl hT hd rfl rfl
theorem bind_two1 (h0 : i.kd = 1) (hp : pnOk i.pn) :
    BindsTo s (PySem.W.ksFn "__init__" i.q i.params i.body i.sc .none kV doc pm an (.ref cda) ct cc) ⟨[e, v], []⟩ [("self", e), (i.pn, v)] := by
  obtain ⟨q, msg, j, sc, e0, ps, pa, p0, p1, p2, p3, p4, p5, p6, p7, p8, p9, nm, pn, kd⟩ := i
  dsimp only at h0 hp
  subst h0
  rcases hp with rfl | rfl | rfl
  · exact .of_eq rfl
  · exact .of_eq rfl
  · exact .of_eq rfl
theorem bind_bare (h0 : i.kd = 2) :
    BindsTo s (PySem.W.ksFn "__init__" i.q i.params i.body i.sc .none kV doc pm an (.ref cda) ct cc) ⟨[e], []⟩ [("self", e)] := by
  obtain ⟨q, msg, j, sc, e0, ps, pa, p0, p1, p2, p3, p4, p5, p6, p7, p8, p9, nm, pn, kd⟩ := i
  dsimp only at h0
  subst h0
  exact .of_eq rfl
theorem bind_kw0 (h0 : i.kd = 0) (hp : pnOk i.pn) (X : K.In s.heap) (hT : K.lookup T = some oT) (hd : oT.data = .seq #[d] nT) :
    BindsTo s (PySem.W.ksFn "__init__" i.q i.params i.body i.sc (.ref T) kV doc pm an (.ref cda) ct cc) ⟨[e], [(i.pn, v)]⟩ [("self", e), (i.pn, v)] := by
  obtain ⟨q, msg, j, sc, e0, ps, pa, p0, p1, p2, p3, p4, p5, p6, p7, p8, p9, nm, pn, kd⟩ := i
  dsimp only at h0 hp
  subst h0
  rcases hp with rfl | rfl | rfl
  · exact PySem.W.binds_K X rfl hT hd rfl rfl
  · exact PySem.W.binds_K X rfl hT hd rfl rfl
  · exact PySem.W.binds_K X rfl hT hd rfl rfl
theorem bind_kw1 (h0 : i.kd = 1) (hp : pnOk i.pn) :
    BindsTo s (PySem.W.ksFn "__init__" i.q i.params i.body i.sc .none kV doc pm an (.ref cda) ct cc) ⟨[e], [(i.pn, v)]⟩ [("self", e), (i.pn, v)] := by
  obtain ⟨q, msg, j, sc, e0, ps, pa, p0, p1, p2, p3, p4, p5, p6, p7, p8, p9, nm, pn, kd⟩ := i
  dsimp only at h0 hp
  subst h0
  rcases hp with rfl | rfl | rfl
  · exact .of_eq rfl
  · exact .of_eq rfl
  · exact .of_eq rfl
theorem body_kept (h : i.kd ≠ 2) : i.body = .Expr (.Call (.Attribute (.Call (.Name "super" i.p0) [] [] i.p1) "__init__" i.p2) [.Constant (.str i.msg) i.j i.p3] [] i.p4) i.p5 :: [.Assign [.Attribute (.Name "self" i.p6) i.nm i.p7] (.Name i.pn i.p8) i.p9] := by
  obtain ⟨q, msg, j, sc, e0, ps, pa, p0, p1, p2, p3, p4, p5, p6, p7, p8, p9, nm, pn, kd⟩ := i
  dsimp only at h
  match kd, h with
  | 0, _ => rfl
  | 1, _ => rfl
  | n + 3, _ => rfl
theorem body_bare (h : i.kd = 2) : i.body = [.Expr (.Call (.Attribute (.Call (.Name "super" i.p0) [] [] i.p1) "__init__" i.p2) [.Constant (.str i.msg) i.j i.p3] [] i.p4) i.p5] := by
  obtain ⟨q, msg, j, sc, e0, ps, pa, p0, p1, p2, p3, p4, p5, p6, p7, p8, p9, nm, pn, kd⟩ := i
  dsimp only at h
  subst h
  rfl
theorem look_pn (h : pnOk i.pn) : ([("self", e), (i.pn, v)] : List (Str × Value)).reverse.lookup i.pn = some v := by
  obtain ⟨q, msg, j, sc, e0, ps, pa, p0, p1, p2, p3, p4, p5, p6, p7, p8, p9, nm, pn, kd⟩ := i
  dsimp only at h
  rcases h with rfl | rfl | rfl <;> rfl
theorem look_self (h : pnOk i.pn) : ([("self", e), (i.pn, v)] : List (Str × Value)).reverse.lookup ("self" : Str) = some e := by
  obtain ⟨q, msg, j, sc, e0, ps, pa, p0, p1, p2, p3, p4, p5, p6, p7, p8, p9, nm, pn, kd⟩ := i
  dsimp only at h
  rcases h with rfl | rfl | rfl <;> rfl
end

theorem meth_one {o c : Expr} {name : Str} {apos pos : Pos} {env : PySem.Env} (hn : notStar c = true) (hl : (apos.endLine == pos.line) = true) : eval (.Call (.Attribute o name apos) [c] [] pos) env = (do
      let ov ← attributeBase o name env (eval o env)
      standAt apos.atName
      let (f, first) ← holding [ov] (getMethod ov name (do return (← importBound o env).getD true))
      callWith pos f first (backTo pos (starEach [c] env)) []) := by
  rw [arm_eval_Call]
  have hp : methodCallPos true o env apos pos = pure pos := by
    unfold methodCallPos
    simp [hl]
  have hf : methodCallForm 1 (backTo pos (starEach [c] env)) (backToKw pos (keywordEach [] env)) = true := few_one hn
  show (do
    let ov ← attributeBase o name env (eval o env)
    standAt apos.atName
    methodCall o name apos pos env ov 1 (backTo pos (starEach [c] env)) (backToKw pos (keywordEach [] env))) = _
  unfold methodCall
  rw [hf]
  simp only [hp, pure_bind]
  rfl
open PySem.W PySem.Calls in
/-- __init__ runs: its frame and the two objects of super() aside, the exception gets a dict with what it keeps -/
theorem init_run {P : Program} {w : World} {K : PySem.W.Frag} {mg mb : Str → Option Value} {C : Addr} {x : Str} {i : IniT} (T : ExC P K mg C x i) (hk2 : i.kd ≠ 2) {A : Around} {R : Result → Shared → Prop} {hp : Heap} {g : Array GenState} {d : Drawn} {t : Nat} {os : OsState} {e t0 : Addr} {v : Value} {args : Args}
    {f cc cda : Addr} {dV oc ccl cl kV doc pm ct : Value} {od cdd cld an : Option Addr} {osl ccs csl : Array (Option Value)} {file : Str} {tf : Tok} {vs : Array Value}
    (hf : K.lookup f = some ⟨oc, od, .func (ksFn "__init__" i.q i.params i.body i.sc dV kV doc pm an (.ref cda) ct cc), osl⟩) (hcd : codeIn K (.ref cda) i.q = true) (hcda : K.lookup cda = some ⟨ccl, cdd, .fields vs, ccs⟩) (hvs : vs[2]? = some (.str file tf)) (hfile : ((P.main.file : Str) == file) = true)
    (hcc : K.lookup cc = some ⟨cl, cld, .cell (some (.ref C)), csl⟩) (k1 : i.sc.kind = .function) (k2 : i.sc.isCoroutine = false) (k3 : i.sc.isGenerator = false) (k4 : ∀ y ∈ i.sc.names, y.2 ≠ .cell) (k5 : scIs i.sc "self" .local) (k6 : scIs i.sc i.pn .local) (k7 : scIs i.sc "super" .globalImplicit) (k8 : scIs i.sc "__class__" .free) (k9 : (i.p2.endLine == i.p4.line) = true)
    (X : K.In hp) (hlim : hp.NoLimit) (G : hp.Ns mainGlobals mg) (B : hp.Ns builtinsNs mb) (hb : mb "super" = some (.type "super")) (hroom : A.depth < recursionLimit)
    (hbind : BindsTo ⟨hp, g, d, t, os⟩ (ksFn "__init__" i.q i.params i.body i.sc dV kV doc pm an (.ref cda) ct cc) args [("self", .ref e), (i.pn, v)]) (he : hp.get? e = some (HandSPX.excO C t0)) (heC : e ≠ C) (hnot : ∀ o, K.lookup e ≠ some o)
    (hq : ∀ h' t' dx t1, (∀ b o, b ≠ e → hp.get? b = some o → h'.get? b = some o) → hp.objs.size ≤ dx → dx ≠ e → h'.get? e = some { cls := .ref C, dict := some dx, data := .fields #[.ref t1, .none, .none, .none, .bool false, .none] } →
      h'.Ns1 dx (fun y => if y = i.nm then some v else none) → R (.ok (.ret .none)) ⟨h', g, d, t', os⟩) : codeAny (model P w) A (.call (.ref f) args) R ⟨hp, g, d, t, os⟩ := by
  obtain ⟨cd, bm, c1, c2, c3, c4, c5⟩ := T.cls
  have hC : ∀ {h : Heap}, K.In h → _ := fun {h} X => excInit_of X T.ei
  have hpn := T.pn hk2
  refine ks_codeAny_call_defAt (fd := ksFn "__init__" i.q i.params i.body i.sc dV kV doc pm an (.ref cda) ct cc)  (binds := [("self", .ref e), (i.pn, v)]) hroom (X _ _ hf) rfl hlim (PySem.W.codeRec_of X hcd) (congrArg FuncBody.stmts (body_kept hk2)) hbind k4 (fun y hy => ?_) (fun h1 hns hk1 => ?_) k2 k3 k1
  · rcases List.mem_cons.mp hy with z | z
    · rw [z]
      exact k5
    · rcases List.mem_cons.mp z with z | z
      · rw [z]
        exact k6
      · cases z
  · have X1 : K.In h1 := PySem.W.Frag.In.keeps X hk1
    have hC1 := hC X1
    have he1 := hk1 _ _ he
    have hint : interactive (callEnv (ksFn "__init__" i.q i.params i.body i.sc dV kV doc pm an (.ref cda) ct cc) hp.objs.size f) = false := by
      show interactive (callEnv _ _ _) = false
      unfold interactive
      rw [show (callEnv (ksFn "__init__" i.q i.params i.body i.sc dV kV doc pm an (.ref cda) ct cc) hp.objs.size f).scope.kind = .function from k1]
      rfl
    have hlL : hp.objs.size < h1.objs.size := by
      obtain ⟨o, _, _, z, _⟩ := hns
      exact Heap.lt_size z
    refine ks_wpAt_execs_cons (ks_wpAt_Expr_any (ks_wpAt_MethodCall ?_ (meth_one rfl k9)) hint rfl)
    refine ks_wpAt_super_base (cc := cda) (f := f) k7 k8 (by decide) rfl (X1 _ _ hf) rfl rfl rfl (X1 _ _ hcda) rfl hvs hfile T.top ?_
    refine ks_loadName_global k1 k7 (PySem.Calls.loadGlobal_builtin (G.keeps hk1) T.sup (B.keeps hk1) hb ⟨rfl, ?_⟩)
    refine wpAny_loadName_free k1 k8 rfl ⟨_, X1 _ _ hcc, rfl⟩ ?_
    refine wpAny_loadName_local k1 k5 hns (look_self hpn) ?_
    obtain ⟨cnm, N', qn, bs, bm', hdct, sn, sub, ab, col, dd, s0, s1, s2, s3, s5, hC1, _⟩ := hC X1
    refine ks_wpAny_isType_cls hC1 rfl ⟨rfl, ?_⟩
    refine ks_wpAny_call_super hC1 rfl he1 rfl (fun c z => nomatch z) (looks_mroIn X1 T.mem) (fun h2 e2 hk2 => ?_)
    have X2 : K.In h2 := PySem.W.Frag.In.keeps X1 hk2
    have he2 := hk2 _ _ he1
    have I2 : PySem.W.InstAt h2 e (HandSPX.excO C t0) C none := ⟨he2, rfl, rfl, trivial⟩
    refine ESX.getMethod_super e2 (looks_opaque X2 T.tp) (l₀ := cd.mro) (l := bm) ((looks_clsIn X2 c1).andThen .now) (by rw [c2]; exact ESX.drop_own C bm) X2 c5 heC (by decide) (I2.type.andThen (looks_subIn X2 T.exE)) ?_
    refine ESX.callWith_bound (x := e) ?_
    refine Calls.spliced_cons ?_
    show wpAny _ _ (eval (.Constant (.str i.msg) i.j i.p3) _) _ _ _
    refine Calls.Constant_str ?_
    refine Calls.spliced_nil ⟨Heap.get?_push_size _ rfl, ?_⟩
    have kp : ∀ b o, h2.get? b = some o → (h2.push (ESX.bw e)).get? b = some o := fun b o z => Heap.get?_push_of_some _ z
    have X3 : K.In (h2.push (ESX.bw e)) := PySem.W.Frag.In.keeps X2 kp
    obtain ⟨cnm3, N3, qn3, bs3, bm3, hdct3, sn3, sub3, ab3, col3, dd3, s03, s13, s23, s33, s53, hC3, _⟩ := hC X3
    refine ESX.call_bw hC3 (kp _ _ he2) (Heap.get?_push_size _ rfl) (by show 1 ≤ sizeLine; decide) (fun h3 t1 hk3 he3 => ?_)
    have hkk : ∀ b o, b ≠ e → h1.get? b = some o → h3.get? b = some o := fun b o hb z => hk3 b o hb (kp b o (hk2 b o z))
    have he4 : h1.objs.size < h2.objs.size := Heap.lt_size e2
    have X4 : K.In h3 := fun b o z => hkk b o (fun q => by
      subst q
      exact hnot o z) (X1 b o z)
    have hn3 : h3.Ns hp.objs.size fun y => [(("self" : Str), Value.ref e), (i.pn, v)].reverse.lookup y := hns.at fun o z => hkk _ o (Nat.ne_of_gt (Heap.lt_size he)) z
    refine wpAt_of_wpAny (wpAny_execs_cons (plainObj_wpAny_Assign_Attribute ?_))
    refine ESX.ldL hn3 (look_pn hpn) ?_ k1 k6 (by rcases hpn with z | z | z <;> rw [z] <;> decide)
    refine ESX.ldL hn3 (look_self hpn) ?_ k1 k5
    have I3 : PySem.W.InstAt h3 e (HandSPX.excO C t1) C none := ⟨he3, rfl, rfl, trivial⟩
    refine PySem.W.set_plain X4 I3 T.sa (osaX X4 he3 c1 c2 c3 c4 T.no (fun h4 tk' dx hk4 hdx hne hx4 hn4 => ?_))
    refine wpAny_execs_nil ?_
    have hp3 : hp.objs.size ≤ h3.objs.size := by
      have z0 : h2.objs.size ≠ e := fun q => by
        have z2 : e < hp.objs.size := Heap.lt_size he
        have z3 : h2.objs.size < hp.objs.size := by
          rw [q]
          exact z2
        exact Nat.lt_irrefl _ (Nat.lt_trans (Nat.lt_trans hlL he4) z3)
      have z1 : h2.objs.size < h3.objs.size := Heap.lt_size (hk3 _ _ z0 (Heap.get?_push_size (o := ESX.bw e) h2 rfl))
      exact Nat.le_of_lt (Nat.lt_trans (Nat.lt_trans hlL he4) z1)
    exact hq h4 tk' dx t1 (fun b o hb z => hk4 b o hb (hkk b o hb (hk1 b o z))) (Nat.le_trans hp3 hdx) hne hx4 hn4

open PySem.W PySem.Calls in
/-- __init__ runs, of an exception that keeps nothing -/
theorem init_bare {P : Program} {w : World} {K : PySem.W.Frag} {mg mb : Str → Option Value} {C : Addr} {x : Str} {i : IniT} (T : ExC P K mg C x i) (hk2 : i.kd = 2) {A : Around} {R : Result → Shared → Prop} {hp : Heap} {g : Array GenState} {d : Drawn} {t : Nat} {os : OsState} {e t0 : Addr} {args : Args}
    {f cc cda : Addr} {dV oc ccl cl kV doc pm ct : Value} {od cdd cld an : Option Addr} {osl ccs csl : Array (Option Value)} {file : Str} {tf : Tok} {vs : Array Value}
    (hf : K.lookup f = some ⟨oc, od, .func (ksFn "__init__" i.q i.params i.body i.sc dV kV doc pm an (.ref cda) ct cc), osl⟩) (hcd : codeIn K (.ref cda) i.q = true) (hcda : K.lookup cda = some ⟨ccl, cdd, .fields vs, ccs⟩) (hvs : vs[2]? = some (.str file tf)) (hfile : ((P.main.file : Str) == file) = true)
    (hcc : K.lookup cc = some ⟨cl, cld, .cell (some (.ref C)), csl⟩) (k1 : i.sc.kind = .function) (k2 : i.sc.isCoroutine = false) (k3 : i.sc.isGenerator = false) (k4 : ∀ y ∈ i.sc.names, y.2 ≠ .cell) (k5 : scIs i.sc "self" .local) (k7 : scIs i.sc "super" .globalImplicit) (k8 : scIs i.sc "__class__" .free) (k9 : (i.p2.endLine == i.p4.line) = true)
    (X : K.In hp) (hlim : hp.NoLimit) (G : hp.Ns mainGlobals mg) (B : hp.Ns builtinsNs mb) (hb : mb "super" = some (.type "super")) (hroom : A.depth < recursionLimit)
    (hbind : BindsTo ⟨hp, g, d, t, os⟩ (ksFn "__init__" i.q i.params i.body i.sc dV kV doc pm an (.ref cda) ct cc) args [("self", .ref e)]) (he : hp.get? e = some (HandSPX.excO C t0)) (heC : e ≠ C) (hnot : ∀ o, K.lookup e ≠ some o)
    (hq : ∀ h' t' t1, (∀ b o, b ≠ e → hp.get? b = some o → h'.get? b = some o) → h'.get? e = some (HandSPX.excO C t1) → R (.ok (.ret .none)) ⟨h', g, d, t', os⟩) : codeAny (model P w) A (.call (.ref f) args) R ⟨hp, g, d, t, os⟩ := by
  obtain ⟨cd, bm, c1, c2, c3, c4, c5⟩ := T.cls
  have hC : ∀ {h : Heap}, K.In h → _ := fun {h} X => excInit_of X T.ei
  refine ks_codeAny_call_defAt (fd := ksFn "__init__" i.q i.params i.body i.sc dV kV doc pm an (.ref cda) ct cc)  (binds := [("self", .ref e)]) hroom (X _ _ hf) rfl hlim (PySem.W.codeRec_of X hcd) (congrArg FuncBody.stmts (body_bare hk2)) hbind k4 (fun y hy => ?_) (fun h1 hns hk1 => ?_) k2 k3 k1
  · rcases List.mem_cons.mp hy with z | z
    · rw [z]
      exact k5
    · cases z
  · have X1 : K.In h1 := PySem.W.Frag.In.keeps X hk1
    have hC1 := hC X1
    have he1 := hk1 _ _ he
    have hint : interactive (callEnv (ksFn "__init__" i.q i.params i.body i.sc dV kV doc pm an (.ref cda) ct cc) hp.objs.size f) = false := by
      show interactive (callEnv _ _ _) = false
      unfold interactive
      rw [show (callEnv (ksFn "__init__" i.q i.params i.body i.sc dV kV doc pm an (.ref cda) ct cc) hp.objs.size f).scope.kind = .function from k1]
      rfl
    have hlL : hp.objs.size < h1.objs.size := by
      obtain ⟨o, _, _, z, _⟩ := hns
      exact Heap.lt_size z
    refine ks_wpAt_execs_cons (ks_wpAt_Expr_any (ks_wpAt_MethodCall ?_ (meth_one rfl k9)) hint rfl)
    refine ks_wpAt_super_base (cc := cda) (f := f) k7 k8 (by decide) rfl (X1 _ _ hf) rfl rfl rfl (X1 _ _ hcda) rfl hvs hfile T.top ?_
    refine ks_loadName_global k1 k7 (PySem.Calls.loadGlobal_builtin (G.keeps hk1) T.sup (B.keeps hk1) hb ⟨rfl, ?_⟩)
    refine wpAny_loadName_free k1 k8 rfl ⟨_, X1 _ _ hcc, rfl⟩ ?_
    refine wpAny_loadName_local k1 k5 hns rfl ?_
    obtain ⟨cnm, N', qn, bs, bm', hdct, sn, sub, ab, col, dd, s0, s1, s2, s3, s5, hC1, _⟩ := hC X1
    refine ks_wpAny_isType_cls hC1 rfl ⟨rfl, ?_⟩
    refine ks_wpAny_call_super hC1 rfl he1 rfl (fun c z => nomatch z) (looks_mroIn X1 T.mem) (fun h2 e2 hk2 => ?_)
    have X2 : K.In h2 := PySem.W.Frag.In.keeps X1 hk2
    have he2 := hk2 _ _ he1
    have I2 : PySem.W.InstAt h2 e (HandSPX.excO C t0) C none := ⟨he2, rfl, rfl, trivial⟩
    refine ESX.getMethod_super e2 (looks_opaque X2 T.tp) (l₀ := cd.mro) (l := bm) ((looks_clsIn X2 c1).andThen .now) (by rw [c2]; exact ESX.drop_own C bm) X2 c5 heC (by decide) (I2.type.andThen (looks_subIn X2 T.exE)) ?_
    refine ESX.callWith_bound (x := e) ?_
    refine Calls.spliced_cons ?_
    show wpAny _ _ (eval (.Constant (.str i.msg) i.j i.p3) _) _ _ _
    refine Calls.Constant_str ?_
    refine Calls.spliced_nil ⟨Heap.get?_push_size _ rfl, ?_⟩
    have kp : ∀ b o, h2.get? b = some o → (h2.push (ESX.bw e)).get? b = some o := fun b o z => Heap.get?_push_of_some _ z
    have X3 : K.In (h2.push (ESX.bw e)) := PySem.W.Frag.In.keeps X2 kp
    obtain ⟨cnm3, N3, qn3, bs3, bm3, hdct3, sn3, sub3, ab3, col3, dd3, s03, s13, s23, s33, s53, hC3, _⟩ := hC X3
    refine ESX.call_bw hC3 (kp _ _ he2) (Heap.get?_push_size _ rfl) (by show 1 ≤ sizeLine; decide) (fun h3 t1 hk3 he3 => ?_)
    have hkk : ∀ b o, b ≠ e → h1.get? b = some o → h3.get? b = some o := fun b o hb z => hk3 b o hb (kp b o (hk2 b o z))
    have he4 : h1.objs.size < h2.objs.size := Heap.lt_size e2
    refine wpAt_of_wpAny (wpAny_execs_nil ?_)
    exact hq h3 _ t1 (fun b o hb z => hkk b o hb (hk1 b o z)) he3

/-- C(..) for a class that keeps something, by positional values or by the keyword -/
theorem core_mk {X : L2.Cx} {C : Addr} {x : Str} {i : IniT} (T : ExC X.prog X.K X.mg C x i) (hk2 : i.kd ≠ 2) (hr : Room 4 X.A) {pins : List (Addr × Obj)} {σ : L2.St} {H1 : Hp} {Q : XK} {s1 : Shared} {us : List Value} {vs : List V} (I1 : Inv X pins σ H1 s1) (r : Vals vs us)
    (h : ∃ v, (vs = [] ∧ v = .int (-1) ∧ i.kd = 0 ∨ vs = [v] ∧ (i.kd = 0 ∨ i.kd = 1)) ∧ ∀ dd, H1 dd = none → Q (.ref C) (some dd) (upd H1 dd (.xd [(i.nm, v)]))) : wpAny (model X.prog X.w) X.A (call (.ref C) us) (MkP X pins σ Q) X.xe s1 := by
  obtain ⟨hp, g, d, t, os⟩ := s1
  obtain ⟨vV, hv, q⟩ := h
  obtain ⟨cnm, N', qn, bs, bm', hdct, sn, sub, ab, col, dd, s0, s1, s2, s3, s5, hC, hT⟩ := PySem.W.excInit_of I1.kIn T.ei
  obtain ⟨f, cc, cda, dV, oc, ccl, cl, kV, doc, pm, ct, od, cdd, cld, an, osl, ccs, csl, file, tf, fvs, iC, tI, hf, hcd, hcda, hvs, hfile, hcc, hd0, hd1, k1, k2, k3, k4, k5, k6, k7, k8, k9⟩ := T.ini
  have kk : ∀ b o, hp.get? b = some o → ((hp.push (PySem.W.kdv_tup us)).push (HandSPX.excO C hp.objs.size)).get? b = some o := fun b o e => Heap.get?_push_of_some _ (Heap.get?_push_of_some _ e)
  have hget : ((hp.push (PySem.W.kdv_tup us)).push (HandSPX.excO C hp.objs.size)).get? (hp.objs.size + 1) = some (HandSPX.excO C hp.objs.size) := by heap_get
  have hCl : C < hp.objs.size := Heap.lt_size hC
  have hus : us.length ≤ sizeLine := by
    have z0 : us.length ≤ 1 := by
      rw [← r.length]
      rcases hv with ⟨z, _⟩ | ⟨z, _⟩
      · rw [z]
        exact Nat.zero_le _
      · rw [z]
        exact Nat.le_refl _
    exact Nat.le_trans z0 (by decide)
  obtain ⟨mb, hb1, hb2⟩ := I1.mod.blt
  have X2 : X.K.In ((hp.push (PySem.W.kdv_tup us)).push (HandSPX.excO C hp.objs.size)) := PySem.W.Frag.In.keeps I1.kIn kk
  obtain ⟨v, hbind, rv⟩ : ∃ v, BindsTo ⟨(hp.push (PySem.W.kdv_tup us)).push (HandSPX.excO C hp.objs.size), g, d, t, os⟩ (PySem.W.ksFn "__init__" i.q i.params i.body i.sc dV kV doc pm an (.ref cda) ct cc) ⟨.ref (hp.objs.size + 1) :: us, []⟩ [("self", .ref (hp.objs.size + 1)), (i.pn, v)] ∧ RelV vV v := by
    rcases hv with ⟨z, z2, z3⟩ | ⟨z, z3 | z3⟩
    · subst z z2
      cases r
      obtain ⟨T0, oT, nT, t1, rfl, lT, dT⟩ := hd0 z3
      exact ⟨_, bind_one z3 (T.pn hk2) X2 lT dT, ⟨_, rfl⟩⟩
    · subst z
      obtain ⟨u, rfl, ru⟩ := r.one
      obtain ⟨T0, oT, nT, t1, rfl, lT, dT⟩ := hd0 z3
      exact ⟨u, bind_two0 z3 (T.pn hk2) X2 lT dT, ru⟩
    · subst z
      obtain ⟨u, rfl, ru⟩ := r.one
      have e := hd1 (by rw [z3]; decide)
      subst e
      exact ⟨u, bind_two1 z3 (T.pn hk2), ru⟩
  refine wpAny_call (HandSPX.call_own F.excBase_Exception hT hC (PySem.W.looks_findIn I1.kIn iC) (fun self => PySem.W.bind_fn I1.kIn self tI) hus ?_)
  refine init_run T hk2 hf hcd hcda hvs hfile hcc k1 k2 k3 k4 k5 (k6 hk2) k7 k8 k9 X2 ((I1.ok.mod.nolimit.keeps I1.bk).keeps kk) ((I1.ok.mod.glob.keeps I1.bk).keeps kk) ((hb1.keeps I1.bk).keeps kk) ((hb2 _ (by decide)).trans (by decide +kernel)) (hr.make C us []).depth hbind hget ?_ (fun o z => ?_) (fun h' t' dx t2 hk hdx hne hx hn => ?_)
  · intro z
    have z2 : C < C := by
      refine Nat.lt_of_lt_of_le hCl ?_
      rw [← z]
      exact Nat.le_succ _
    exact Nat.lt_irrefl _ z2
  · have z2 : hp.objs.size + 1 < hp.objs.size := Heap.lt_size (I1.kIn _ _ z)
    omega
  · refine ⟨rfl, ?_⟩
    have hge : hp.objs.size ≤ dx := by
      have z1 : ((hp.push (PySem.W.kdv_tup us)).push (HandSPX.excO C hp.objs.size)).objs.size = hp.objs.size + 1 + 1 := by rw [Heap.size_push, Heap.size_push]
      have z2 : ((hp.push (PySem.W.kdv_tup us)).push (HandSPX.excO C hp.objs.size)).objs.size ≤ dx := hdx
      rw [z1] at z2
      exact Nat.le_trans (Nat.le_succ _) (Nat.le_trans (Nat.le_succ _) z2)
    have hnd : H1 dx = none := I1.hok.fresh hge
    have hne1 : H1 (hp.objs.size + 1) = none := I1.hok.fresh (Nat.le_succ _)
    obtain ⟨Gh, g1, g2⟩ := restrict h' fun b => decide (b ≠ hp.objs.size + 1)
    have gk : ∀ b, b ≠ hp.objs.size + 1 → Gh.get? b = h'.get? b := fun b hb => g1 b (decide_eq_true hb)
    have ge : Gh.get? (hp.objs.size + 1) = none := g2 _ (by simp)
    have ko : ∀ b o, hp.get? b = some o → Gh.get? b = some o := fun b o z => by
      have hb : b ≠ hp.objs.size + 1 := fun q => by
        have z2 : b < hp.objs.size := Heap.lt_size z
        rw [q] at z2
        exact Nat.not_succ_lt_self z2
      rw [gk b hb]
      exact hk b o hb (kk b o z)
    have nsG : Gh.Ns1 dx fun y => if y = i.nm then some v else none := hn.at fun o z => (gk dx hne).trans z
    have ok : ObjOk X.prog X.w (upd H1 dx (.xd [(i.nm, vV)])) Gh dx (.xd [(i.nm, vV)]) := by
      refine ⟨_, nsG, fun y => ?_⟩
      rw [lookup_put]
      by_cases hy : y = i.nm
      · rw [if_pos hy, if_pos hy]
        exact rv
      · rw [if_neg hy, if_neg hy]
        exact trivial
    have J : Inv X pins σ (upd H1 dx (.xd [(i.nm, vV)])) ⟨Gh, g, d, t', os⟩ := I1.laid (t' := t') (h' := Gh) ko hge ok
    refine ⟨hp.objs.size + 1, _, _, ⟨Gh, g, d, t', os⟩, _, .ref C, some dx, rfl, J, fun b o z => ?_, ge, hx, ⟨rfl, rfl⟩, rfl, rfl, ?_, rfl, I1.bare, raises_own T.exC T.tyC, q dx hnd⟩
    · have hb : b ≠ hp.objs.size + 1 := fun q => by
        rw [q, ge] at z
        cases z
      rw [gk b hb] at z
      exact z
    · rw [upd_ne (Ne.symm hne)]
      exact hne1
/-- C() of a class that keeps nothing -/
theorem core_bare {X : L2.Cx} {C : Addr} {x : Str} {i : IniT} (T : ExC X.prog X.K X.mg C x i) (hk2 : i.kd = 2) (hr : Room 4 X.A) {pins : List (Addr × Obj)} {σ : L2.St} {H1 : Hp} {Q : XK} {s1 : Shared} (I1 : Inv X pins σ H1 s1)
    (q : Q (.ref C) none H1) : wpAny (model X.prog X.w) X.A (call (.ref C) []) (MkP X pins σ Q) X.xe s1 := by
  obtain ⟨hp, g, d, t, os⟩ := s1
  obtain ⟨cnm, N', qn, bs, bm', hdct, sn, sub, ab, col, dd, s0, s1, s2, s3, s5, hC, hT⟩ := PySem.W.excInit_of I1.kIn T.ei
  obtain ⟨f, cc, cda, dV, oc, ccl, cl, kV, doc, pm, ct, od, cdd, cld, an, osl, ccs, csl, file, tf, fvs, iC, tI, hf, hcd, hcda, hvs, hfile, hcc, hd0, hd1, k1, k2, k3, k4, k5, k6, k7, k8, k9⟩ := T.ini
  have kk : ∀ b o, hp.get? b = some o → ((hp.push (PySem.W.kdv_tup [])).push (HandSPX.excO C hp.objs.size)).get? b = some o := fun b o e => Heap.get?_push_of_some _ (Heap.get?_push_of_some _ e)
  have hget : ((hp.push (PySem.W.kdv_tup [])).push (HandSPX.excO C hp.objs.size)).get? (hp.objs.size + 1) = some (HandSPX.excO C hp.objs.size) := by heap_get
  have hCl : C < hp.objs.size := Heap.lt_size hC
  obtain ⟨mb, hb1, hb2⟩ := I1.mod.blt
  have X2 : X.K.In ((hp.push (PySem.W.kdv_tup [])).push (HandSPX.excO C hp.objs.size)) := PySem.W.Frag.In.keeps I1.kIn kk
  have ed := hd1 (by rw [hk2]; decide)
  subst ed
  have hbind : BindsTo ⟨(hp.push (PySem.W.kdv_tup [])).push (HandSPX.excO C hp.objs.size), g, d, t, os⟩ (PySem.W.ksFn "__init__" i.q i.params i.body i.sc .none kV doc pm an (.ref cda) ct cc) ⟨[.ref (hp.objs.size + 1)], []⟩ [("self", .ref (hp.objs.size + 1))] := bind_bare hk2
  refine wpAny_call (HandSPX.call_own F.excBase_Exception hT hC (PySem.W.looks_findIn I1.kIn iC) (fun self => PySem.W.bind_fn I1.kIn self tI) (show ([] : List Value).length ≤ sizeLine by decide) ?_)
  refine init_bare T hk2 hf hcd hcda hvs hfile hcc k1 k2 k3 k4 k5 k7 k8 k9 X2 ((I1.ok.mod.nolimit.keeps I1.bk).keeps kk) ((I1.ok.mod.glob.keeps I1.bk).keeps kk) ((hb1.keeps I1.bk).keeps kk) ((hb2 _ (by decide)).trans (by decide +kernel)) (hr.make C [] []).depth hbind hget ?_ (fun o z => ?_) (fun h' t' t2 hk hx => ?_)
  · intro z
    have z2 : C < C := by
      refine Nat.lt_of_lt_of_le hCl ?_
      rw [← z]
      exact Nat.le_succ _
    exact Nat.lt_irrefl _ z2
  · have z2 : hp.objs.size + 1 < hp.objs.size := Heap.lt_size (I1.kIn _ _ z)
    omega
  · refine ⟨rfl, ?_⟩
    have hne1 : H1 (hp.objs.size + 1) = none := I1.hok.fresh (Nat.le_succ _)
    obtain ⟨Gh, g1, g2⟩ := restrict h' fun b => decide (b ≠ hp.objs.size + 1)
    have gk : ∀ b, b ≠ hp.objs.size + 1 → Gh.get? b = h'.get? b := fun b hb => g1 b (decide_eq_true hb)
    have ge : Gh.get? (hp.objs.size + 1) = none := g2 _ (by simp)
    have ko : ∀ b o, hp.get? b = some o → Gh.get? b = some o := fun b o z => by
      have hb : b ≠ hp.objs.size + 1 := fun q => by
        have z2 : b < hp.objs.size := Heap.lt_size z
        rw [q] at z2
        exact Nat.not_succ_lt_self z2
      rw [gk b hb]
      exact hk b o hb (kk b o z)
    have J : Inv X pins σ H1 ⟨Gh, g, d, t', os⟩ := I1.kept (t' := t') (h' := Gh) ko
    refine ⟨hp.objs.size + 1, _, _, ⟨Gh, g, d, t', os⟩, _, .ref C, none, rfl, J, fun b o z => ?_, ge, hx, ⟨rfl, rfl⟩, rfl, rfl, hne1, rfl, I1.bare, raises_own T.exC T.tyC, q⟩
    have hb : b ≠ hp.objs.size + 1 := fun q => by
      rw [q, ge] at z
      cases z
    rw [gk b hb] at z
    exact z
theorem exc_mk {P : Program} {w : World} {K : PySem.W.Frag} {mg : Str → Option Value} {base : Heap} {C : Addr} {x : Str} {i : IniT} {hd : Bool} (T : ExC P K mg C x i) (hk : i.kd = 0 ∨ i.kd = 1) (hh : hd = true → i.kd = 0) : ExMk P w K mg base C i.nm hd x := by
  intro X e1 e2 e3 e4 e5 hc hr xs ta p pos ha hnil hn hl hdd hg
  subst e1 e2 e3 e4 e5
  have hk2 : i.kd ≠ 2 := by
    rcases hk with z | z <;> rw [z] <;> decide
  intro pins s σ H Q I h
  refine wpAny_Call_Name_kw (ld_glob I hg T.gC ?_ T.nd)
  cases xs with
  | nil =>
    have h0 : i.kd = 0 := by
      rcases hdd with z | z
      · exact hh z
      · exact absurd rfl z
    obtain ⟨v, hv, q⟩ := hnil σ H _ rfl h
    refine PySem.W.callWith_K0 I.kIn T.kC (core_mk T hk2 hr I .nil ⟨v, ?_, q⟩)
    rcases hv with ⟨z1, z2, _⟩ | z
    · exact .inl ⟨z1, z2, h0⟩
    · cases z
  | cons y ys =>
    obtain ⟨n1, n2⟩ := and2 (show (notStar y && ys.all notStar) = true from hn)
    refine PySem.W.callWith_K (h₀ := X.base) I.ok.mod.kin T.kC ?_ (star_cons n1) (star_any n2)
    refine thn (ha.run pos pins s σ H _ I h) fun us s1 ⟨vs, H1, I1, r1, q1⟩ => ⟨I1.kIn, ?_⟩
    obtain ⟨v, hv, q⟩ := q1
    refine core_mk T hk2 hr I1 r1 ⟨v, ?_, q⟩
    rcases hv with ⟨z1, z2, z3⟩ | z
    · exact .inl ⟨z1, z2, hh z3⟩
    · exact .inr ⟨z, hk⟩
theorem exc_mkB {P : Program} {w : World} {K : PySem.W.Frag} {mg : Str → Option Value} {base : Heap} {C : Addr} {x : Str} {i : IniT} (T : ExC P K mg C x i) (hk : i.kd = 2) : ExMkB P w K mg base C x := by
  intro X e1 e2 e3 e4 e5 hc hr p pos hg
  subst e1 e2 e3 e4 e5
  intro pins s σ H Q I h
  refine wpAny_Call_Name_kw (ld_glob I hg T.gC ?_ T.nd)
  exact PySem.W.callWith_K0 I.kIn T.kC (core_bare T hk hr I h)
end Pf
set_option Elab.async false
set_option linter.all false
set_option maxRecDepth 100000
set_option maxHeartbeats 4000000
/-! Pf, part Y: an own exception made by a keyword and looked at on the spot. -/
namespace PySem.PfKw
section
open HandSPX Builtin Builtin.ObjectAttr
variable {prog : Program} {w : World} {A : Around} {E : Value → Shared → Prop} {R : Result → Shared → Prop} {h : Heap} {g : Array GenState} {d : Drawn} {t : Nat} {os : OsState} {kw : List (Str × Value)}
  {cn cq : Str} {C N : Addr} {bs bm bmB : List Value} {hdct : Bool} {sn : List Str} {sub : List Value} {ab : Bool} {col : Option Bool} {dd : Option Addr} {k0 k1 k2 k3 k5 : Option Value} {B nI iI : String}
theorem kw_check_new {M : Model} (F : ExcBaseFacts B nI iI bmB) (hT : ∀ X : String, bm.contains (.type X) = bmB.contains (.type X)) {rs : List Value} {Q : Unit → Shared → Prop}
    (hC : h.get? C = some (excClassObj cn cq C N bs bm hdct sn sub ab col dd k0 k1 k2 k3 k5 nI)) (hq : Q () ⟨h, g, d, t, os⟩) : wpAny M A (checkBuiltinCall nI ⟨.ref C :: rs, kw⟩) Q E ⟨h, g, d, t, os⟩ := by
  have z1 : (Value.ref C :: bm).contains (.type B) = true := by
    rw [List.contains_cons, hT, F.hasB, Bool.or_true]
  have z2 := F.noStar
  simp only [checkBuiltinCall, F.newKind, F.newSplit, F.newRow]
  repeat (first
    | refine wpAny_loadPart_at hC ?_
    | (refine wpAny_isSubtype_exc hC ?_; rw [z1])
    | refine wpAny_staticBase_exc hC ?_
    | refine wpAny_madeBy_exc hC ?_
    | simp only [bne_self_eq_false, Bool.false_eq_true, if_false]
    | wp_step)
  exact hq
theorem kw_new (F : ExcBaseFacts B nI iI bmB) (hT : ∀ X : String, bm.contains (.type X) = bmB.contains (.type X)) {rs : List Value} (hC : h.get? C = some (excClassObj cn cq C N bs bm hdct sn sub ab col dd k0 k1 k2 k3 k5 nI))
    (hq : R (.ok (.ret (.ref (h.objs.size + 1)))) ⟨(h.push (W.kdv_tup rs)).push (excO C h.objs.size), g, d, t, os⟩) (hl : rs.length ≤ sizeLine) :
    codeAny (model prog w) A (.builtin nI ⟨.ref C :: rs, kw⟩) R ⟨h, g, d, t, os⟩ := by
  have z0 := F.ends
  have zB : (Value.ref C :: bm).contains (.type B) = true := by
    rw [List.contains_cons, hT, F.hasB, Bool.or_true]
  have zA : (Value.ref C :: bm).contains (.type "AttributeError") = false := by
    rw [List.contains_cons, hT, F.noAttr]
    rfl
  have zN : (Value.ref C :: bm).contains (.type "NameError") = false := by
    rw [List.contains_cons, hT, F.noName]
    rfl
  refine codeAny_builtinAt F.entry ?_
  unfold Builtin.«BaseException.__new__»
  refine wpAt_bind ?_
  show wpAt _ _ _ (stack >>= _) _ _ _
  refine wpAt_bind (wpAt_stack fun p below => wpAt_of_wpAny ?_)
  wp_walk
  refine wpAt_of_wpAny ?_
  rw [F.owner]
  repeat (first
    | with_reducible refine wpAny_madeHere_exc F.canon hC ?_
    | with_reducible refine wpAny_loadPart_at hC ?_
    | (with_reducible refine wpAny_isSubtype_exc hC ?_; first | rw [zB] | rw [zA] | rw [zN])
    | wp_step)
  show R _ _
  rw [Heap.size_push]
  exact hq
theorem kw_type_call (F : ExcBaseFacts B nI iI bmB) (hT : ∀ X : String, bm.contains (.type X) = bmB.contains (.type X)) {rs : List Value} {fI : Addr} {Q : Fin → Shared → Prop} (hC : h.get? C = some (excClassObj cn cq C N bs bm hdct sn sub ab col dd k0 k1 k2 k3 k5 nI))
    (hi : W.Looks (model prog w) h (typeLookup (.ref C) "__init__") (some (.ref fI))) (hb : ∀ self, W.Looks (model prog w) h (bindSpecial (.ref fI) self) (.ref fI, [self])) (hl : rs.length ≤ sizeLine)
    (hq : codeAny (model prog w) A (.call (.ref fI) ⟨.ref (h.objs.size + 1) :: rs, kw⟩) (fun r s' => match r with
      | .ok (.ret v) => v = .none ∧ Q (.done (.ret (.ref (h.objs.size + 1)))) s'
      | .ok _ => False
      | .error e => E e s') ⟨(h.push (W.kdv_tup rs)).push (excO C h.objs.size), g, d, t, os⟩) :
    wpAny (model prog w) A (Builtin.«type.__call__» ⟨.ref C :: rs, kw⟩) Q E ⟨h, g, d, t, os⟩ := by
  repeat (first
    | with_reducible refine wpAny_loadPart_at hC ?_
    | with_reducible refine wpAny_madeBy_exc hC ?_
    | wp_step)
  refine codeAny_call_builtin_code (Code.quiet_builtin _ F.quiet) (kw_check_new F hT hC ?_)
  refine kw_new F hT hC ?_ hl
  show wpAny _ _ _ _ _ _
  have k : ∀ b o, h.get? b = some o → ((h.push (W.kdv_tup rs)).push (excO C h.objs.size)).get? b = some o := fun b o e => Heap.get?_push_of_some _ (Heap.get?_push_of_some _ e)
  have y1 := k _ _ hC
  have y2 : ((h.push (W.kdv_tup rs)).push (excO C h.objs.size)).get? (h.objs.size + 1) = some (excO C h.objs.size) := by heap_get
  have y3 : (Value.ref C :: bm).contains (.ref C) = true := by simp
  have i1 := hi.keeps k
  have b1 := (hb (.ref (h.objs.size + 1))).keeps k
  unfold isInstance
  repeat (first
    | with_reducible refine wpAny_loadPart_at y2 ?_
    | (with_reducible refine wpAny_isSubtype_exc y1 ?_; rw [y3])
    | wp_step)
  show wpAny _ _ (typeLookup (.ref C) _) _ _ _
  refine i1.at ?_
  refine wpAny_holding (wpAny_bind (b1.at ?_))
  refine wpAny_bind (wpAny_call (codeAny_mono hq fun r s' z => ?_))
  rcases r with e | (v | _ | _ | _) <;> first | exact z | exact z.elim | skip
  obtain ⟨rfl, z⟩ := z
  first
    | exact wpAny_pure (wpAny_pure z)
    | (wp_walk; exact z)
theorem kw_call (F : ExcBaseFacts B nI iI bmB) (hT : ∀ X : String, bm.contains (.type X) = bmB.contains (.type X)) {rs : List Value} {fI : Addr} (hC : h.get? C = some (excClassObj cn cq C N bs bm hdct sn sub ab col dd k0 k1 k2 k3 k5 nI))
    (hi : W.Looks (model prog w) h (typeLookup (.ref C) "__init__") (some (.ref fI))) (hb : ∀ self, W.Looks (model prog w) h (bindSpecial (.ref fI) self) (.ref fI, [self])) (hl : rs.length ≤ sizeLine)
    (hq : codeAny (model prog w) (A.under (.builtin "type.__call__" ⟨.ref C :: rs, kw⟩)) (.call (.ref fI) ⟨.ref (h.objs.size + 1) :: rs, kw⟩) (W.InitBack (h.objs.size + 1) R) ⟨(h.push (W.kdv_tup rs)).push (excO C h.objs.size), g, d, t, os⟩) :
    codeAny (model prog w) A (.call (.ref C) ⟨rs, kw⟩) R ⟨h, g, d, t, os⟩ := by
  have f1 := tc_lookup
  have f2 := tc_bind (.ref C)
  have hTy : (⟨h, g, d, t, os⟩ : Shared).TypeIs (.ref C) "type" := ⟨_, hC, rfl⟩
  refine codeAny_of_tree ?_
  show wpAny _ _ (callAny (.ref C) _) _ _ _
  repeat (any_goals (first | assumption | with_reducible refine wpAny_loadPart_at hC ?_ | wp_step))
  refine ⟨rfl, ?_⟩
  refine codeAny_call_builtin_at (Code.quiet_builtin _ (by decide +kernel)) entry_typeCall (wpAny_check_type_call_sub hC (kw_type_call F hT hC hi hb hl ?_))
  refine codeAny_mono hq fun r s' z => ?_
  rcases r with e | (v | _ | _ | _) <;> exact z
end
end PySem.PfKw
namespace Pf
open PySem PySem.Spec PyProof.Rows L2
/-- one value by its name -/
theorem k_one {X : L2.Cx} {e : Expr} {te : TE} {n : Str} {kp : Pos} (he : PE X e te) : PK X [⟨some n, e, kp⟩] (fun σ H Q => te σ H fun v H1 => Q [v] H1) :=
  ⟨fun pos pins s σ H Q I h => (pk_cons he pk_nil).run pos pins s σ H Q I h⟩
/-- C(pn = value) of a class that keeps something -/
theorem core_kw {X : L2.Cx} {C : Addr} {x : Str} {i : IniT} (T : ExC X.prog X.K X.mg C x i) (hk : i.kd = 0 ∨ i.kd = 1) (hr : Room 4 X.A) {pins : List (Addr × Obj)} {σ : L2.St} {H1 : Hp} {Q : XK} {s1 : Shared} {u : Value} {v : V} (I1 : Inv X pins σ H1 s1) (r : RelV v u)
    (q : ∀ dd, H1 dd = none → Q (.ref C) (some dd) (upd H1 dd (.xd [(i.nm, v)]))) : wpAny (model X.prog X.w) X.A (call (.ref C) [] [(i.pn, u)]) (MkP X pins σ Q) X.xe s1 := by
  have hk2 : i.kd ≠ 2 := by
    rcases hk with z | z <;> rw [z] <;> decide
  obtain ⟨hp, g, d, t, os⟩ := s1
  obtain ⟨cnm, N', qn, bs, bm', hdct, sn, sub, ab, col, dd, s0, s1, s2, s3, s5, hC, hT⟩ := PySem.W.excInit_of I1.kIn T.ei
  obtain ⟨f, cc, cda, dV, oc, ccl, cl, kV, doc, pm, ct, od, cdd, cld, an, osl, ccs, csl, file, tf, fvs, iC, tI, hf, hcd, hcda, hvs, hfile, hcc, hd0, hd1, k1, k2, k3, k4, k5, k6, k7, k8, k9⟩ := T.ini
  have kk : ∀ b o, hp.get? b = some o → ((hp.push (PySem.W.kdv_tup [])).push (HandSPX.excO C hp.objs.size)).get? b = some o := fun b o e => Heap.get?_push_of_some _ (Heap.get?_push_of_some _ e)
  have hget : ((hp.push (PySem.W.kdv_tup [])).push (HandSPX.excO C hp.objs.size)).get? (hp.objs.size + 1) = some (HandSPX.excO C hp.objs.size) := by heap_get
  have hCl : C < hp.objs.size := Heap.lt_size hC
  obtain ⟨mb, hb1, hb2⟩ := I1.mod.blt
  have X2 : X.K.In ((hp.push (PySem.W.kdv_tup [])).push (HandSPX.excO C hp.objs.size)) := PySem.W.Frag.In.keeps I1.kIn kk
  have hbind : BindsTo ⟨(hp.push (PySem.W.kdv_tup [])).push (HandSPX.excO C hp.objs.size), g, d, t, os⟩ (PySem.W.ksFn "__init__" i.q i.params i.body i.sc dV kV doc pm an (.ref cda) ct cc) ⟨[.ref (hp.objs.size + 1)], [(i.pn, u)]⟩ [("self", .ref (hp.objs.size + 1)), (i.pn, u)] := by
    rcases hk with z | z
    · obtain ⟨T0, oT, nT, t1, rfl, lT, dT⟩ := hd0 z
      exact bind_kw0 z (T.pn hk2) X2 lT dT
    · have e := hd1 (by rw [z]; decide)
      subst e
      exact bind_kw1 z (T.pn hk2)
  refine wpAny_call (PySem.PfKw.kw_call F.excBase_Exception hT hC (PySem.W.looks_findIn I1.kIn iC) (fun self => PySem.W.bind_fn I1.kIn self tI) (show ([] : List Value).length ≤ sizeLine by decide) ?_)
  refine init_run T hk2 hf hcd hcda hvs hfile hcc k1 k2 k3 k4 k5 (k6 hk2) k7 k8 k9 X2 ((I1.ok.mod.nolimit.keeps I1.bk).keeps kk) ((I1.ok.mod.glob.keeps I1.bk).keeps kk) ((hb1.keeps I1.bk).keeps kk) ((hb2 _ (by decide)).trans (by decide +kernel)) (hr.make C [] [(i.pn, u)]).depth hbind hget ?_ (fun o z => ?_) (fun h' t' dx t2 hk' hdx hne hx hn => ?_)
  · intro z
    have z2 : C < C := by
      refine Nat.lt_of_lt_of_le hCl ?_
      rw [← z]
      exact Nat.le_succ _
    exact Nat.lt_irrefl _ z2
  · have z2 : hp.objs.size + 1 < hp.objs.size := Heap.lt_size (I1.kIn _ _ z)
    omega
  · refine ⟨rfl, ?_⟩
    have hge : hp.objs.size ≤ dx := by
      have z1 : ((hp.push (PySem.W.kdv_tup [])).push (HandSPX.excO C hp.objs.size)).objs.size = hp.objs.size + 1 + 1 := by rw [Heap.size_push, Heap.size_push]
      have z2 : ((hp.push (PySem.W.kdv_tup [])).push (HandSPX.excO C hp.objs.size)).objs.size ≤ dx := hdx
      rw [z1] at z2
      exact Nat.le_trans (Nat.le_succ _) (Nat.le_trans (Nat.le_succ _) z2)
    have hnd : H1 dx = none := I1.hok.fresh hge
    have hne1 : H1 (hp.objs.size + 1) = none := I1.hok.fresh (Nat.le_succ _)
    obtain ⟨Gh, g1, g2⟩ := restrict h' fun b => decide (b ≠ hp.objs.size + 1)
    have gk : ∀ b, b ≠ hp.objs.size + 1 → Gh.get? b = h'.get? b := fun b hb => g1 b (decide_eq_true hb)
    have ge : Gh.get? (hp.objs.size + 1) = none := g2 _ (by simp)
    have ko : ∀ b o, hp.get? b = some o → Gh.get? b = some o := fun b o z => by
      have hb : b ≠ hp.objs.size + 1 := fun q => by
        have z2 : b < hp.objs.size := Heap.lt_size z
        rw [q] at z2
        exact Nat.not_succ_lt_self z2
      rw [gk b hb]
      exact hk' b o hb (kk b o z)
    have nsG : Gh.Ns1 dx fun y => if y = i.nm then some u else none := hn.at fun o z => (gk dx hne).trans z
    have ok : ObjOk X.prog X.w (upd H1 dx (.xd [(i.nm, v)])) Gh dx (.xd [(i.nm, v)]) := by
      refine ⟨_, nsG, fun y => ?_⟩
      rw [lookup_put]
      by_cases hy : y = i.nm
      · rw [if_pos hy, if_pos hy]
        exact r
      · rw [if_neg hy, if_neg hy]
        exact trivial
    have J : Inv X pins σ (upd H1 dx (.xd [(i.nm, v)])) ⟨Gh, g, d, t', os⟩ := I1.laid (t' := t') (h' := Gh) ko hge ok
    refine ⟨hp.objs.size + 1, _, _, ⟨Gh, g, d, t', os⟩, _, .ref C, some dx, rfl, J, fun b o z => ?_, ge, hx, ⟨rfl, rfl⟩, rfl, rfl, ?_, rfl, I1.bare, raises_own T.exC T.tyC, q dx hnd⟩
    · have hb : b ≠ hp.objs.size + 1 := fun q => by
        rw [q, ge] at z
        cases z
      rw [gk b hb] at z
      exact z
    · rw [upd_ne (Ne.symm hne)]
      exact hne1
theorem exc_mkV {P : Program} {w : World} {K : PySem.W.Frag} {mg : Str → Option Value} {base : Heap} {C : Addr} {x : Str} {i : IniT} (T : ExC P K mg C x i) (Tf : XfC K C) (hk : i.kd = 0 ∨ i.kd = 1) : ExMkV P w K mg base C i.nm i.pn x := by
  intro X e1 e2 e3 e4 e5 hc hr e te p kp pos pos2 he hg
  subst e1 e2 e3 e4 e5
  refine ⟨fun pins s σ H Q I h => ?_⟩
  refine attr_of rfl ?_
  refine wpAny_Call_Name_kw (ld_glob I hg T.gC ?_ T.nd)
  refine PySem.W.callWith_KW0 (h₀ := X.base) I.ok.mod.kin T.kC rfl ?_ rfl
  refine thn ((k_one he).run pos pins s σ H (fun vs H1 => match vs with | [v] => ∀ dd, H1 dd = none → Q v (upd H1 dd (.xd [(i.nm, v)])) | _ => False) I h) fun us s1 ⟨vs, H1, I1, r1, q⟩ => ⟨I1.kIn, ?_⟩
  obtain ⟨v, ev⟩ : ∃ v, vs = [v] := by
    match vs, q with
    | [v], _ => exact ⟨v, rfl⟩
  subst ev
  obtain ⟨u, eu, ru⟩ := r1.one
  subst eu
  show wpAny _ _ (call (.ref C) [] [(i.pn, u)]) _ _ _
  refine wpAny_mono (core_kw T hk hr (Q := fun cl od H2 => cl = .ref C ∧ ∃ dd, od = some dd ∧ H2 dd = some (.xd [(i.nm, v)]) ∧ Q v H2) I1 ru fun dd hdd => ⟨rfl, dd, rfl, upd_same, q dd hdd⟩) (fun z s' hz => ?_) (fun _ _ z => z)
  obtain ⟨a, oe, vs', sI, H', cls, od, rfl, J, k, hne, ha, hz, hdt, h1, na, os, ag, r, rfl, dd, rfl, hx, hQ⟩ := hz
  have J' : Inv X pins σ H' s' := J.landed (B := sI.heap) (fun b o e _ => e) k (.of_keeps k) os ag
  have ho : ObjOk X.prog X.w H' s'.heap dd (.xd [(i.nm, v)]) := J'.hok dd _ hx
  obtain ⟨mA, hns, hr'⟩ := ho
  obtain ⟨od, hod, hl⟩ := lookIn_ns hns
  have el : List.lookup i.nm [(i.nm, v)] = some v := by
    show (match i.nm == i.nm with | true => some v | false => List.lookup i.nm []) = some v
    rw [beq_self_eq_true]
  obtain ⟨u', hu, ru'⟩ := RelO.some_of (v := v) (o := mA i.nm) (by rw [← el]; exact hr' i.nm)
  have In : PySem.W.InstAt s'.heap a oe C (some od) := ⟨ha, hz.1, by unfold PySem.W.notCls; rw [hdt] <;> rfl, by rw [hz.2]; exact hod⟩
  exact HandSPX.exc_get J'.kIn In Tf.ga Tf.gg Tf.exC (PySem.W.findObj_own Tf.hdC T.no rfl (by rw [hl, hu])) (handed_of ru') ⟨v, H', J'.tok _, ru', hQ⟩
end Pf
set_option Elab.async false
set_option linter.all false
set_option maxRecDepth 100000
set_option maxHeartbeats 4000000
/-! Pf, part R: the head: what stands behind the top, read by a Hook. -/
namespace Pf
open PySem PySem.Spec PyProof.Rows L2

/-! ### an own exception, read off the heap -/
abbrev IniW : Type := Option (Str × Str × Arguments × FuncBody × Scope × Addr × List Str × Addr)
def iniA (K : PySem.W.Frag) (x : Str) : Addr := He.ma K (He.ga K x) "__init__"
def iniW (K : PySem.W.Frag) (x : Str) : IniW := match K.lookup (iniA K x) with
  | some ⟨_, _, .func fd, _⟩ => some (fd.name, fd.qualname, fd.params, fd.body, fd.scope, fd.globals, fd.closure.map (·.1), fd.builtins)
  | _ => none
def iniV (i : IniT) : IniW := some ("__init__", i.q, i.params, .stmts i.body, i.sc, mainGlobals, ["__class__"], builtinsNs)
def fileB (K : PySem.W.Frag) (file : Str) (a : Addr) : Bool := match K.lookup a with
  | some ⟨_, _, .fields vs, _⟩ => (match vs[2]? with
    | some (Value.str f _) => file == f
    | _ => false)
  | _ => false
def cellB (K : PySem.W.Frag) (C a : Addr) : Bool := match K.lookup a with
  | some ⟨_, _, .cell (some (.ref c)), _⟩ => decide (c = C)
  | _ => false
def oneB (K : PySem.W.Frag) (a : Addr) : Bool := match K.lookup a with
  | some ⟨_, _, .seq its _, _⟩ => (match its.toList with
    | [Value.int j _] => decide (j = -1)
    | _ => false)
  | _ => false
theorem fileB_ok {K : PySem.W.Frag} {file : Str} {a : Addr} (h : fileB K file a = true) : ∃ c d vs s f t, K.lookup a = some ⟨c, d, .fields vs, s⟩ ∧ vs[2]? = some (.str f t) ∧ (file == f) = true := by
  unfold fileB at h
  split at h
  · split at h
    · exact ⟨_, _, _, _, _, _, by assumption, by assumption, h⟩
    · cases h
  · cases h
theorem cellB_ok {K : PySem.W.Frag} {C a : Addr} (h : cellB K C a = true) : ∃ c d s, K.lookup a = some ⟨c, d, .cell (some (.ref C)), s⟩ := by
  unfold cellB at h
  split at h
  · rename_i e
    have z := of_decide_eq_true h
    subst z
    exact ⟨_, _, _, e⟩
  · cases h
theorem oneB_ok {K : PySem.W.Frag} {a : Addr} (h : oneB K a = true) : ∃ o t n, K.lookup a = some o ∧ o.data = .seq #[.int (-1) t] n := by
  unfold oneB at h
  split at h
  · rename_i c d its n s e
    split at h
    · rename_i j t e2
      have z := of_decide_eq_true h
      subst z
      refine ⟨_, t, n, e, ?_⟩
      have e3 : its = #[Value.int (-1) t] := by
        cases its
        exact congrArg Array.mk e2
      rw [e3]
    · cases h
  · cases h
/-- the defaults: of kind 0 the tuple of -1, else none -/
def dfB (K : PySem.W.Frag) (kd : Nat) (dV : Value) : Bool :=
  match dV with
  | .ref T => decide (kd = 0) && oneB K T
  | .none => !decide (kd = 0)
  | _ => false
theorem dfB_ok {K : PySem.W.Frag} {kd : Nat} {dV : Value} (h : dfB K kd dV = true) : (kd = 0 → ∃ (T : Addr) (oT : Obj) (nT : Nat) (t1 : Tok), dV = .ref T ∧ K.lookup T = some oT ∧ oT.data = .seq #[.int (-1) t1] nT) ∧ (kd ≠ 0 → dV = .none) := by
  unfold dfB at h
  split at h
  · obtain ⟨h1, h2⟩ := He.ba h
    obtain ⟨o, t1, n, o1, o2⟩ := oneB_ok h2
    exact ⟨fun _ => ⟨_, o, n, t1, rfl, o1, o2⟩, fun z => absurd (of_decide_eq_true h1) z⟩
  · refine ⟨fun z => ?_, fun _ => rfl⟩
    rw [z] at h
    cases h
  · cases h
def iniP (K : PySem.W.Frag) (C : Addr) (q file : Str) (kd : Nat) (dV : Value) : Value → List (Str × Addr) → Bool
  | .ref cda, [(_, cc)] => PySem.W.codeIn K (.ref cda) q && (fileB K file cda && (cellB K C cc && dfB K kd dV))
  | _, _ => false
theorem iniP_ok {K : PySem.W.Frag} {C : Addr} {q file : Str} {kd : Nat} {dV cV : Value} {cl : List (Str × Addr)} (h : iniP K C q file kd dV cV cl = true) :
    ∃ cda y cc, cV = .ref cda ∧ cl = [(y, cc)] ∧ PySem.W.codeIn K (.ref cda) q = true ∧ fileB K file cda = true ∧ cellB K C cc = true ∧ dfB K kd dV = true := by
  unfold iniP at h
  split at h
  · obtain ⟨b1, h⟩ := He.ba h
    obtain ⟨b2, h⟩ := He.ba h
    obtain ⟨b3, b4⟩ := He.ba h
    exact ⟨_, _, _, rfl, rfl, b1, b2, b3, b4⟩
  · cases h
def iniB (K : PySem.W.Frag) (C f : Addr) (q file : Str) (kd : Nat) : Bool := match K.lookup f with
  | some ⟨_, _, .func fd, _⟩ => iniP K C q file kd fd.defaults fd.code fd.closure
  | _ => false
def clsB (K : PySem.W.Frag) (C : Addr) : Bool := match PySem.W.clsIn K C with
  | some cd => (match cd.mro with
    | .ref C' :: bm => decide (C' = C) && (PySem.W.excTail exT bm && (cd.hasDict && decide (PySem.W.alongIn K "__init__" bm = some (some (.builtin "Exception.__init__")))))
    | _ => false)
  | none => false
theorem clsB_ok {K : PySem.W.Frag} {C : Addr} (h : clsB K C = true) : ∃ cd bm, PySem.W.clsIn K C = some cd ∧ cd.mro = .ref C :: bm ∧ PySem.W.excTail exT bm = true ∧ cd.hasDict = true ∧ PySem.W.alongIn K "__init__" bm = some (some (.builtin "Exception.__init__")) := by
  unfold clsB at h
  split at h
  · rename_i cd e
    split at h
    · rename_i C' bm e2
      obtain ⟨h1, h2⟩ := He.ba h
      obtain ⟨h3, h4⟩ := He.ba h2
      obtain ⟨h5, h6⟩ := He.ba h4
      have z := of_decide_eq_true h1
      subst z
      exact ⟨cd, bm, e, e2, h3, h5, of_decide_eq_true h6⟩
    · cases h
  · cases h
def excB (K : PySem.W.Frag) (x : Str) (i : IniT) (file : Str) : Bool :=
  let C := He.ga K x
  PySem.W.keepIn K (.ref C) && (PySem.W.excInitIn K C exT "Exception.__new__" && (He.eqO (PySem.W.findIn K (.ref C) "__setattr__") (some (some (.builtin "object.__setattr__"))) && (He.eqO (PySem.W.findIn K (.ref C) i.nm) (some none) &&
  (decide (PySem.W.subIn K (.ref C) (.type "Exception") = some true) && (decide (PySem.W.subIn K (.ref C) (.type "BaseException") = some true) && (decide (PySem.W.typeIn K (.ref C) = some (.type "type")) && (He.eqO (PySem.W.nsIn K cStatics "thirdparty.any") (some none) &&
  (decide (PySem.W.mroIn K C (.ref C) = some true) && (clsB K C && (xfB K C && (He.eqO (PySem.W.findIn K (.ref C) "__init__") (some (some (.ref (iniA K x)))) && (decide (PySem.W.typeIn K (.ref (iniA K x)) = some (.type "function")) && iniB K C (iniA K x) i.q file i.kd))))))))))))
/-- what an __init__'s scope is -/
structure IniS (i : IniT) : Prop where
  k1 : i.sc.kind = .function
  k2 : i.sc.isCoroutine = false
  k3 : i.sc.isGenerator = false
  k4 : ∀ y ∈ i.sc.names, y.2 ≠ .cell
  k5 : scIs i.sc "self" .local
  k6 : i.kd ≠ 2 → scIs i.sc i.pn .local
  k7 : scIs i.sc "super" .globalImplicit
  k8 : scIs i.sc "__class__" .free
  k9 : (i.p2.endLine == i.p4.line) = true
  pn : i.kd ≠ 2 → pnOk i.pn
theorem exc_of {P : Program} {K : PySem.W.Frag} {h : Heap} {mg : Str → Option Value} {x : Str} {i : IniT} (X : K.In h) (G : h.Ns mainGlobals mg) (hx : (He.Fa.glo x).ok K = true) (nd : (x == ("__debug__" : Str)) = false) (sup : mg "super" = none) (top : (P.main.scope.names.lookup ("super" : Str)).isSome = false)
    (hb : excB K x i P.main.file = true) (hw : iniW K x = iniV i) (S : IniS i) : ExC P K mg (He.ga K x) x i ∧ XfC K (He.ga K x) ∧ PySem.W.findIn K (.ref (He.ga K x)) i.nm = some none := by
  obtain ⟨h1, hb⟩ := He.ba hb
  obtain ⟨h2, hb⟩ := He.ba hb
  obtain ⟨h3, hb⟩ := He.ba hb
  obtain ⟨h4, hb⟩ := He.ba hb
  obtain ⟨h5, hb⟩ := He.ba hb
  obtain ⟨h6, hb⟩ := He.ba hb
  obtain ⟨h7, hb⟩ := He.ba hb
  obtain ⟨h8, hb⟩ := He.ba hb
  obtain ⟨h9, hb⟩ := He.ba hb
  obtain ⟨h10, hb⟩ := He.ba hb
  obtain ⟨h11, hb⟩ := He.ba hb
  obtain ⟨h12, hb⟩ := He.ba hb
  obtain ⟨h13, hb⟩ := He.ba hb
  refine ⟨⟨He.glo_ok X G hx, nd, h1, h2, He.eqO_ok h3, He.eqO_ok h4, of_decide_eq_true h5, of_decide_eq_true h6, of_decide_eq_true h7, sup, top, He.eqO_ok h8, of_decide_eq_true h9, clsB_ok h10, S.pn, ?_⟩, xfB_ok h11, He.eqO_ok h4⟩
  unfold iniB at hb
  unfold iniW at hw
  cases q : K.lookup (iniA K x) with
  | none =>
    rw [q] at hb
    cases hb
  | some o =>
    obtain ⟨oc, od, dt, osl⟩ := o
    rw [q] at hb hw
    cases dt with
    | func fd =>
      obtain ⟨n1, n2, n3, n4, n5, n6, n7, n8, n9, n10, n11, n12, n13, n14, n15⟩ := fd
      have e2 : (some (n1, n2, n3, n4, n5, n6, n7.map (·.1), n15) : IniW) = (some (("__init__" : Str), i.q, i.params, FuncBody.stmts i.body, i.sc, mainGlobals, [("__class__" : Str)], builtinsNs) : IniW) := hw
      simp only [Option.some.injEq, Prod.mk.injEq] at e2
      obtain ⟨a1, a2, a3, a4, a5, a6, a7, a8⟩ := e2
      subst a1 a2 a3 a4 a5 a6 a8
      obtain ⟨cda, y, cc, e2, e3, b1, b2, b3, b4⟩ := iniP_ok (show iniP K (He.ga K x) i.q P.main.file i.kd n8 n13 n7 = true from hb)
      subst e2 e3
      have ey : y = "__class__" := (List.cons.inj (show [y] = [("__class__" : Str)] from a7)).1
      subst ey
      obtain ⟨c1, c2, vs, c3, f, t, c4, c5, c6⟩ := fileB_ok b2
      obtain ⟨d1, d2, d3, d4⟩ := cellB_ok b3
      obtain ⟨o1, o2⟩ := dfB_ok b4
      exact ⟨_, cc, cda, n8, oc, c1, d1, n9, n10, n11, n14, od, c2, d2, n12, osl, c3, d3, f, t, vs, He.eqO_ok h12, of_decide_eq_true h13, q, b1, c4, c5, c6, d4, o1, o2, S.k1, S.k2, S.k3, S.k4, S.k5, S.k6, S.k7, S.k8, S.k9⟩
    | _ => cases hb

/-! ### a constant of the module -/
mutual
def datB (K : PySem.W.Frag) : D → Value → Bool
  | .non, .none => true
  | .bl b, .bool c => b == c
  | .int i, .int j _ => decide (i = j)
  | .str s, .str y _ => decide (y = ⟨s.toArray⟩)
  | .tup ds, .ref a => (match K.lookup a with
    | some ⟨.type c, _, .seq its _, _⟩ => decide (c = "tuple") && (decide (its.size ≤ sizeLine) && datsB K ds its.toList)
    | _ => false)
  | _, _ => false
def datsB (K : PySem.W.Frag) : List D → List Value → Bool
  | [], [] => true
  | d :: ds, u :: us => datB K d u && datsB K ds us
  | _, _ => false
end
mutual
theorem datB_ok {K : PySem.W.Frag} : ∀ {d : D} {u : Value}, datB K d u = true → ∃ v, RelV v u ∧ ∀ H, RD K H d v
  | .non, u, h => by
    cases u with
    | none => exact ⟨.non, rfl, fun _ => .non⟩
    | _ => simp [datB] at h
  | .bl b, u, h => by
    cases u with
    | bool c =>
      rw [datB] at h
      have e : b = c := eq_of_beq h
      rw [e]
      exact ⟨.bl c, rfl, fun _ => .bl c⟩
    | _ => simp [datB] at h
  | .int i, u, h => by
    cases u with
    | int j t =>
      rw [datB] at h
      have e : i = j := of_decide_eq_true h
      rw [e]
      exact ⟨.int j, ⟨t, rfl⟩, fun _ => .int j⟩
    | _ => simp [datB] at h
  | .str s, u, h => by
    cases u with
    | str y t =>
      rw [datB] at h
      have e : y = ⟨s.toArray⟩ := of_decide_eq_true h
      rw [e]
      exact ⟨.str ⟨s.toArray⟩, ⟨t, rfl⟩, fun _ => .str s⟩
    | _ => simp [datB] at h
  | .tup ds, u, h => by
    cases u with
    | ref a =>
      rw [datB] at h
      split at h
      · rename_i c od its n sl e
        obtain ⟨h1, h2⟩ := He.ba h
        obtain ⟨h3, h4⟩ := He.ba h2
        obtain ⟨vs, r, hd⟩ := datsB_ok h4
        have hl : ds.length ≤ sizeLine := by
          rw [(hd fun _ => none).length, r.length, Array.length_toList]
          exact of_decide_eq_true h3
        exact ⟨.ref a, rfl, fun H => .tup (.inr ⟨_, its, n, e, congrArg Value.type (of_decide_eq_true h1), rfl, of_decide_eq_true h3, r⟩) (hd H) hl⟩
      · cases h
    | _ => simp [datB] at h
  | .lst ds, u, h => by
    simp [datB] at h
theorem datsB_ok {K : PySem.W.Frag} : ∀ {ds : List D} {us : List Value}, datsB K ds us = true → ∃ vs, Vals vs us ∧ ∀ H, RDs K H ds vs
  | [], [], _ => ⟨[], .nil, fun _ => .nil⟩
  | [], _ :: _, h => by simp [datsB] at h
  | _ :: _, [], h => by simp [datsB] at h
  | d :: ds, u :: us, h => by
    rw [datsB] at h
    obtain ⟨h1, h2⟩ := He.ba h
    obtain ⟨v, r, hv⟩ := datB_ok h1
    obtain ⟨vs, rs, hvs⟩ := datsB_ok h2
    exact ⟨v :: vs, .cons r rs, fun H => .cons (hv H) (hvs H)⟩
end
def glC (K : PySem.W.Frag) (q : Str × D) : Bool := match PySem.W.nsIn K mainGlobals q.1 with
  | some (some u) => datB K q.2 u
  | _ => false
theorem glC_ok {K : PySem.W.Frag} {h : Heap} {mg : Str → Option Value} (X : K.In h) (G : h.Ns mainGlobals mg) {q : Str × D} (c : glC K q = true) : ∃ u v, mg q.1 = some u ∧ RelV v u ∧ ∀ H, RD K H q.2 v := by
  unfold glC at c
  split at c
  · rename_i u e
    obtain ⟨v, r, hv⟩ := datB_ok c
    exact ⟨u, v, PySem.W.mg_of X G e, r, hv⟩
  · cases c

/-! ### the Hook -/
structure Hd where
  n : Nat
  base : Str
  xs : List (Str × IniT)
  fn : List He.DefD
  sh : List (List (Nat × List Str × List Ag))
  gl : List (Str × D)
  bl : List Str
  file : Str
def Hd.cs (S : Hd) : List Str := S.base :: S.xs.map (·.1)
def Hd.tb (S : Hd) : Tb := ⟨S.bl, S.fn.map (·.name), S.sh, S.cs, S.gl, "" :: S.xs.map (·.2.nm), "" :: S.xs.map (·.2.pn), 9 :: S.xs.map (·.2.kd)⟩
def Hd.fa (S : Hd) : List He.Fa := .free "super" :: (S.fn.map fun d => He.Fa.glo d.name) ++ (S.cs.map He.Fa.glo ++ S.bl.map He.Fa.free)
def nodB : List Addr → Bool
  | [] => true
  | a :: as => (as.all fun b => !Nat.beq a b) && nodB as
theorem nodB_ok : ∀ {as : List Addr}, nodB as = true → as.Nodup
  | [], _ => List.nodup_nil
  | a :: as, h => by
    obtain ⟨h1, h2⟩ := He.ba (show ((as.all fun b => !Nat.beq a b) && nodB as) = true from h)
    refine List.nodup_cons.mpr ⟨fun hm => ?_, nodB_ok h2⟩
    have z := List.all_eq_true.mp h1 a hm
    rw [Nat.beq_refl] at z
    cases z
/-- a class that may be caught -/
def catB (K : PySem.W.Frag) (a : Addr) : Bool := (PySem.W.subIn K (.ref a) (.type "BaseException") == some true) && ((PySem.W.clsIn K a).isSome && PySem.W.typeIn K (.ref a) == some (.type "type"))
/-- its row of classes: itself, the base, Exception's -/
def rowB (K : PySem.W.Frag) (B a : Addr) : Bool := match PySem.W.clsIn K a with
  | some cd => (match cd.mro with
    | [.ref a', .ref B', .type t1, .type t2, .type t3] => Nat.beq a' a && Nat.beq B' B
    | _ => false)
  | none => false
def exmA (K : PySem.W.Frag) (as : List Addr) : Bool := nodB as && (as.all (catB K) && match as with
  | [] => true
  | B :: as => as.all (rowB K B))
def exmB (K : PySem.W.Frag) (cs : List Str) : Bool := exmA K (cs.map (He.ga K))
theorem nod_ix : ∀ {as : List Addr}, as.Nodup → ∀ (u v : Nat) (p : Addr), as[u]? = some p → as[v]? = some p → u = v
  | [], _, u, v, p, hu, _ => by simp at hu
  | a :: as, n, u, v, p, hu, hv => by
    obtain ⟨n1, n2⟩ := List.nodup_cons.mp n
    cases u with
    | zero =>
      cases v with
      | zero => rfl
      | succ v =>
        have e : a = p := Option.some.inj hu
        subst e
        exact absurd (List.mem_of_getElem? (show as[v]? = some a from hv)) n1
    | succ u =>
      cases v with
      | zero =>
        have e : a = p := Option.some.inj hv
        subst e
        exact absurd (List.mem_of_getElem? (show as[u]? = some a from hu)) n1
      | succ v => rw [nod_ix n2 u v p hu hv]
theorem exmA_ok {K : PySem.W.Frag} {as : List Addr} (c : exmA K as = true) {k h : Nat} {x y : Addr} (k0 : k ≠ 0) (hx : as[k]? = some x) (hy : as[h]? = some y) : PySem.W.exmOne K (.ref x) (.ref y) = some (decide (h = 0 ∨ h = k)) := by
  obtain ⟨c1, c2⟩ := He.ba c
  obtain ⟨c2, c3⟩ := He.ba c2
  have nd := nodB_ok c1
  obtain ⟨d1, d2⟩ := He.ba (show ((PySem.W.subIn K (.ref y) (.type "BaseException") == some true) && ((PySem.W.clsIn K y).isSome && PySem.W.typeIn K (.ref y) == some (.type "type"))) = true from List.all_eq_true.mp c2 y (List.mem_of_getElem? hy))
  cases as with
  | nil => simp at hx
  | cons B as =>
    cases k with
    | zero => exact absurd rfl k0
    | succ j =>
      have hx : as[j]? = some x := hx
      have r := List.all_eq_true.mp (show as.all (rowB K B) = true from c3) x (List.mem_of_getElem? hx)
      unfold rowB at r
      split at r
      · rename_i cd e1
        split at r
        · rename_i a' B' t1 t2 t3 e2
          obtain ⟨r1, r2⟩ := He.ba r
          have q1 : a' = x := Nat.eq_of_beq_eq_true r1
          have q2 : B' = B := Nat.eq_of_beq_eq_true r2
          subst q1 q2
          unfold PySem.W.exmOne
          rw [if_pos d1]
          show (if ((PySem.W.clsIn K y).isSome && PySem.W.typeIn K (.ref y) == some (.type "type")) = true then PySem.W.mroIn K a' (.ref y) else none) = _
          rw [if_pos d2]
          unfold PySem.W.mroIn
          rw [e1, Option.bind_some, e2]
          have e3 : ([Value.ref a', .ref B', .type t1, .type t2, .type t3].contains (.ref y)) = decide (h = 0 ∨ h = j + 1) := by
            have ix := nod_ix nd
            by_cases hz : h = 0 ∨ h = j + 1
            · rw [decide_eq_true hz]
              rcases hz with z | z
              · subst z
                have e : B' = y := Option.some.inj hy
                subst e
                simp
              · subst z
                have e : a' = y := Option.some.inj (hx.symm.trans hy)
                subst e
                simp
            · rw [decide_eq_false hz]
              have n1 : y ≠ a' := fun e => hz (.inr (ix h (j + 1) y hy (by rw [e]; exact hx)))
              have n2 : y ≠ B' := fun e => hz (.inl (ix h 0 y hy (by rw [e]; rfl)))
              simp [n1, n2]
          rw [e3]
          rfl
        · cases r
      · cases r
abbrev AlP : Type := Bool × List He.FnW × List IniW
def obsP (S : Hd) (K : PySem.W.Frag) : AlP := ((S.fa.all fun f => f.ok K) && ((S.fn.all fun d => d.ok K) && ((S.xs.all fun q => excB K q.1 q.2 S.file) && (S.gl.all (glC K) && exmB K S.cs))), S.fn.map fun d => He.fnW K d.at_, S.xs.map fun q => iniW K q.1)
def valP (S : Hd) : AlP := (true, S.fn.map He.DefD.val, S.xs.map fun q => iniV q.2)
def SaysP (S : Hd) (K : PySem.W.Frag) : Prop := obsP S K = valP S
/-- what is reached from some objects, each once: the mask tells what was met -/
def addN (acc : List Addr × Nat) (a : Addr) : List Addr × Nat := match Nat.testBit acc.2 a with
  | true => acc
  | false => (a :: acc.1, acc.2 ||| (1 <<< a))
def stepN (g : Addr → Option Obj) : List Addr → List Addr × Nat → List Addr × Nat
  | [], acc => acc
  | a :: as, acc => stepN g as (match g a with
    | some o => (He.refsD o).foldl addN acc
    | none => acc)
def asN (g : Addr → Option Obj) : Nat → List Addr × Nat → List Addr
  | 0, p => p.1
  | n + 1, p => p.1 ++ asN g n (stepN g p.1 ([], p.2))
def obsPG (S : Hd) (g : Addr → Option Obj) : AlP := obsP S (He.frG g (cStatics :: asN g S.n ([mainGlobals], 1 <<< mainGlobals)))
def hookP (S : Hd) : PySem.W.Hook where
  α := AlP
  obs := fun s => obsPG S s.heap.get?
  val := fun _ => valP S
  says := fun _ h => ∃ K : PySem.W.Frag, K.In h ∧ SaysP S K
  of := fun _ _ e => ⟨_, He.frG_in, e⟩
  keeps := fun _ _ _ ⟨K, hK, c⟩ k => ⟨K, PySem.W.Frag.In.keeps hK k, c⟩
theorem obsPG_eq {S : Hd} {g : Addr → Option Obj} {s : Shared} (h : ∀ a, g a = s.heap.get? a) : obsPG S g = (hookP S).obs s := by
  have e : g = s.heap.get? := funext h
  rw [e] <;> rfl
def obP (S : Hd) (s : PySem.W.SharedT) : AlP := obsPG S (HandSHeadRun.getT s)
theorem obP_eq (S : Hd) (s : PySem.W.SharedT) : obP S s = (hookP S).obs s.abs := obsPG_eq (HandSHeadRun.getT_eq s)
end Pf
set_option Elab.async false
set_option linter.all false
set_option maxRecDepth 100000
set_option maxHeartbeats 4000000
/-! Pf, part S: from the head's facts to the law's def. -/
namespace Pf
open PySem PySem.Spec PyProof.Rows L2

/-! ### arguments that reach their parameters -/
section
variable {K : PySem.W.Frag} {x qual : Str} {params : Arguments} {body : List Stmt} {scope : Scope} {dvs : List V} {kws : List (Str × V)} {f : Addr} {fd : FuncData} {n : Nat} {ks ps : List Str} {pm : List Ag}
theorem bindF0 (F : FunD K x qual params body scope [] kws f fd)
    (h : ∀ (kV doc pmo : Value) (an : Option Addr) (cdv ct : Value) (us ws : List Value), us.length = n → ws.length = ks.length → ∃ rs, bindArgs (PySem.W.fnOf x qual params body scope .none kV doc pmo an cdv ct) ⟨us, ks.zip ws⟩ = pure (ps.zip rs) ∧ ArrOk K (us ++ ws) pm rs) : BindF K fd ps n ks pm := by
  intro s us ws X h1 h2
  obtain ⟨oc, od, dV, kV, doc, pmo, an, cdv, ct, osl, rfl, lk, hcd, hD, hK⟩ := F.ex
  rcases hD with ⟨_, rfl⟩ | ⟨e, _⟩
  · obtain ⟨rs, e1, e2⟩ := h kV doc pmo an cdv ct us ws h1 h2
    exact ⟨rs, .of_eq e1, e2⟩
  · exact absurd rfl e
theorem bindF1 (F : FunD K x qual params body scope dvs kws f fd) (hd : dvs ≠ [])
    (h : ∀ (T : Addr) (kV doc pmo : Value) (an : Option Addr) (cdv ct : Value) (us ws its : List Value), us.length = n → ws.length = ks.length → Vals dvs its →
      ∃ rs k, bindArgs (PySem.W.fnOf x qual params body scope (.ref T) kV doc pmo an cdv ct) ⟨us, ks.zip ws⟩ = seqItems? (.ref T) >>= k ∧ k (some its.toArray) = pure (ps.zip rs) ∧ ArrOk K (us ++ ws) pm rs) : BindF K fd ps n ks pm := by
  intro s us ws X h1 h2
  obtain ⟨oc, od, dV, kV, doc, pmo, an, cdv, ct, osl, rfl, lk, hcd, hD, hK⟩ := F.ex
  rcases hD with ⟨e, _⟩ | ⟨_, T, o, its, m, rfl, lT, oT, rT⟩
  · exact absurd e hd
  · obtain ⟨rs, k, e1, e2, e3⟩ := h T kV doc pmo an cdv ct us ws its h1 h2 rT
    refine ⟨rs, BindsTo.of_looks fun M => ?_, e3⟩
    rw [e1]
    exact looks_items X lT oT (.of_pure e2)
end

/-! ### the world -/
section
variable {S : Hd} {P : Program} {w : World} {K : PySem.W.Frag} {mg : Str → Option Value} {h base : Heap}
theorem SaysP.parts (c : SaysP S K) : (∀ f ∈ S.fa, f.ok K = true) ∧ (∀ d ∈ S.fn, d.ok K = true) ∧ (∀ q ∈ S.xs, excB K q.1 q.2 S.file = true) ∧ (∀ q ∈ S.gl, glC K q = true) ∧ exmB K S.cs = true := by
  have c1 : ((S.fa.all fun f => f.ok K) && ((S.fn.all fun d => d.ok K) && ((S.xs.all fun q => excB K q.1 q.2 S.file) && (S.gl.all (glC K) && exmB K S.cs)))) = true := congrArg (fun z : AlP => z.1) c
  obtain ⟨h1, c1⟩ := He.ba c1
  obtain ⟨h2, c1⟩ := He.ba c1
  obtain ⟨h3, c1⟩ := He.ba c1
  obtain ⟨h4, h5⟩ := He.ba c1
  exact ⟨List.all_eq_true.mp h1, List.all_eq_true.mp h2, List.all_eq_true.mp h3, List.all_eq_true.mp h4, h5⟩
theorem SaysP.fns (c : SaysP S K) : S.fn.map (fun d => He.fnW K d.at_) = S.fn.map He.DefD.val := congrArg (fun z : AlP => z.2.1) c
theorem SaysP.inis (c : SaysP S K) : S.xs.map (fun q => iniW K q.1) = S.xs.map fun q => iniV q.2 := congrArg (fun z : AlP => z.2.2) c
theorem SaysP.def_ (c : SaysP S K) (i : Nat) {d : He.DefD} (h : S.fn[i]? = some d) : ∃ fd, FunD K d.name d.qual d.params d.body d.scope (d.dvs K) (d.kws K) (He.fAd K d.at_) fd := by
  have e2 : (S.fn.map fun d => He.fnW K d.at_)[i]? = (S.fn.map He.DefD.val)[i]? := by rw [c.fns]
  rw [List.getElem?_map, List.getElem?_map, h] at e2
  exact He.DefD.funD (Option.some.inj e2) (c.parts.2.1 d (List.mem_of_getElem? h))
theorem SaysP.ini_ (c : SaysP S K) {i : Nat} {q : Str × IniT} (h : S.xs[i]? = some q) : iniW K q.1 = iniV q.2 := by
  have e2 : (S.xs.map fun q => iniW K q.1)[i]? = (S.xs.map fun q => iniV q.2)[i]? := by rw [c.inis]
  rw [List.getElem?_map, List.getElem?_map, h] at e2
  exact Option.some.inj e2
theorem SaysP.glo (c : SaysP S K) (X : K.In h) (G : h.Ns mainGlobals mg) {x : Str} (hx : He.Fa.glo x ∈ S.fa) : mg x = some (.ref (He.ga K x)) := He.glo_ok X G (c.parts.1 _ hx)
theorem SaysP.free (c : SaysP S K) (X : K.In h) (G : h.Ns mainGlobals mg) {x : Str} (hx : He.Fa.free x ∈ S.fa) : mg x = none := He.free_ok X G (c.parts.1 _ hx)
def Hd.cls (S : Hd) (K : PySem.W.Frag) : Nat → Option (Addr × Str)
  | 0 => none
  | k + 1 => S.xs[k]?.map fun q => (He.ga K q.1, q.2.nm)
def Hd.ca (S : Hd) (K : PySem.W.Frag) (k : Nat) : Option Addr := S.cs[k]?.map (He.ga K)
theorem cls_some {k : Nat} {C : Addr} {nm : Str} (h : S.cls K k = some (C, nm)) : k ≠ 0 ∧ ∃ x i, S.cs[k]? = some x ∧ S.xs[k - 1]? = some (x, i) ∧ C = He.ga K x ∧ nm = i.nm := by
  cases k with
  | zero => cases h
  | succ j =>
    have h : S.xs[j]?.map (fun q => (He.ga K q.1, q.2.nm)) = some (C, nm) := h
    cases e : S.xs[j]? with
    | none =>
      rw [e] at h
      cases h
    | some q =>
      rw [e] at h
      have z : (He.ga K q.1, q.2.nm) = (C, nm) := Option.some.inj h
      refine ⟨Nat.succ_ne_zero _, q.1, q.2, ?_, e, (congrArg Prod.fst z).symm, (congrArg Prod.snd z).symm⟩
      show (S.xs.map (·.1))[j]? = some q.1
      rw [List.getElem?_map, e]
      rfl
theorem cs_fa {k : Nat} {x : Str} (h : S.cs[k]? = some x) : He.Fa.glo x ∈ S.fa :=
  List.mem_append.mpr (.inr (List.mem_append.mpr (.inl (List.mem_map.mpr ⟨x, List.mem_of_getElem? h, rfl⟩))))
theorem cs_xs {k : Nat} {x : Str} (h : S.cs[k]? = some x) (hk : k ≠ 0) : ∃ (j : Nat) (i : IniT), S.xs[j]? = some (x, i) := by
  cases k with
  | zero => exact absurd rfl hk
  | succ j =>
    have h : (S.xs.map (·.1))[j]? = some x := h
    rw [List.getElem?_map] at h
    cases e : S.xs[j]? with
    | none =>
      rw [e] at h
      cases h
    | some q =>
      rw [e] at h
      obtain ⟨y, i⟩ := q
      have z : y = x := Option.some.inj h
      subst z
      exact ⟨j, i, e⟩
/-- what must be so of the texts alone -/
structure HdOk (S : Hd) (P : Program) : Prop where
  nd : ∀ q ∈ S.xs, (q.1 == ("__debug__" : Str)) = false
  ini : ∀ q ∈ S.xs, IniS q.2
  top : (P.main.scope.names.lookup ("super" : Str)).isSome = false
  file : S.file = P.main.file
theorem xk_get {j : Nat} {x : Str} {i : IniT} (h : S.xs[j]? = some (x, i)) : S.tb.xk[j + 1]? = some i.kd ∧ S.tb.xn[j + 1]? = some i.nm ∧ S.tb.xp[j + 1]? = some i.pn := by
  refine ⟨?_, ?_, ?_⟩
  · show (S.xs.map (·.2.kd))[j]? = _
    rw [List.getElem?_map, h]
    rfl
  · show (S.xs.map (·.2.nm))[j]? = _
    rw [List.getElem?_map, h]
    rfl
  · show (S.xs.map (·.2.pn))[j]? = _
    rw [List.getElem?_map, h]
    rfl
theorem ground (c : SaysP S K) (O : HdOk S P) (X : K.In h) (G : h.Ns mainGlobals mg) : Ground P w K mg base (S.cls K) (S.ca K) S.tb := by
  obtain ⟨p1, p2, p3, p4, p5⟩ := c.parts
  have exc : ∀ {j : Nat} {x : Str} {i : IniT}, S.xs[j]? = some (x, i) → ExC P K mg (He.ga K x) x i ∧ XfC K (He.ga K x) ∧ PySem.W.findIn K (.ref (He.ga K x)) i.nm = some none := fun {j x i} hj => by
    have hm : (x, i) ∈ S.xs := List.mem_of_getElem? hj
    have hx : He.Fa.glo x ∈ S.fa := List.mem_append.mpr (.inr (List.mem_append.mpr (.inl (List.mem_map.mpr ⟨x, List.mem_cons_of_mem _ (List.mem_map.mpr ⟨(x, i), hm, rfl⟩), rfl⟩))))
    refine exc_of X G (p1 _ hx) (O.nd _ hm) (c.free X G (List.mem_cons_self ..)) O.top ?_ (c.ini_ hj) (O.ini _ hm)
    rw [← O.file]
    exact p3 _ hm
  have at_ : ∀ {k : Nat} {x : Str}, S.tb.cs[k]? = some x → k ≠ 0 → ∃ j i, k = j + 1 ∧ S.xs[j]? = some (x, i) ∧ S.cls K k = some (He.ga K x, i.nm) := fun {k x} hk h0 => by
    have hk : S.cs[k]? = some x := hk
    cases k with
    | zero => exact absurd rfl h0
    | succ j =>
      have hk : (S.xs.map (·.1))[j]? = some x := hk
      rw [List.getElem?_map] at hk
      cases e : S.xs[j]? with
      | none =>
        rw [e] at hk
        cases hk
      | some q =>
        rw [e] at hk
        obtain ⟨y, i⟩ := q
        have z : y = x := Option.some.inj hk
        subst z
        refine ⟨j, i, rfl, e, ?_⟩
        show S.xs[j]?.map (fun q => (He.ga K q.1, q.2.nm)) = _
        rw [e]
        rfl
  refine ⟨fun x hx => ?_, fun q hq => glC_ok X G (p4 q hq), ⟨fun k C nm hk => ?_, fun h' k C Ch nm hk hc => ?_⟩, fun k x hk => ?_, fun k x hk h0 hx => ?_, fun k x hk h0 hx => ?_, fun k C nm hk hx => ?_⟩
  · exact c.free X G (List.mem_append.mpr (.inr (List.mem_append.mpr (.inr (List.mem_map.mpr ⟨x, hx, rfl⟩)))))
  · obtain ⟨_, x, i, e1, _, rfl, _⟩ := cls_some hk
    unfold Hd.ca
    rw [e1]
    rfl
  · obtain ⟨h0, x, i, e1, _, rfl, _⟩ := cls_some hk
    unfold Hd.ca at hc
    cases e2 : S.cs[h']? with
    | none =>
      rw [e2] at hc
      cases hc
    | some y =>
      rw [e2] at hc
      have z : He.ga K y = Ch := Option.some.inj hc
      subst z
      have g1 : (S.cs.map (He.ga K))[k]? = some (He.ga K x) := by
        rw [List.getElem?_map, e1]
        rfl
      have g2 : (S.cs.map (He.ga K))[h']? = some (He.ga K y) := by
        rw [List.getElem?_map, e2]
        rfl
      exact exmA_ok p5 h0 g1 g2
  · have hk : S.cs[k]? = some x := hk
    refine ⟨He.ga K x, ?_, c.glo X G (cs_fa hk)⟩
    unfold Hd.ca
    rw [hk]
    rfl
  · obtain ⟨j, i, rfl, e, hc⟩ := at_ hk h0
    obtain ⟨g1, g2, g3⟩ := xk_get e
    obtain ⟨t1, t2, t3⟩ := exc e
    have hkd : i.kd = 0 ∨ i.kd = 1 := by
      rw [g1] at hx
      exact hx.imp Option.some.inj Option.some.inj
    refine ⟨He.ga K x, i.nm, hc, g2, exc_mk t1 hkd fun z => ?_, fun pn hp => ?_⟩
    · have z := of_decide_eq_true z
      rw [g1] at z
      exact Option.some.inj z
    · have z : i.pn = pn := Option.some.inj (g3.symm.trans hp)
      subst z
      exact exc_mkV t1 t2 hkd
  · obtain ⟨j, i, rfl, e, hc⟩ := at_ hk h0
    obtain ⟨g1, g2, g3⟩ := xk_get e
    rw [g1] at hx
    exact ⟨He.ga K x, i.nm, hc, exc_mkB (exc e).1 (Option.some.inj hx)⟩
  · obtain ⟨h0, x, i, e1, e2, rfl, rfl⟩ := cls_some hk
    cases k with
    | zero => exact absurd rfl h0
    | succ j =>
      have e2 : S.xs[j]? = some (x, i) := e2
      exact ⟨(xk_get e2).2.1, (exc e2).2⟩
/-- a def's text is its code's -/
structure DefS (T : Tb) (fd : Fd) (d : He.DefD) (sh : List (Nat × List Str × List Ag)) : Prop where
  at_ : d.at_ = (d.name, none)
  ex : ∃ N ps : List Str, FnScope N ps d.scope ∧ okSs T N fd.body true d.scope d.body = true ∧ fd.n = N.length ∧ fd.ps = ps.length ∧
    ∀ (K : PySem.W.Frag) (a : Addr) (fdv : FuncData), FunD K d.name d.qual d.params d.body d.scope (d.dvs K) (d.kws K) a fdv → ∀ q ∈ sh, BindF K fdv ps q.1 q.2.1 q.2.2
inductive DefsS (T : Tb) : List Fd → List He.DefD → List (List (Nat × List Str × List Ag)) → Prop
  | nil : DefsS T [] [] []
  | cons {fd : Fd} {d : He.DefD} {sh : List (Nat × List Str × List Ag)} {fds : List Fd} {ds : List He.DefD} {ss : List (List (Nat × List Str × List Ag))} : DefS T fd d sh → DefsS T fds ds ss → DefsS T (fd :: fds) (d :: ds) (sh :: ss)
theorem DefsS.get {T : Tb} : ∀ {fds : List Fd} {ds : List He.DefD} {ss : List (List (Nat × List Str × List Ag))} {i : Nat} {d : He.DefD}, DefsS T fds ds ss → ds[i]? = some d → ∃ fd, fds[i]? = some fd ∧ DefS T fd d (ss[i]?.getD [])
  | _, _, _, _, _, .nil, h => by simp at h
  | _, _, _, 0, _, .cons p r, h => by
    cases h
    exact ⟨_, rfl, p⟩
  | _, _, _, i + 1, _, .cons p r, h => DefsS.get (i := i) r h
theorem defs_at (c : SaysP S K) (X : K.In h) (G : h.Ns mainGlobals mg) {fds : List Fd} (D : DefsS S.tb fds S.fn S.sh) : ∀ f x, S.tb.fn[f]? = some x → DefAt K mg S.tb (fun i => fds[i]?) f x (S.tb.sh[f]?.getD []) := by
  intro f x hf
  have hf : (S.fn.map (·.name))[f]? = some x := hf
  rw [List.getElem?_map] at hf
  cases e : S.fn[f]? with
  | none =>
    rw [e] at hf
    cases hf
  | some d =>
    rw [e] at hf
    have z : d.name = x := Option.some.inj hf
    subst z
    obtain ⟨fd, hfd, R⟩ := D.get e
    obtain ⟨fdv, F⟩ := c.def_ f e
    obtain ⟨N, ps, r1, r2, r3, r4, r5⟩ := R.ex
    have hg : He.Fa.glo d.name ∈ S.fa := List.mem_append.mpr (.inl (List.mem_cons_of_mem _ (List.mem_map.mpr ⟨d, List.mem_of_getElem? e, rfl⟩)))
    have ha : He.fAd K d.at_ = He.ga K d.name := by
      rw [R.at_]
      rfl
    exact ⟨He.fAd K d.at_, fdv, fd, N, ps, d.name, d.qual, d.params, d.body, d.scope, d.dvs K, d.kws K, hfd, by rw [ha]; exact c.glo X G hg, F, r1, r2, r3, r4, r5 K _ fdv F⟩
end
/-- a call's exceptions, of whatever world -/
def CXU (P : Program) : CXT := fun outer H s E u s' => ∃ w, L2.CX P w outer H s E u s'
theorem cxu_of {P : Program} {w : World} {K : PySem.W.Frag} {mg : Str → Option Value} {base : Heap} {k : Nat} {f : Addr} {fd : FuncData} {ps : List Str} {sp : Sp} (F : FnOk P w K mg base (L2.CX P w) k f fd ps sp) : FnOk P w K mg base (CXU P) k f fd ps sp :=
  ⟨F.len, fun A outer s H args us vs Q E hr he hb hv hs => codeAny_mono (F.run A outer s H args us vs Q E hr he hb hv hs) fun r s' q => by
    cases r with
    | error e => exact ⟨w, q⟩
    | ok v =>
      cases v with
      | ret u => exact q
      | _ => exact q.elim⟩
theorem cxu_no {P : Program} (H : Hp) (s : Shared) (e : Value) (s' : Shared) : CXU P [] H s (fun _ _ _ => False) e s' → False := fun ⟨w, a, B, H', cls, d, _, _, _, _, _, _, _, h⟩ => h
/-- the law's def, of one parameter -/
theorem law_facts {S : Hd} {P : Program} {w : World} {K : PySem.W.Frag} {h : Heap} {mg : Str → Option Value} {f : Addr} {fds : List Fd} {li turns j : Nat} {dl : He.DefD} {fdl : Fd} {N : List Str} {x : Str} {C : List Int → Prop} (c : SaysP S K) (O : HdOk S P) (D : DefsS S.tb fds S.fn S.sh) (X : K.In h) (G : h.Ns mainGlobals mg)
    (hl : S.fn[li]? = some dl) (hat : dl.at_ = (dl.name, none)) (hdfl : dl.dfl = []) (hfa : mg dl.name = some (.ref f))
    (hbind : ∀ (kV doc pm : Value) (an : Option Addr) (cdv ct : Value) (us : List Value), us.length = [x].length → bindArgs (PySem.W.fnOf dl.name dl.qual dl.params dl.body dl.scope .none kV doc pm an cdv ct) ⟨us, []⟩ = pure ([x].zip us))
    (hfd : fds[li]? = some fdl) (r1 : FnScope N [x] dl.scope) (r2 : okSs S.tb N fdl.body true dl.scope dl.body = true) (r3 : fdl.n = N.length) (r4 : fdl.ps = 1) (hC : ∀ ns, C ns → ns.length ≤ sizeLine)
    (run : ∀ ns, C ns → ∃ st, callF (fun i => fds[i]?) turns (j + 1) li [.v (.lst (ns.map .int))] [] = .ok (.v (.bl true)) st) :
    ∃ fd : FuncData, (∀ (s : Shared) (v : Value), BindsTo s fd ⟨[v], []⟩ [(x, v)]) ∧ ∀ base : Heap, K.In base → base.Ns mainGlobals mg → FnOk P w K mg base (CXU P) (j + 1 + 4) f fd [x] (spLaw K C) := by
  obtain ⟨fd, F⟩ := c.def_ li hl
  have hg : He.Fa.glo dl.name ∈ S.fa := List.mem_append.mpr (.inl (List.mem_cons_of_mem _ (List.mem_map.mpr ⟨dl, List.mem_of_getElem? hl, rfl⟩)))
  have ea : He.fAd K dl.at_ = f := by
    rw [hat]
    have z := (c.glo X G hg).symm.trans hfa
    exact Value.ref.inj (Option.some.inj z)
  rw [ea] at F
  have e0 : dl.dvs K = [] := by
    unfold He.DefD.dvs
    rw [hdfl]
    rfl
  rw [e0] at F
  have b := FunD.bindsA (ps := [x]) F hbind
  refine ⟨fd, fun s v => b s [v] rfl, fun base hb1 hb2 => ?_⟩
  have Gr : Ground P w K mg base (S.cls K) (S.ca K) S.tb := ground c O X G
  have ok := fn_ok (tab := fun i => fds[i]?) (turns := turns) (j := j) (f := li) Gr hfd F r1 r2 r3 r4 (levels Gr (defs_at c X G D) j)
  exact cxu_of (ok.imp fun vs H Q E q => law_sp hC run q)

/-! ### an own exception's __init__ out of its class's text -/
def iniOf (q : Str) (st : Stmt) : IniT :=
  let s := match st with
    | .ClassDef (body := b) .. => b.getD 0 (.Pass default)
    | _ => .Pass default
  let z : Expr := .Constant .none 0 default
  match L2.defArgs s, L2.defBody s with
  | ⟨_, [a, b], _, _, _, _, [e0]⟩, [.Expr (.Call (.Attribute (.Call (.Name _ p0) [] [] p1) _ p2) [.Constant (.str msg) j p3] [] p4) p5, .Assign [.Attribute (.Name _ p6) nm p7] (.Name pn p8) p9] => ⟨q, msg, j, L2.defScope s, e0, a.pos, b.pos, p0, p1, p2, p3, p4, p5, p6, p7, p8, p9, nm, pn, 0⟩
  | ⟨_, [a, b], _, _, _, _, []⟩, [.Expr (.Call (.Attribute (.Call (.Name _ p0) [] [] p1) _ p2) [.Constant (.str msg) j p3] [] p4) p5, .Assign [.Attribute (.Name _ p6) nm p7] (.Name pn p8) p9] => ⟨q, msg, j, L2.defScope s, z, a.pos, b.pos, p0, p1, p2, p3, p4, p5, p6, p7, p8, p9, nm, pn, 1⟩
  | ⟨_, [a], _, _, _, _, []⟩, [.Expr (.Call (.Attribute (.Call (.Name _ p0) [] [] p1) _ p2) [.Constant (.str msg) j p3] [] p4) p5] => ⟨q, msg, j, L2.defScope s, z, a.pos, default, p0, p1, p2, p3, p4, p5, default, default, default, default, "at", "at", 2⟩
  | _, _ => ⟨q, "", 0, L2.defScope s, z, default, default, default, default, default, default, default, default, default, default, default, default, "at", "at", 9⟩
end Pf
set_option Elab.async false
set_option linter.all false
set_option maxRecDepth 100000
/-! Pf, part V: one row for each case of the evaluator's helpers (printed by genrun.py). -/
namespace Pf
open PySem
def cmp2 (op : Cop) : Option D → Option D → Option Bool
  | some x, some y => cmpD op x y
  | _, _ => none
def idx2 (i : Int) : Option (Bool × List W) → Option W
  | some (_, xs) => L2.atI xs i
  | none => none
def call2 (c : Cx) (k : Bool) (f : Nat) (o : Option (List W)) (st : Store) : R W :=
  match o with
  | some as => callW c k f as st
  | none => .stuck
def args2 (o : Option W) (r : Option (List W)) : Option (List W) :=
  match o with
  | some w => r.map (w :: ·)
  | none => none
theorem v_bind_ok {α β : Type} (x : α) (st : Store) (f : α → Store → R β) : R.bind (.ok x st) f = f x st := rfl
theorem v_bind_exc {α β : Type} (k : Nat) (d : D) (st : Store) (f : α → Store → R β) : R.bind (.exc k d st) f = .exc k d st := rfl
theorem v_bindG_ok {α : Type} (x : α) (st : Store) (env : Env) (f : α → Store → Rs) : bindG (.ok x st) env f = f x st := rfl
theorem v_bindG_exc {α : Type} (k : Nat) (d : D) (st : Store) (env : Env) (f : α → Store → Rs) : bindG (.exc k d st) env f = .exc k d env st := rfl
theorem v_then_nx (env : Env) (st : Store) (f : Env → Store → Rs) : thenS (.nx env st) f = f env st := rfl
theorem v_fo_nx (env : Env) (st : Store) (f : Env → Store → Rs) : foOne (.nx env st) f = f env st := rfl
theorem v_catch_nx (env : Env) (st : Store) (f : Nat → D → Env → Store → Rs) : catchS (.nx env st) f = .nx env st := rfl
theorem v_then_ret (w : W) (st : Store) (f : Env → Store → Rs) : thenS (.ret w st) f = .ret w st := rfl
theorem v_fo_ret (w : W) (st : Store) (f : Env → Store → Rs) : foOne (.ret w st) f = .ret w st := rfl
theorem v_catch_ret (w : W) (st : Store) (f : Nat → D → Env → Store → Rs) : catchS (.ret w st) f = .ret w st := rfl
theorem v_then_brk (env : Env) (st : Store) (f : Env → Store → Rs) : thenS (.brk env st) f = .brk env st := rfl
theorem v_fo_brk (env : Env) (st : Store) (f : Env → Store → Rs) : foOne (.brk env st) f = .nx env st := rfl
theorem v_catch_brk (env : Env) (st : Store) (f : Nat → D → Env → Store → Rs) : catchS (.brk env st) f = .brk env st := rfl
theorem v_then_cnt (env : Env) (st : Store) (f : Env → Store → Rs) : thenS (.cnt env st) f = .cnt env st := rfl
theorem v_fo_cnt (env : Env) (st : Store) (f : Env → Store → Rs) : foOne (.cnt env st) f = f env st := rfl
theorem v_catch_cnt (env : Env) (st : Store) (f : Nat → D → Env → Store → Rs) : catchS (.cnt env st) f = .cnt env st := rfl
theorem v_then_exc (k : Nat) (d : D) (env : Env) (st : Store) (f : Env → Store → Rs) : thenS (.exc k d env st) f = .exc k d env st := rfl
theorem v_fo_exc (k : Nat) (d : D) (env : Env) (st : Store) (f : Env → Store → Rs) : foOne (.exc k d env st) f = .exc k d env st := rfl
theorem v_catch_exc (k : Nat) (d : D) (env : Env) (st : Store) (f : Nat → D → Env → Store → Rs) : catchS (.exc k d env st) f = f k d env st := rfl
theorem v_turnB (env : Env) (f : Env → Rs) : turnB (some env) f = f env := rfl
theorem v_turnS {α : Type} (env : Env) (f : Env → R α) : turnS (some env) f = f env := rfl
theorem v_lc_t (st1 : Store) (e : Store → R W) (more : List W → Store → R (List W)) (acc : List W) : lcOne (.ok true st1) e more acc = (match e st1 with | .ok w st2 => more (acc ++ [w]) st2 | _ => .stuck) := rfl
theorem v_lc_f (st1 : Store) (e : Store → R W) (more : List W → Store → R (List W)) (acc : List W) : lcOne (.ok false st1) e more acc = more acc st1 := rfl
theorem v_ofO {α : Type} (x : α) (st : Store) : ofO (some x) st = .ok x st := rfl
theorem v_data (d : D) (st : Store) : dataS (some d) st = .ok (.v d) st := rfl
theorem v_binS (op : Bop) (x y : W) (st : Store) : binS op x y st = dataS (bin2 op (view st x) (view st y)) st := rfl
theorem v_bin2 (op : Bop) (x y : D) : bin2 op (some x) (some y) = binD op x y := rfl
theorem v_add (i j : Int) : binD .add (.int i) (.int j) = some (.int (i + j)) := rfl
theorem v_sub (i j : Int) : binD .sub (.int i) (.int j) = some (.int (i - j)) := rfl
theorem v_mul (i j : Int) : binD .mul (.int i) (.int j) = if small i || small j then some (.int (i * j)) else none := rfl
theorem v_fdiv (i j : Int) : binD .fdiv (.int i) (.int j) = if decide (0 < j) && decide (j < 1073741824) then some (.int (i / j)) else none := rfl
theorem v_mod (i j : Int) : binD .mod (.int i) (.int j) = if decide (0 < j) then some (.int (i % j)) else none := rfl
theorem v_addT (xs ys : List D) : binD .add (.tup xs) (.tup ys) = if xs.length + ys.length ≤ LIM then some (.tup (xs ++ ys)) else none := rfl
theorem v_cmpS (op : Cop) (x y : W) (st : Store) : cmpS op x y st = dataS ((cmpW op st x y).map .bl) st := rfl
theorem v_cmpW_eq (st : Store) (x y : W) : cmpW .eq st x y = cmp2 .eq (view st x) (view st y) := rfl
theorem v_cmpW_ne (st : Store) (x y : W) : cmpW .ne st x y = cmp2 .ne (view st x) (view st y) := rfl
theorem v_cmpW_lt (st : Store) (x y : W) : cmpW .lt st x y = cmp2 .lt (view st x) (view st y) := rfl
theorem v_cmpW_le (st : Store) (x y : W) : cmpW .le st x y = cmp2 .le (view st x) (view st y) := rfl
theorem v_cmpW_gt (st : Store) (x y : W) : cmpW .gt st x y = cmp2 .gt (view st x) (view st y) := rfl
theorem v_cmpW_ge (st : Store) (x y : W) : cmpW .ge st x y = cmp2 .ge (view st x) (view st y) := rfl
theorem v_cmpW_inn (st : Store) (x y : W) : cmpW .inn st x y = cmp2 .inn (view st x) (view st y) := rfl
theorem v_cmpW_nin (st : Store) (x y : W) : cmpW .nin st x y = cmp2 .nin (view st x) (view st y) := rfl
theorem v_cmpW_isn (st : Store) (x y : W) : cmpW .isn st x y = if isNon y then some (isNon x) else none := rfl
theorem v_cmpW_nisn (st : Store) (x y : W) : cmpW .nisn st x y = if isNon y then some (!isNon x) else none := rfl
theorem v_cmp2 (op : Cop) (x y : D) : cmp2 op (some x) (some y) = cmpD op x y := rfl
theorem v_eq (x y : D) : cmpD .eq x y = if okEq x y then some (eqv x y) else none := rfl
theorem v_ne (x y : D) : cmpD .ne x y = if okEq x y then some (!eqv x y) else none := rfl
theorem v_lt (i j : Int) : cmpD .lt (.int i) (.int j) = some (decide (i < j)) := rfl
theorem v_le (i j : Int) : cmpD .le (.int i) (.int j) = some (decide (i ≤ j)) := rfl
theorem v_gt (i j : Int) : cmpD .gt (.int i) (.int j) = some (decide (j < i)) := rfl
theorem v_ge (i j : Int) : cmpD .ge (.int i) (.int j) = some (decide (j ≤ i)) := rfl
theorem v_inn_lst (x : D) (ys : List D) : cmpD .inn x (.lst ys) = if okEq x (.lst ys) then some (among x ys) else none := rfl
theorem v_nin_lst (x : D) (ys : List D) : cmpD .nin x (.lst ys) = if okEq x (.lst ys) then some (!among x ys) else none := rfl
theorem v_inn_tup (x : D) (ys : List D) : cmpD .inn x (.tup ys) = if okEq x (.tup ys) then some (among x ys) else none := rfl
theorem v_nin_tup (x : D) (ys : List D) : cmpD .nin x (.tup ys) = if okEq x (.tup ys) then some (!among x ys) else none := rfl
theorem v_chnS_t (m : Store → R W) (st : Store) : chnS (some true) m st = m st := rfl
theorem v_chnS_f (m : Store → R W) (st : Store) : chnS (some false) m st = .ok (.v (.bl false)) st := rfl
theorem v_chnT_t (m : Store → R Bool) (st : Store) : chnT (some true) m st = m st := rfl
theorem v_chnT_f (m : Store → R Bool) (st : Store) : chnT (some false) m st = .ok false st := rfl
theorem v_orS_t (m : Store → R W) (st : Store) : orS (some true) m st = .ok (.v (.bl true)) st := rfl
theorem v_orS_f (m : Store → R W) (st : Store) : orS (some false) m st = m st := rfl
theorem v_orT_t (m : Store → R Bool) (st : Store) : orT true m st = .ok true st := rfl
theorem v_orT_f (m : Store → R Bool) (st : Store) : orT false m st = m st := rfl
theorem v_andT_t (m : Store → R Bool) (st : Store) : andT true m st = m st := rfl
theorem v_andT_f (m : Store → R Bool) (st : Store) : andT false m st = .ok false st := rfl
theorem v_if_t {α : Type} (f g : Store → α) (st : Store) : ifS true f g st = f st := rfl
theorem v_if_f {α : Type} (f g : Store → α) (st : Store) : ifS false f g st = g st := rfl
theorem v_notS (b : Bool) (st : Store) : notS (.v (.bl b)) st = .ok (.v (.bl (!b))) st := rfl
theorem v_negS (i : Int) (st : Store) : negS (.v (.int i)) st = .ok (.v (.int (-i))) st := rfl
theorem v_idxS (x y : W) (st : Store) : idxS x y st = ofO (idxW st x y) st := rfl
theorem v_idxW (x : W) (i : Int) (st : Store) : idxW st x (.v (.int i)) = idx2 i (items st x) := rfl
theorem v_idx2 (i : Int) (k : Bool) (ws : List W) : idx2 i (some (k, ws)) = L2.atI ws i := rfl
theorem v_items_v (st : Store) (d : D) : items st (.v d) = itemsD d := rfl
theorem v_items_r (st : Store) (n : Nat) : items st (.r n) = itemsC st[n]? := rfl
theorem v_itemsC_l (ws : List W) : itemsC (some (.live ws)) = some (false, ws) := rfl
theorem v_itemsC_f (d : D) : itemsC (some (.frz d)) = itemsD d := rfl
theorem v_itemsD_l (ds : List D) : itemsD (.lst ds) = some (false, ds.map .v) := rfl
theorem v_itemsD_t (ds : List D) : itemsD (.tup ds) = some (true, ds.map .v) := rfl
theorem v_view_v (st : Store) (d : D) : view st (.v d) = some d := rfl
theorem v_view_r (st : Store) (n : Nat) : view st (.r n) = viewC st[n]? := rfl
theorem v_viewC_l (ws : List W) : viewC (some (.live ws)) = (dats ws).map .lst := rfl
theorem v_viewC_f (d : D) : viewC (some (.frz d)) = some d := rfl
theorem v_dats_c (d : D) (ws : List W) : dats (.v d :: ws) = (dats ws).map (d :: ·) := rfl
theorem v_dats_n  : dats [] = some [] := rfl
theorem v_boolOf (b : Bool) : boolOf (.v (.bl b)) = some b := rfl
theorem v_intOf (i : Int) : intOf (.v (.int i)) = some i := rfl
theorem v_varO_v (d : D) : varO (some (some (.v d))) = some (.v d) := rfl
theorem v_varO_r (n : Nat) : varO (some (some (.r n))) = some (.r n) := rfl
theorem v_tupS (ws : List W) (st : Store) : tupS ws st = dataS ((dats ws).map .tup) st := rfl
theorem v_slcS (x : W) (i j : Option Int) (st : Store) : slcS x i j st = dataS (slcD i j (view st x)) st := rfl
theorem v_slcD_t (i j : Option Int) (ds : List D) : slcD i j (some (.tup ds)) = some (.tup (cut ds i j)) := rfl
theorem v_slcD_l (i j : Option Int) (ds : List D) : slcD i j (some (.lst ds)) = some (.lst (cut ds i j)) := rfl
theorem v_frzS (ws : List W) (st : Store) : frzS ws st = dataS ((dats ws).map .lst) st := rfl
theorem v_livS (ws : List W) (st : Store) : livS ws st = .ok (.r st.length) (st ++ [.live ws]) := rfl
theorem v_callS (c : Cx) (k : Bool) (f : Nat) (pm : List Ag) (ws : List W) (st : Store) : callS c k f pm ws st = call2 c k f (argsOf ws pm) st := rfl
theorem v_call2 (c : Cx) (k : Bool) (f : Nat) (ws : List W) (st : Store) : call2 c k f (some ws) st = callW c k f ws st := rfl
theorem v_args_n (ws : List W) : argsOf ws [] = some [] := rfl
theorem v_args_a (ws : List W) (i : Nat) (pm : List Ag) : argsOf ws (.a i :: pm) = args2 ws[i]? (argsOf ws pm) := rfl
theorem v_args_d (ws : List W) (d : D) (pm : List Ag) : argsOf ws (.d d :: pm) = (argsOf ws pm).map (.v d :: ·) := rfl
theorem v_args2 (w : W) (o : Option (List W)) : args2 (some w) o = o.map (w :: ·) := rfl
theorem v_callW_f (c : Cx) (f : Nat) (ws : List W) (st : Store) : callW c false f ws st = c.call f ws st := rfl
theorem v_allV_n  : allV [] = true := rfl
theorem v_allV_c (d : D) (ws : List W) : allV (.v d :: ws) = allV ws := rfl
theorem v_pure_ok (st s1 : Store) (d : D) : pureS st (.ok (.v d) s1) = .ok (.v d) st := rfl
theorem v_pure_exc (st s1 : Store) (k : Nat) (d : D) : pureS st (.exc k d s1) = .exc k d st := rfl
theorem v_bltS (b : Bfn) (ws : List W) (st : Store) : bltS b ws st = dataS (bltW b st ws) st := rfl
theorem v_len (st : Store) (w : W) : bltW .len st [w] = (items st w).map fun p => .int p.2.length := rfl
theorem v_int_i (st : Store) (i : Int) : bltW .int st [.v (.int i)] = some (.int i) := rfl
theorem v_int_b (st : Store) (b : Bool) : bltW .int st [.v (.bl b)] = some (.int (if b then 1 else 0)) := rfl
theorem v_abs (st : Store) (i : Int) : bltW .abs st [.v (.int i)] = some (.int (if i < 0 then -i else i)) := rfl
theorem v_tuple (st : Store) (w : W) : bltW .tuple st [w] = tupI (items st w) := rfl
theorem v_tupI (k : Bool) (ws : List W) : tupI (some (k, ws)) = (dats ws).map .tup := rfl
theorem v_isint (st : Store) (w : W) : bltW .isint st [w] = (kindW st w).map fun d => .bl (isInt d) := rfl
theorem v_isbool (st : Store) (w : W) : bltW .isbool st [w] = (kindW st w).map fun d => .bl (isBool d) := rfl
theorem v_isstr (st : Store) (w : W) : bltW .isstr st [w] = (kindW st w).map fun d => .bl (isStr d) := rfl
theorem v_isseq (st : Store) (w : W) : bltW .isseq st [w] = (kindW st w).map fun d => .bl (isSeq d) := rfl
theorem v_kind_v (st : Store) (d : D) : kindW st (.v d) = some d := rfl
theorem v_kind_r (st : Store) (n : Nat) : kindW st (.r n) = kindC st[n]? := rfl
theorem v_kindC_l (ws : List W) : kindC (some (.live ws)) = some (.lst []) := rfl
theorem v_kindC_f (d : D) : kindC (some (.frz d)) = some d := rfl
theorem v_isInt_non  : isInt .non = false := rfl
theorem v_isInt_bl (b : Bool) : isInt (.bl b) = true := rfl
theorem v_isInt_int (i : Int) : isInt (.int i) = true := rfl
theorem v_isInt_str (s : List Nat) : isInt (.str s) = false := rfl
theorem v_isInt_tup (xs : List D) : isInt (.tup xs) = false := rfl
theorem v_isInt_lst (xs : List D) : isInt (.lst xs) = false := rfl
theorem v_isBool_non  : isBool .non = false := rfl
theorem v_isBool_bl (b : Bool) : isBool (.bl b) = true := rfl
theorem v_isBool_int (i : Int) : isBool (.int i) = false := rfl
theorem v_isBool_str (s : List Nat) : isBool (.str s) = false := rfl
theorem v_isBool_tup (xs : List D) : isBool (.tup xs) = false := rfl
theorem v_isBool_lst (xs : List D) : isBool (.lst xs) = false := rfl
theorem v_isStr_non  : isStr .non = false := rfl
theorem v_isStr_bl (b : Bool) : isStr (.bl b) = false := rfl
theorem v_isStr_int (i : Int) : isStr (.int i) = false := rfl
theorem v_isStr_str (s : List Nat) : isStr (.str s) = true := rfl
theorem v_isStr_tup (xs : List D) : isStr (.tup xs) = false := rfl
theorem v_isStr_lst (xs : List D) : isStr (.lst xs) = false := rfl
theorem v_isSeq_non  : isSeq .non = false := rfl
theorem v_isSeq_bl (b : Bool) : isSeq (.bl b) = false := rfl
theorem v_isSeq_int (i : Int) : isSeq (.int i) = false := rfl
theorem v_isSeq_str (s : List Nat) : isSeq (.str s) = false := rfl
theorem v_isSeq_tup (xs : List D) : isSeq (.tup xs) = true := rfl
theorem v_isSeq_lst (xs : List D) : isSeq (.lst xs) = true := rfl
theorem v_popS (st : Store) (n : Nat) : popS (.r n) st = popC st n st[n]? := rfl
theorem v_appS (st : Store) (n : Nat) (y : W) : appS (.r n) y st = appC st n y st[n]? := rfl
theorem v_appC (st : Store) (n : Nat) (y : W) (xs : List W) : appC st n y (some (.live xs)) = if xs.length < LIM then .ok (.v .non) (st.set n (.live (xs ++ [y]))) else .stuck := rfl
theorem v_needL (ws : List W) (f : Store → R W) (st : Store) : needL (some ws) f st = f st := rfl
theorem v_lstOf (ws : List W) : lstOf (some (false, ws)) = some ws := rfl
theorem v_itemsS (k : Bool) (ws : List W) (st : Store) : itemsS (some (k, ws)) st = .ok ws st := rfl
theorem v_listS (ws : List W) (st : Store) : listS (some ws) st = .ok ws st := rfl
theorem v_storeS (env : Env) (st : Store) : storeS env (some st) = .nx env st := rfl
theorem v_setIt (st : Store) (n : Nat) (i : Int) (w : W) : setIt st (.r n) i w = setC st n i w st[n]? := rfl
theorem v_envS (env : Env) (st : Store) : envS (some env) st = .nx env st := rfl
theorem v_tg_n (env : Env) : bindTg [] [] env = some env := rfl
theorem v_tg_c (i : Nat) (is : List Nat) (w : W) (ws : List W) (env : Env) : bindTg (i :: is) (w :: ws) env = bindTg is ws (env.set i (some w)) := rfl
theorem v_raisS (k : Nat) (env : Env) (d : D) (st : Store) : raisS k env (some d) st = .exc k d env st := rfl
theorem v_kept_n  : keptOf [] = some (.int (-1)) := rfl
theorem v_kept_v (d : D) : keptOf [.v d] = some d := rfl
theorem v_named_s (j k : Nat) (d : D) (env : Env) : named (some j) k d env = env.set j (some (.x k d)) := rfl
theorem v_named_n (k : Nat) (d : D) (env : Env) : named none k d env = env := rfl
theorem v_gone_ret (i : Option Nat) (w : W) (st : Store) : gone i (.ret w st) = .ret w st := rfl
theorem v_gone_nx (i : Option Nat) (env : Env) (st : Store) : gone i (.nx env st) = goneS (goneE i env) (.nx (goneE i env) st) := rfl
theorem v_foS (c : Cx) (tg : List Nat) (b : Env → Store → Rs) (env : Env) (wss : List (List W)) (st : Store) : foS c tg b env (.fix wss) st = foFix tg b wss env st := rfl
theorem v_lcS (c : Cx) (tg : List Nat) (env : Env) (t : Env → Store → R Bool) (e : Env → Store → R W) (wss : List (List W)) (st : Store) : lcS c tg env t e (.fix wss) st = lcFix tg env t e wss [] st := rfl
theorem v_frozen_v (st : Store) (d : D) : frozen st (.v d) = frozenD d := rfl
theorem v_frozenD_l (ds : List D) : frozenD (.lst ds) = some (ds.map .v) := rfl
theorem v_frozenD_t (ds : List D) : frozenD (.tup ds) = some (ds.map .v) := rfl
theorem v_wipe_n (env : Env) : wipeE env [] = env := rfl
theorem v_wipe_c (env : Env) (v : Nat) (vs : List Nat) : wipeE env (v :: vs) = (wipeE env vs).set v none := rfl
theorem v_back_ret (w : W) (st : Store) : backS (.ret w st) = .ok w st := rfl
theorem v_back_nx (env : Env) (st : Store) : backS (.nx env st) = .ok (.v .non) st := rfl
theorem v_back_exc (k : Nat) (d : D) (env : Env) (st : Store) : backS (.exc k d env st) = .exc k d st := rfl
theorem v_setC (st : Store) (n : Nat) (i : Int) (w : W) (xs : List W) : setC st n i w (some (.live xs)) = (L2.ixN xs.length i).map fun j => st.set n (.live (xs.set j w)) := by
  show (match L2.ixN xs.length i with | some j => some (st.set n (.live (xs.set j w))) | none => none) = _
  cases L2.ixN xs.length i <;> rfl
theorem v_callW_t (c : Cx) (f : Nat) (ws : List W) (st : Store) (h : allV ws = true) : callW c true f ws st = pureS st (c.call f ws []) := by
  unfold callW
  exact if_pos h
theorem v_exatO_n (k : Nat) : exatO [k] (some (some (.x k (.non)))) = some (.v (.non)) := by
  show (if (([k] : List Nat).contains k && !isBare (.non)) = true then _ else _) = _
  rw [if_pos (by simp [isBare])]
theorem v_exatO_b (k : Nat) (b : Bool) : exatO [k] (some (some (.x k (.bl b)))) = some (.v (.bl b)) := by
  show (if (([k] : List Nat).contains k && !isBare (.bl b)) = true then _ else _) = _
  rw [if_pos (by simp [isBare])]
theorem v_exatO_i (k : Nat) (i : Int) : exatO [k] (some (some (.x k (.int i)))) = some (.v (.int i)) := by
  show (if (([k] : List Nat).contains k && !isBare (.int i)) = true then _ else _) = _
  rw [if_pos (by simp [isBare])]
theorem v_exatO_t (k : Nat) (ds : List D) : exatO [k] (some (some (.x k (.tup ds)))) = some (.v (.tup ds)) := by
  show (if (([k] : List Nat).contains k && !isBare (.tup ds)) = true then _ else _) = _
  rw [if_pos (by simp [isBare])]
theorem v_exatO_l (k : Nat) (ds : List D) : exatO [k] (some (some (.x k (.lst ds)))) = some (.v (.lst ds)) := by
  show (if (([k] : List Nat).contains k && !isBare (.lst ds)) = true then _ else _) = _
  rw [if_pos (by simp [isBare])]
theorem v_goneS (env : Env) (r : Rs) (h : plainE env = true) : goneS env r = r := if_pos h
end Pf
set_option Elab.async false
set_option linter.all false
set_option maxRecDepth 100000
set_option maxHeartbeats 4000000
/-! Pf, part W: running the evaluator by rewriting; the draws that all laws share. -/
namespace Pf
open PySem
/-! ### ints -/
def wi (i : Int) : W := .v (.int i)
theorem dats_v : ∀ ds : List D, dats (ds.map .v) = some ds
  | [] => rfl
  | d :: ds => by
    show (dats (ds.map .v)).map (d :: ·) = _
    rw [dats_v ds]
    rfl
theorem dats_wi (xs : List Int) : dats (xs.map fun i => W.v (.int i)) = some (xs.map .int) := by
  have h := dats_v (xs.map D.int)
  rw [List.map_map] at h
  exact h
theorem shps_int (n : Nat) : ∀ xs : List Int, shps n (xs.map .int) = true
  | [] => by rw [List.map_nil, shps]
  | x :: xs => by
    rw [List.map_cons, shps, shps_int n xs]
    cases n <;> rfl
theorem atI_last {α : Type} (xs : List α) (x : α) : L2.atI (xs ++ [x]) (-1) = some x := by
  unfold L2.atI L2.ixN
  rw [if_neg (by decide), if_pos (by simp; omega)]
  have e : (-1 + ((xs ++ [x]).length : Int)).toNat = xs.length := by
    rw [List.length_append, List.length_singleton]
    omega
  rw [Option.bind_some, e]
  simp

/-! ### the deal: two cells at the store's head -/
def dl (xs : List Int) (b : Int) (rest : Store) : Store := .live (xs.map fun i => .v (.int i)) :: .live [.r 0, .v (.int b)] :: rest
structure DOk (xs : List Int) (b : Int) : Prop where
  nn : ∀ x ∈ xs, 0 ≤ x
  b0 : 0 ≤ b
  le : xs.length ≤ 48
def cAny : Ss := (.cons (.wh (.andd (.cmp .ne (.idx (.var 0) (.lit (.int 0))) (.frz (.disp .nil))) (.one (.cmp .eq (.idx (.idx (.var 0) (.lit (.int 0))) (.neg (.lit (.int 1)))) (.lit (.int 0))))) (.cons (.ex (.pop (.idx (.var 0) (.lit (.int 0))))) .nil)) (.cons (.ite (.cmp .ne (.idx (.var 0) (.lit (.int 0))) (.frz (.disp .nil))) (.cons (.asg 2 (.blt .int (.cons (.pop (.idx (.var 0) (.lit (.int 0)))) .nil))) (.cons (.ex (.app (.idx (.var 0) (.lit (.int 0))) (.bin .fdiv (.var 2) (.var 1)))) (.cons (.ret (.bin .mod (.var 2) (.var 1))) .nil))) .nil) (.cons (.seti (.var 0) (.lit (.int 1)) (.bin .mod (.blt .int (.cons (.bin .add (.bin .mul (.idx (.var 0) (.lit (.int 1))) (.lit (.int 40693))) (.lit (.int 71))) .nil)) (.lit (.int 2147483647)))) (.cons (.ret (.bin .mod (.blt .int (.cons (.bin .fdiv (.idx (.var 0) (.lit (.int 1))) (.lit (.int 64))) .nil)) (.var 1))) .nil))))
theorem idx0 (a b : W) : L2.atI [a, b] 0 = some a := rfl
theorem idx1 (a b : W) : L2.atI [a, b] 1 = some b := rfl
theorem popC_last (st : Store) (n : Nat) (ws : List W) (w : W) : popC st n (some (.live (ws ++ [w]))) = .ok w (st.set n (.live ws)) := by
  unfold popC
  simp
theorem eqvs_snoc (d : D) (ds : List D) : eqvs (ds ++ [d]) [] = false := by
  cases ds <;> simp [eqvs]
theorem eqvs_nil : eqvs [] [] = true := by rw [eqvs]
section
variable {c : Cx} {z z1 z2 : Option W} {st : Store} {xs : List Int} {b n : Int} {rest : Store}
theorem ev_ne : evT c (.cmp .ne (.idx (.var 0) (.lit (.int 0))) (.frz (.disp .nil))) [some (.r 1), z1, z2] (dl xs b rest) = .ok (!eqvs (xs.map .int) []) (dl xs b rest) := by
  simp only [evE, evT, evL, evI, evEs, evTs, evO, v_bind_ok, v_bind_exc, v_bindG_ok, v_bindG_exc, v_then_nx, v_fo_nx, v_catch_nx, v_then_ret, v_fo_ret, v_catch_ret, v_then_brk, v_fo_brk, v_catch_brk, v_then_cnt, v_fo_cnt, v_catch_cnt, v_then_exc, v_fo_exc, v_catch_exc, v_turnB, v_turnS, v_lc_t, v_lc_f, v_ofO, v_data, v_binS, v_bin2, v_add, v_sub, v_mul, v_fdiv, v_mod, v_addT, v_cmpS, v_cmpW_eq, v_cmpW_ne, v_cmpW_lt, v_cmpW_le, v_cmpW_gt, v_cmpW_ge, v_cmpW_inn, v_cmpW_nin, v_cmpW_isn, v_cmpW_nisn, v_cmp2, v_eq, v_ne, v_lt, v_le, v_gt, v_ge, v_inn_lst, v_nin_lst, v_inn_tup, v_nin_tup, v_chnS_t, v_chnS_f, v_chnT_t, v_chnT_f, v_orS_t, v_orS_f, v_orT_t, v_orT_f, v_andT_t, v_andT_f, v_if_t, v_if_f, v_notS, v_negS, v_idxS, v_idxW, v_idx2, v_items_v, v_items_r, v_itemsC_l, v_itemsC_f, v_itemsD_l, v_itemsD_t, v_view_v, v_view_r, v_viewC_l, v_viewC_f, v_dats_c, v_dats_n, v_boolOf, v_intOf, v_varO_v, v_varO_r, v_exatO_i, v_exatO_n, v_exatO_t, v_exatO_l, v_exatO_b, v_tupS, v_slcS, v_slcD_t, v_slcD_l, v_frzS, v_livS, v_callS, v_call2, v_args_n, v_args_a, v_args_d, v_args2, v_callW_f, v_allV_n, v_allV_c, v_pure_ok, v_pure_exc, v_bltS, v_len, v_int_i, v_int_b, v_abs, v_tuple, v_tupI, v_isint, v_isbool, v_isstr, v_isseq, v_kind_v, v_kind_r, v_kindC_l, v_kindC_f, v_isInt_non, v_isInt_bl, v_isInt_int, v_isInt_str, v_isInt_tup, v_isInt_lst, v_isBool_non, v_isBool_bl, v_isBool_int, v_isBool_str, v_isBool_tup, v_isBool_lst, v_isStr_non, v_isStr_bl, v_isStr_int, v_isStr_str, v_isStr_tup, v_isStr_lst, v_isSeq_non, v_isSeq_bl, v_isSeq_int, v_isSeq_str, v_isSeq_tup, v_isSeq_lst, v_popS, v_appS, v_appC, v_needL, v_lstOf, v_itemsS, v_listS, v_storeS, v_setIt, v_setC, v_envS, v_tg_n, v_tg_c, v_raisS, v_kept_n, v_kept_v, v_named_s, v_named_n, v_gone_ret, v_gone_nx, v_foS, v_lcS, v_frozen_v, v_frozenD_l, v_frozenD_t, v_wipe_n, v_wipe_c, v_back_ret, v_back_nx, v_back_exc, List.getElem?_cons_zero, List.getElem?_cons_succ, List.set_cons_zero, List.set_cons_succ, Option.map_some, Option.map_none, Option.bind_some, Option.bind_none, List.map_cons, List.map_nil, List.length_cons, List.length_nil, if_true, if_false, reduceIte, Bool.not_true, Bool.not_false, dl, idx0, dats_wi, okEq, shp, shps, shps_int, Bool.and_true, eqv]
theorem ev_z {y : Int} : evT c (.cmp .eq (.idx (.idx (.var 0) (.lit (.int 0))) (.neg (.lit (.int 1)))) (.lit (.int 0))) [some (.r 1), z1, z2] (dl (xs ++ [y]) b rest) = .ok (y == 0) (dl (xs ++ [y]) b rest) := by
  have e : L2.atI (List.map (fun i => W.v (D.int i)) xs ++ [W.v (D.int y)]) (-1) = some (.v (.int y)) := atI_last _ _
  simp only [evE, evT, evL, evI, evEs, evTs, evO, v_bind_ok, v_bind_exc, v_bindG_ok, v_bindG_exc, v_then_nx, v_fo_nx, v_catch_nx, v_then_ret, v_fo_ret, v_catch_ret, v_then_brk, v_fo_brk, v_catch_brk, v_then_cnt, v_fo_cnt, v_catch_cnt, v_then_exc, v_fo_exc, v_catch_exc, v_turnB, v_turnS, v_lc_t, v_lc_f, v_ofO, v_data, v_binS, v_bin2, v_add, v_sub, v_mul, v_fdiv, v_mod, v_addT, v_cmpS, v_cmpW_eq, v_cmpW_ne, v_cmpW_lt, v_cmpW_le, v_cmpW_gt, v_cmpW_ge, v_cmpW_inn, v_cmpW_nin, v_cmpW_isn, v_cmpW_nisn, v_cmp2, v_eq, v_ne, v_lt, v_le, v_gt, v_ge, v_inn_lst, v_nin_lst, v_inn_tup, v_nin_tup, v_chnS_t, v_chnS_f, v_chnT_t, v_chnT_f, v_orS_t, v_orS_f, v_orT_t, v_orT_f, v_andT_t, v_andT_f, v_if_t, v_if_f, v_notS, v_negS, v_idxS, v_idxW, v_idx2, v_items_v, v_items_r, v_itemsC_l, v_itemsC_f, v_itemsD_l, v_itemsD_t, v_view_v, v_view_r, v_viewC_l, v_viewC_f, v_dats_c, v_dats_n, v_boolOf, v_intOf, v_varO_v, v_varO_r, v_exatO_i, v_exatO_n, v_exatO_t, v_exatO_l, v_exatO_b, v_tupS, v_slcS, v_slcD_t, v_slcD_l, v_frzS, v_livS, v_callS, v_call2, v_args_n, v_args_a, v_args_d, v_args2, v_callW_f, v_allV_n, v_allV_c, v_pure_ok, v_pure_exc, v_bltS, v_len, v_int_i, v_int_b, v_abs, v_tuple, v_tupI, v_isint, v_isbool, v_isstr, v_isseq, v_kind_v, v_kind_r, v_kindC_l, v_kindC_f, v_isInt_non, v_isInt_bl, v_isInt_int, v_isInt_str, v_isInt_tup, v_isInt_lst, v_isBool_non, v_isBool_bl, v_isBool_int, v_isBool_str, v_isBool_tup, v_isBool_lst, v_isStr_non, v_isStr_bl, v_isStr_int, v_isStr_str, v_isStr_tup, v_isStr_lst, v_isSeq_non, v_isSeq_bl, v_isSeq_int, v_isSeq_str, v_isSeq_tup, v_isSeq_lst, v_popS, v_appS, v_appC, v_needL, v_lstOf, v_itemsS, v_listS, v_storeS, v_setIt, v_setC, v_envS, v_tg_n, v_tg_c, v_raisS, v_kept_n, v_kept_v, v_named_s, v_named_n, v_gone_ret, v_gone_nx, v_foS, v_lcS, v_frozen_v, v_frozenD_l, v_frozenD_t, v_wipe_n, v_wipe_c, v_back_ret, v_back_nx, v_back_exc, List.getElem?_cons_zero, List.getElem?_cons_succ, List.set_cons_zero, List.set_cons_succ, Option.map_some, Option.map_none, Option.bind_some, Option.bind_none, List.map_cons, List.map_nil, List.length_cons, List.length_nil, if_true, if_false, reduceIte, Bool.not_true, Bool.not_false, dl, idx0, List.map_append, e, okEq, shp, Bool.and_true, eqv]
theorem ev_pop {y : Int} : exSs c (.cons (.ex (.pop (.idx (.var 0) (.lit (.int 0))))) .nil) [some (.r 1), z1, z2] (dl (xs ++ [y]) b rest) = .nx [some (.r 1), z1, z2] (dl xs b rest) := by
  simp only [exSs, exS, evE, evT, evL, evI, evEs, evTs, evO, v_bind_ok, v_bind_exc, v_bindG_ok, v_bindG_exc, v_then_nx, v_fo_nx, v_catch_nx, v_then_ret, v_fo_ret, v_catch_ret, v_then_brk, v_fo_brk, v_catch_brk, v_then_cnt, v_fo_cnt, v_catch_cnt, v_then_exc, v_fo_exc, v_catch_exc, v_turnB, v_turnS, v_lc_t, v_lc_f, v_ofO, v_data, v_binS, v_bin2, v_add, v_sub, v_mul, v_fdiv, v_mod, v_addT, v_cmpS, v_cmpW_eq, v_cmpW_ne, v_cmpW_lt, v_cmpW_le, v_cmpW_gt, v_cmpW_ge, v_cmpW_inn, v_cmpW_nin, v_cmpW_isn, v_cmpW_nisn, v_cmp2, v_eq, v_ne, v_lt, v_le, v_gt, v_ge, v_inn_lst, v_nin_lst, v_inn_tup, v_nin_tup, v_chnS_t, v_chnS_f, v_chnT_t, v_chnT_f, v_orS_t, v_orS_f, v_orT_t, v_orT_f, v_andT_t, v_andT_f, v_if_t, v_if_f, v_notS, v_negS, v_idxS, v_idxW, v_idx2, v_items_v, v_items_r, v_itemsC_l, v_itemsC_f, v_itemsD_l, v_itemsD_t, v_view_v, v_view_r, v_viewC_l, v_viewC_f, v_dats_c, v_dats_n, v_boolOf, v_intOf, v_varO_v, v_varO_r, v_exatO_i, v_exatO_n, v_exatO_t, v_exatO_l, v_exatO_b, v_tupS, v_slcS, v_slcD_t, v_slcD_l, v_frzS, v_livS, v_callS, v_call2, v_args_n, v_args_a, v_args_d, v_args2, v_callW_f, v_allV_n, v_allV_c, v_pure_ok, v_pure_exc, v_bltS, v_len, v_int_i, v_int_b, v_abs, v_tuple, v_tupI, v_isint, v_isbool, v_isstr, v_isseq, v_kind_v, v_kind_r, v_kindC_l, v_kindC_f, v_isInt_non, v_isInt_bl, v_isInt_int, v_isInt_str, v_isInt_tup, v_isInt_lst, v_isBool_non, v_isBool_bl, v_isBool_int, v_isBool_str, v_isBool_tup, v_isBool_lst, v_isStr_non, v_isStr_bl, v_isStr_int, v_isStr_str, v_isStr_tup, v_isStr_lst, v_isSeq_non, v_isSeq_bl, v_isSeq_int, v_isSeq_str, v_isSeq_tup, v_isSeq_lst, v_popS, v_appS, v_appC, v_needL, v_lstOf, v_itemsS, v_listS, v_storeS, v_setIt, v_setC, v_envS, v_tg_n, v_tg_c, v_raisS, v_kept_n, v_kept_v, v_named_s, v_named_n, v_gone_ret, v_gone_nx, v_foS, v_lcS, v_frozen_v, v_frozenD_l, v_frozenD_t, v_wipe_n, v_wipe_c, v_back_ret, v_back_nx, v_back_exc, List.getElem?_cons_zero, List.getElem?_cons_succ, List.set_cons_zero, List.set_cons_succ, Option.map_some, Option.map_none, Option.bind_some, Option.bind_none, List.map_cons, List.map_nil, List.length_cons, List.length_nil, if_true, if_false, reduceIte, Bool.not_true, Bool.not_false, dl, idx0, List.map_append, popC_last]
abbrev wT : T := .andd (.cmp .ne (.idx (.var 0) (.lit (.int 0))) (.frz (.disp .nil))) (.one (.cmp .eq (.idx (.idx (.var 0) (.lit (.int 0))) (.neg (.lit (.int 1)))) (.lit (.int 0))))
abbrev wB : Ss := .cons (.ex (.pop (.idx (.var 0) (.lit (.int 0))))) .nil
theorem wT_nil : evT c wT [some (.r 1), z1, z2] (dl [] b rest) = .ok false (dl [] b rest) := by
  rw [evT, ev_ne, v_bind_ok, List.map_nil, eqvs_nil, Bool.not_true, v_andT_f]
theorem wT_snoc {y : Int} : evT c wT [some (.r 1), z1, z2] (dl (xs ++ [y]) b rest) = .ok (y == 0) (dl (xs ++ [y]) b rest) := by
  rw [evT, ev_ne, v_bind_ok, List.map_append, List.map_cons, List.map_nil, eqvs_snoc, Bool.not_false, v_andT_t, evT, ev_z]
theorem wh_any : ∀ (k : Nat) (xs : List Int), xs.length < k → ∃ ys, (ys = [] ∨ ∃ zs y, ys = zs ++ [y] ∧ y ≠ 0) ∧ (∃ t, xs = ys ++ t) ∧
    whL (fun env st => evT c wT env st) (fun env st => exSs c wB env st) k [some (.r 1), z1, z2] (dl xs b rest) = .nx [some (.r 1), z1, z2] (dl ys b rest)
  | 0, _, h => absurd h (Nat.not_lt_zero _)
  | k + 1, xs, h => by
    rcases List.eq_nil_or_concat xs with rfl | ⟨zs, y, rfl⟩
    · refine ⟨[], .inl rfl, ⟨[], rfl⟩, ?_⟩
      rw [whL, wT_nil, v_bindG_ok]
    · rw [List.concat_eq_append] at h ⊢
      by_cases hy : y = 0
      · subst hy
        rw [List.length_append, List.length_singleton] at h
        obtain ⟨ys, h1, ⟨t, h2⟩, h3⟩ := wh_any k zs (by omega)
        refine ⟨ys, h1, ⟨t ++ [0], by rw [h2, List.append_assoc]⟩, ?_⟩
        rw [whL, wT_snoc, v_bindG_ok, BEq.rfl]
        show foOne _ _ = _
        rw [ev_pop, v_fo_nx]
        exact h3
      · refine ⟨zs ++ [y], .inr ⟨zs, y, rfl, hy⟩, ⟨[], by simp⟩, ?_⟩
        have e : (y == 0) = false := by simpa using hy
        rw [whL, wT_snoc, v_bindG_ok, e]
theorem any_spec (hT : 48 < c.turns) (h : DOk xs b) (n0 : 0 < n) (n1 : n < 1073741824) : ∃ r xs' b', DOk xs' b' ∧ 0 ≤ r ∧ r < n ∧ exSs c cAny [some (.r 1), some (.v (.int n)), none] (dl xs b rest) = .ret (.v (.int r)) (dl xs' b' rest) := by
  obtain ⟨ys, h1, ⟨t, h2⟩, h3⟩ := wh_any (c := c) (z1 := some (.v (.int n))) (z2 := none) (b := b) (rest := rest) c.turns xs (Nat.lt_of_le_of_lt h.le hT)
  have nn : ∀ x ∈ ys, 0 ≤ x := fun x hx => h.nn x (by rw [h2]; exact List.mem_append.mpr (.inl hx))
  have ll : ys.length ≤ 48 := by
    have z := h.le
    rw [h2, List.length_append] at z
    omega
  have d0 : decide (0 < n) = true := decide_eq_true n0
  have d1 : decide (n < 1073741824) = true := decide_eq_true n1
  rcases h1 with rfl | ⟨zs, y, rfl, hy⟩
  · refine ⟨(b * 40693 + 71) % 2147483647 / 64 % n, [], (b * 40693 + 71) % 2147483647, ⟨nn, Int.emod_nonneg _ (by decide), ll⟩, Int.emod_nonneg _ (by omega), Int.emod_lt_of_pos _ n0, ?_⟩
    unfold cAny
    rw [exSs, exS, h3, v_then_nx, exSs, exS, ev_ne, v_bindG_ok, List.map_nil, eqvs_nil, Bool.not_true, v_if_f, exSs, v_then_nx]
    have e1 : small 40693 = true := by decide
    have e2 : (b * 40693 + 71) % 2147483647 = (b * 40693 + 71) % 2147483647 := rfl
    simp only [exSs, exS, evE, evT, evL, evI, evEs, evTs, evO, v_bind_ok, v_bind_exc, v_bindG_ok, v_bindG_exc, v_then_nx, v_fo_nx, v_catch_nx, v_then_ret, v_fo_ret, v_catch_ret, v_then_brk, v_fo_brk, v_catch_brk, v_then_cnt, v_fo_cnt, v_catch_cnt, v_then_exc, v_fo_exc, v_catch_exc, v_turnB, v_turnS, v_lc_t, v_lc_f, v_ofO, v_data, v_binS, v_bin2, v_add, v_sub, v_mul, v_fdiv, v_mod, v_addT, v_cmpS, v_cmpW_eq, v_cmpW_ne, v_cmpW_lt, v_cmpW_le, v_cmpW_gt, v_cmpW_ge, v_cmpW_inn, v_cmpW_nin, v_cmpW_isn, v_cmpW_nisn, v_cmp2, v_eq, v_ne, v_lt, v_le, v_gt, v_ge, v_inn_lst, v_nin_lst, v_inn_tup, v_nin_tup, v_chnS_t, v_chnS_f, v_chnT_t, v_chnT_f, v_orS_t, v_orS_f, v_orT_t, v_orT_f, v_andT_t, v_andT_f, v_if_t, v_if_f, v_notS, v_negS, v_idxS, v_idxW, v_idx2, v_items_v, v_items_r, v_itemsC_l, v_itemsC_f, v_itemsD_l, v_itemsD_t, v_view_v, v_view_r, v_viewC_l, v_viewC_f, v_dats_c, v_dats_n, v_boolOf, v_intOf, v_varO_v, v_varO_r, v_exatO_i, v_exatO_n, v_exatO_t, v_exatO_l, v_exatO_b, v_tupS, v_slcS, v_slcD_t, v_slcD_l, v_frzS, v_livS, v_callS, v_call2, v_args_n, v_args_a, v_args_d, v_args2, v_callW_f, v_allV_n, v_allV_c, v_pure_ok, v_pure_exc, v_bltS, v_len, v_int_i, v_int_b, v_abs, v_tuple, v_tupI, v_isint, v_isbool, v_isstr, v_isseq, v_kind_v, v_kind_r, v_kindC_l, v_kindC_f, v_isInt_non, v_isInt_bl, v_isInt_int, v_isInt_str, v_isInt_tup, v_isInt_lst, v_isBool_non, v_isBool_bl, v_isBool_int, v_isBool_str, v_isBool_tup, v_isBool_lst, v_isStr_non, v_isStr_bl, v_isStr_int, v_isStr_str, v_isStr_tup, v_isStr_lst, v_isSeq_non, v_isSeq_bl, v_isSeq_int, v_isSeq_str, v_isSeq_tup, v_isSeq_lst, v_popS, v_appS, v_appC, v_needL, v_lstOf, v_itemsS, v_listS, v_storeS, v_setIt, v_setC, v_envS, v_tg_n, v_tg_c, v_raisS, v_kept_n, v_kept_v, v_named_s, v_named_n, v_gone_ret, v_gone_nx, v_foS, v_lcS, v_frozen_v, v_frozenD_l, v_frozenD_t, v_wipe_n, v_wipe_c, v_back_ret, v_back_nx, v_back_exc, List.getElem?_cons_zero, List.getElem?_cons_succ, List.set_cons_zero, List.set_cons_succ, Option.map_some, Option.map_none, Option.bind_some, Option.bind_none, List.map_cons, List.map_nil, List.length_cons, List.length_nil, if_true, if_false, reduceIte, Bool.not_true, Bool.not_false, dl, idx0, idx1, e1, Bool.or_true, d0, d1, show decide ((0 : Int) < 2147483647) = true from rfl, show decide ((0 : Int) < 64) = true from rfl, show decide ((64 : Int) < 1073741824) = true from rfl, Bool.and_self, show L2.ixN 2 1 = some 1 from rfl, show (0 + 1 + 1 : Nat) = 2 from rfl]
  · refine ⟨y % n, zs ++ [y / n], b, ⟨fun x hx => ?_, h.b0, by simpa using ll⟩, Int.emod_nonneg _ (by omega), Int.emod_lt_of_pos _ n0, ?_⟩
    · rcases List.mem_append.mp hx with z | z
      · exact nn x (List.mem_append.mpr (.inl z))
      · rw [List.mem_singleton.mp z]
        exact Int.ediv_nonneg (nn y (List.mem_append.mpr (.inr (List.mem_singleton.mpr rfl)))) (by omega)
    · unfold cAny
      have hl : (List.map (fun i => W.v (D.int i)) zs).length < LIM := by
        rw [List.length_map]
        rw [List.length_append, List.length_singleton] at ll
        unfold LIM
        omega
      rw [exSs, exS, h3, v_then_nx, exSs, exS, ev_ne, v_bindG_ok, List.map_append, List.map_cons, List.map_nil, eqvs_snoc, Bool.not_false, v_if_t]
      simp only [exSs, exS, evE, evT, evL, evI, evEs, evTs, evO, v_bind_ok, v_bind_exc, v_bindG_ok, v_bindG_exc, v_then_nx, v_fo_nx, v_catch_nx, v_then_ret, v_fo_ret, v_catch_ret, v_then_brk, v_fo_brk, v_catch_brk, v_then_cnt, v_fo_cnt, v_catch_cnt, v_then_exc, v_fo_exc, v_catch_exc, v_turnB, v_turnS, v_lc_t, v_lc_f, v_ofO, v_data, v_binS, v_bin2, v_add, v_sub, v_mul, v_fdiv, v_mod, v_addT, v_cmpS, v_cmpW_eq, v_cmpW_ne, v_cmpW_lt, v_cmpW_le, v_cmpW_gt, v_cmpW_ge, v_cmpW_inn, v_cmpW_nin, v_cmpW_isn, v_cmpW_nisn, v_cmp2, v_eq, v_ne, v_lt, v_le, v_gt, v_ge, v_inn_lst, v_nin_lst, v_inn_tup, v_nin_tup, v_chnS_t, v_chnS_f, v_chnT_t, v_chnT_f, v_orS_t, v_orS_f, v_orT_t, v_orT_f, v_andT_t, v_andT_f, v_if_t, v_if_f, v_notS, v_negS, v_idxS, v_idxW, v_idx2, v_items_v, v_items_r, v_itemsC_l, v_itemsC_f, v_itemsD_l, v_itemsD_t, v_view_v, v_view_r, v_viewC_l, v_viewC_f, v_dats_c, v_dats_n, v_boolOf, v_intOf, v_varO_v, v_varO_r, v_exatO_i, v_exatO_n, v_exatO_t, v_exatO_l, v_exatO_b, v_tupS, v_slcS, v_slcD_t, v_slcD_l, v_frzS, v_livS, v_callS, v_call2, v_args_n, v_args_a, v_args_d, v_args2, v_callW_f, v_allV_n, v_allV_c, v_pure_ok, v_pure_exc, v_bltS, v_len, v_int_i, v_int_b, v_abs, v_tuple, v_tupI, v_isint, v_isbool, v_isstr, v_isseq, v_kind_v, v_kind_r, v_kindC_l, v_kindC_f, v_isInt_non, v_isInt_bl, v_isInt_int, v_isInt_str, v_isInt_tup, v_isInt_lst, v_isBool_non, v_isBool_bl, v_isBool_int, v_isBool_str, v_isBool_tup, v_isBool_lst, v_isStr_non, v_isStr_bl, v_isStr_int, v_isStr_str, v_isStr_tup, v_isStr_lst, v_isSeq_non, v_isSeq_bl, v_isSeq_int, v_isSeq_str, v_isSeq_tup, v_isSeq_lst, v_popS, v_appS, v_appC, v_needL, v_lstOf, v_itemsS, v_listS, v_storeS, v_setIt, v_setC, v_envS, v_tg_n, v_tg_c, v_raisS, v_kept_n, v_kept_v, v_named_s, v_named_n, v_gone_ret, v_gone_nx, v_foS, v_lcS, v_frozen_v, v_frozenD_l, v_frozenD_t, v_wipe_n, v_wipe_c, v_back_ret, v_back_nx, v_back_exc, List.getElem?_cons_zero, List.getElem?_cons_succ, List.set_cons_zero, List.set_cons_succ, Option.map_some, Option.map_none, Option.bind_some, Option.bind_none, List.map_cons, List.map_nil, List.length_cons, List.length_nil, if_true, if_false, reduceIte, Bool.not_true, Bool.not_false, dl, idx0, idx1, d0, d1, Bool.and_self, List.map_append, popC_last, if_pos hl]
end

/-! ### walks -/
theorem fixOf_one (st : Store) (i : Nat) : ∀ ws : List W, fixOf st [i] ws = some (ws.map fun w => [w])
  | [] => rfl
  | w :: ws => by
    rw [fixOf, fixOf_one st i ws]
    rfl
theorem seqIt_v (st : Store) (i : Nat) (ds : List D) : seqIt [i] st (.v (.lst ds)) = some (.fix (ds.map fun d => [.v d])) := by
  show (fixOf st [i] (ds.map .v)).map It.fix = _
  rw [fixOf_one, List.map_map]
  rfl
theorem seqIt_t (st : Store) (i : Nat) (ds : List D) : seqIt [i] st (.v (.tup ds)) = some (.fix (ds.map fun d => [.v d])) := by
  show (fixOf st [i] (ds.map .v)).map It.fix = _
  rw [fixOf_one, List.map_map]
  rfl
/-- a list filled by a walk whose turns leave the store -/
theorem lc_fil {α : Type} {i : Nat} {env : Env} {t : Env → Store → R Bool} {e : Env → Store → R W} {st : Store} (f : α → W) (p : α → Bool) (g : α → W) :
    ∀ (l : List α) (acc : List W), (∀ a ∈ l, t (env.set i (some (f a))) st = .ok (p a) st ∧ (p a = true → e (env.set i (some (f a))) st = .ok (g a) st)) → lcFix [i] env t e (l.map fun a => [f a]) acc st = .ok (acc ++ (l.filter p).map g) st
  | [], acc, _ => by
    rw [List.map_nil, lcFix, List.filter_nil, List.map_nil, List.append_nil]
  | a :: l, acc, h => by
    obtain ⟨h1, h2⟩ := h a (List.mem_cons_self ..)
    have ih := fun acc => lc_fil f p g l acc fun b hb => h b (List.mem_cons_of_mem _ hb)
    rw [List.map_cons, lcFix]
    show lcOne (t (env.set i (some (f a))) st) (e (env.set i (some (f a)))) _ acc = _
    rw [h1]
    cases hp : p a with
    | true =>
      rw [v_lc_t, h2 hp]
      show lcFix [i] env t e (l.map fun a => [f a]) (acc ++ [g a]) st = _
      rw [ih, List.filter_cons, if_pos hp, List.map_cons, List.append_assoc]
      rfl
    | false =>
      rw [v_lc_f]
      show lcFix [i] env t e (l.map fun a => [f a]) acc st = _
      rw [ih, List.filter_cons, if_neg (by rw [hp]; exact Bool.false_ne_true)]
theorem lc_all {α : Type} {i : Nat} {env : Env} {t : Env → Store → R Bool} {e : Env → Store → R W} {st : Store} (f : α → W) (g : α → W) (l : List α) (acc : List W) (h : ∀ a ∈ l, t (env.set i (some (f a))) st = .ok true st ∧ e (env.set i (some (f a))) st = .ok (g a) st) :
    lcFix [i] env t e (l.map fun a => [f a]) acc st = .ok (acc ++ l.map g) st := by
  rw [lc_fil f (fun _ => true) g l acc fun a ha => ⟨(h a ha).1, fun _ => (h a ha).2⟩]
  rw [List.filter_eq_self.mpr fun _ _ => rfl]
/-- a loop over fixed turns -/
theorem fo_inv {α : Type} {tg : List Nat} {b : Env → Store → Rs} (f : α → List W) (I : Env → Store → Prop) : ∀ (l : List α) (env : Env) (st : Store), I env st →
    (∀ a ∈ l, ∀ env st, I env st → ∃ env1 env2 st2, bindTg tg (f a) env = some env1 ∧ b env1 st = .nx env2 st2 ∧ I env2 st2) → ∃ env' st', I env' st' ∧ foFix tg b (l.map f) env st = .nx env' st'
  | [], env, st, h, _ => ⟨env, st, h, rfl⟩
  | a :: l, env, st, h, hs => by
    obtain ⟨env1, env2, st2, h1, h2, h3⟩ := hs a (List.mem_cons_self ..) env st h
    obtain ⟨env', st', h4, h5⟩ := fo_inv f I l env2 st2 h3 fun a ha => hs a (List.mem_cons_of_mem _ ha)
    refine ⟨env', st', h4, ?_⟩
    rw [List.map_cons, foFix, h1, v_turnB, h2, v_fo_nx, h5]
theorem rangeW_eq : ∀ (n : Nat) (lo : Int), rangeW lo n = (List.range' 0 n).map fun (k : Nat) => W.v (.int (lo + (k : Int)))
  | 0, _ => rfl
  | n + 1, lo => by
    rw [rangeW, rangeW_eq n (lo + 1), List.range'_succ, List.map_cons, List.range'_eq_map_range, List.range'_eq_map_range, List.map_map, List.map_map]
    congr 1
    · simp
    · refine List.map_congr_left fun a _ => ?_
      simp
      omega
/-! ### the draw -/
def cDraw : Ss := (.cons (.asg 2 (.frz (.lc [3] [3] (.seq (.slc (.var 0) .none (.some (.lit (.int 48))))) .yes (.blt .abs (.cons (.blt .int (.cons (.var 3) .nil)) .nil))))) (.cons (.asg 4 (.bin .add (.lit (.int 7919)) (.bin .mul (.lit (.int 104729)) (.var 1)))) (.cons (.fo [3] (.seq (.var 2)) (.cons (.asg 4 (.bin .mod (.blt .int (.cons (.bin .add (.bin .add (.bin .mul (.var 4) (.lit (.int 48271))) (.bin .mod (.var 3) (.lit (.int 2147483549)))) (.lit (.int 11))) .nil)) (.lit (.int 2147483647)))) .nil)) (.cons (.ret (.liv (.disp (.cons (.liv (.rev (.frz (.lc [3] [3] (.seq (.var 2)) (.one (.cmp .ge (.var 3) (.bin .pow (.lit (.int 10)) (.lit (.int 18))))) (.var 3))))) (.cons (.var 4) .nil))))) .nil))))
def absI (i : Int) : Int := if i < 0 then -i else i
theorem absI_nn (i : Int) : 0 ≤ absI i := by
  unfold absI
  split <;> omega
theorem small_a : small 104729 = true := by decide
theorem small_b : small 48271 = true := by decide
theorem draw_spec (c : Cx) (ns : List Int) (salt : Int) (hs : 0 ≤ salt) : ∃ xs b, DOk xs b ∧ exSs c cDraw [some (.v (.lst (ns.map .int))), some (.v (.int salt)), none, none, none] [] = .ret (.r 1) (dl xs b []) := by
  have hc : cut (ns.map D.int) none (some 48) = (ns.take 48).map .int := by
    unfold cut HT.sIx
    rw [List.drop_zero, List.map_take]
    simp
  have s1 : evE c (.frz (.lc [3] [3] (.seq (.slc (.var 0) .none (.some (.lit (.int 48))))) .yes (.blt .abs (.cons (.blt .int (.cons (.var 3) .nil)) .nil)))) [some (.v (.lst (ns.map .int))), some (.v (.int salt)), none, none, none] [] = .ok (.v (.lst ((ns.take 48).map fun i => .int (absI i)))) [] := by
    have h := lc_all (i := 3) (env := [some (.v (.lst (ns.map .int))), some (.v (.int salt)), none, none, none]) (t := fun env st => evTs c .yes env st) (e := fun env st => evE c (.blt .abs (.cons (.blt .int (.cons (.var 3) .nil)) .nil)) env st) (st := [])
      (fun i : Int => W.v (.int i)) (fun i : Int => W.v (.int (absI i))) (ns.take 48) [] fun a _ => ⟨by rw [evTs], by simp only [evE, evT, evL, evI, evEs, evTs, evO, v_bind_ok, v_bind_exc, v_bindG_ok, v_bindG_exc, v_then_nx, v_fo_nx, v_catch_nx, v_then_ret, v_fo_ret, v_catch_ret, v_then_brk, v_fo_brk, v_catch_brk, v_then_cnt, v_fo_cnt, v_catch_cnt, v_then_exc, v_fo_exc, v_catch_exc, v_turnB, v_turnS, v_lc_t, v_lc_f, v_ofO, v_data, v_binS, v_bin2, v_add, v_sub, v_mul, v_fdiv, v_mod, v_addT, v_cmpS, v_cmpW_eq, v_cmpW_ne, v_cmpW_lt, v_cmpW_le, v_cmpW_gt, v_cmpW_ge, v_cmpW_inn, v_cmpW_nin, v_cmpW_isn, v_cmpW_nisn, v_cmp2, v_eq, v_ne, v_lt, v_le, v_gt, v_ge, v_inn_lst, v_nin_lst, v_inn_tup, v_nin_tup, v_chnS_t, v_chnS_f, v_chnT_t, v_chnT_f, v_orS_t, v_orS_f, v_orT_t, v_orT_f, v_andT_t, v_andT_f, v_if_t, v_if_f, v_notS, v_negS, v_idxS, v_idxW, v_idx2, v_items_v, v_items_r, v_itemsC_l, v_itemsC_f, v_itemsD_l, v_itemsD_t, v_view_v, v_view_r, v_viewC_l, v_viewC_f, v_dats_c, v_dats_n, v_boolOf, v_intOf, v_varO_v, v_varO_r, v_exatO_i, v_exatO_n, v_exatO_t, v_exatO_l, v_exatO_b, v_tupS, v_slcS, v_slcD_t, v_slcD_l, v_frzS, v_livS, v_callS, v_call2, v_args_n, v_args_a, v_args_d, v_args2, v_callW_f, v_allV_n, v_allV_c, v_pure_ok, v_pure_exc, v_bltS, v_len, v_int_i, v_int_b, v_abs, v_tuple, v_tupI, v_isint, v_isbool, v_isstr, v_isseq, v_kind_v, v_kind_r, v_kindC_l, v_kindC_f, v_isInt_non, v_isInt_bl, v_isInt_int, v_isInt_str, v_isInt_tup, v_isInt_lst, v_isBool_non, v_isBool_bl, v_isBool_int, v_isBool_str, v_isBool_tup, v_isBool_lst, v_isStr_non, v_isStr_bl, v_isStr_int, v_isStr_str, v_isStr_tup, v_isStr_lst, v_isSeq_non, v_isSeq_bl, v_isSeq_int, v_isSeq_str, v_isSeq_tup, v_isSeq_lst, v_popS, v_appS, v_appC, v_needL, v_lstOf, v_itemsS, v_listS, v_storeS, v_setIt, v_setC, v_envS, v_tg_n, v_tg_c, v_raisS, v_kept_n, v_kept_v, v_named_s, v_named_n, v_gone_ret, v_gone_nx, v_foS, v_lcS, v_frozen_v, v_frozenD_l, v_frozenD_t, v_wipe_n, v_wipe_c, v_back_ret, v_back_nx, v_back_exc, List.getElem?_cons_zero, List.getElem?_cons_succ, List.set_cons_zero, List.set_cons_succ, Option.map_some, Option.map_none, Option.bind_some, Option.bind_none, List.map_cons, List.map_nil, List.length_cons, List.length_nil, if_true, if_false, reduceIte, Bool.not_true, Bool.not_false]; rfl⟩
    have e1 : evI c [3] (.seq (.slc (.var 0) .none (.some (.lit (.int 48))))) [some (.v (.lst (ns.map .int))), some (.v (.int salt)), none, none, none] [] = .ok (.fix ((ns.take 48).map fun i => [W.v (.int i)])) [] := by
      simp only [evE, evT, evL, evI, evEs, evTs, evO, v_bind_ok, v_bind_exc, v_bindG_ok, v_bindG_exc, v_then_nx, v_fo_nx, v_catch_nx, v_then_ret, v_fo_ret, v_catch_ret, v_then_brk, v_fo_brk, v_catch_brk, v_then_cnt, v_fo_cnt, v_catch_cnt, v_then_exc, v_fo_exc, v_catch_exc, v_turnB, v_turnS, v_lc_t, v_lc_f, v_ofO, v_data, v_binS, v_bin2, v_add, v_sub, v_mul, v_fdiv, v_mod, v_addT, v_cmpS, v_cmpW_eq, v_cmpW_ne, v_cmpW_lt, v_cmpW_le, v_cmpW_gt, v_cmpW_ge, v_cmpW_inn, v_cmpW_nin, v_cmpW_isn, v_cmpW_nisn, v_cmp2, v_eq, v_ne, v_lt, v_le, v_gt, v_ge, v_inn_lst, v_nin_lst, v_inn_tup, v_nin_tup, v_chnS_t, v_chnS_f, v_chnT_t, v_chnT_f, v_orS_t, v_orS_f, v_orT_t, v_orT_f, v_andT_t, v_andT_f, v_if_t, v_if_f, v_notS, v_negS, v_idxS, v_idxW, v_idx2, v_items_v, v_items_r, v_itemsC_l, v_itemsC_f, v_itemsD_l, v_itemsD_t, v_view_v, v_view_r, v_viewC_l, v_viewC_f, v_dats_c, v_dats_n, v_boolOf, v_intOf, v_varO_v, v_varO_r, v_exatO_i, v_exatO_n, v_exatO_t, v_exatO_l, v_exatO_b, v_tupS, v_slcS, v_slcD_t, v_slcD_l, v_frzS, v_livS, v_callS, v_call2, v_args_n, v_args_a, v_args_d, v_args2, v_callW_f, v_allV_n, v_allV_c, v_pure_ok, v_pure_exc, v_bltS, v_len, v_int_i, v_int_b, v_abs, v_tuple, v_tupI, v_isint, v_isbool, v_isstr, v_isseq, v_kind_v, v_kind_r, v_kindC_l, v_kindC_f, v_isInt_non, v_isInt_bl, v_isInt_int, v_isInt_str, v_isInt_tup, v_isInt_lst, v_isBool_non, v_isBool_bl, v_isBool_int, v_isBool_str, v_isBool_tup, v_isBool_lst, v_isStr_non, v_isStr_bl, v_isStr_int, v_isStr_str, v_isStr_tup, v_isStr_lst, v_isSeq_non, v_isSeq_bl, v_isSeq_int, v_isSeq_str, v_isSeq_tup, v_isSeq_lst, v_popS, v_appS, v_appC, v_needL, v_lstOf, v_itemsS, v_listS, v_storeS, v_setIt, v_setC, v_envS, v_tg_n, v_tg_c, v_raisS, v_kept_n, v_kept_v, v_named_s, v_named_n, v_gone_ret, v_gone_nx, v_foS, v_lcS, v_frozen_v, v_frozenD_l, v_frozenD_t, v_wipe_n, v_wipe_c, v_back_ret, v_back_nx, v_back_exc, List.getElem?_cons_zero, List.getElem?_cons_succ, List.set_cons_zero, List.set_cons_succ, Option.map_some, Option.map_none, Option.bind_some, Option.bind_none, List.map_cons, List.map_nil, List.length_cons, List.length_nil, if_true, if_false, reduceIte, Bool.not_true, Bool.not_false, hc, seqIt_v, List.map_map]
      rfl
    rw [evE, evL, e1, v_bind_ok, v_lcS]
    show R.bind (lcFix [3] [some (.v (.lst (ns.map .int))), some (.v (.int salt)), none, none, none] _ _ _ [] []) frzS = _
    rw [h, v_bind_ok, List.nil_append, v_frzS]
    have e2 := dats_v ((ns.take 48).map fun i => D.int (absI i))
    rw [List.map_map] at e2
    show dataS ((dats ((ns.take 48).map (W.v ∘ fun i => D.int (absI i)))).map .lst) [] = _
    rw [e2]
    rfl
  have s2 : ∃ env' st', (fun (env : Env) (st : Store) => st = [] ∧ ∃ z b, 0 ≤ b ∧ env = [some (.v (.lst (ns.map .int))), some (.v (.int salt)), some (.v (.lst ((ns.take 48).map fun i => .int (absI i)))), z, some (.v (.int b))]) env' st' ∧
      foFix [3] (fun env st => exSs c (.cons (.asg 4 (.bin .mod (.blt .int (.cons (.bin .add (.bin .add (.bin .mul (.var 4) (.lit (.int 48271))) (.bin .mod (.var 3) (.lit (.int 2147483549)))) (.lit (.int 11))) .nil)) (.lit (.int 2147483647)))) .nil) env st) ((ns.take 48).map fun i => [W.v (.int (absI i))])
        [some (.v (.lst (ns.map .int))), some (.v (.int salt)), some (.v (.lst ((ns.take 48).map fun i => .int (absI i)))), none, some (.v (.int (7919 + 104729 * salt)))] [] = .nx env' st' := by
    refine fo_inv _ _ _ _ _ ⟨rfl, none, _, by omega, rfl⟩ fun i _ env st ⟨h1, z, b, hb, h2⟩ => ?_
    subst h1 h2
    refine ⟨_, _, [], rfl, ?_, rfl, some (.v (.int (absI i))), (b * 48271 + absI i % 2147483549 + 11) % 2147483647, Int.emod_nonneg _ (by decide), rfl⟩
    simp only [exSs, exS, evE, evT, evL, evI, evEs, evTs, evO, v_bind_ok, v_bind_exc, v_bindG_ok, v_bindG_exc, v_then_nx, v_fo_nx, v_catch_nx, v_then_ret, v_fo_ret, v_catch_ret, v_then_brk, v_fo_brk, v_catch_brk, v_then_cnt, v_fo_cnt, v_catch_cnt, v_then_exc, v_fo_exc, v_catch_exc, v_turnB, v_turnS, v_lc_t, v_lc_f, v_ofO, v_data, v_binS, v_bin2, v_add, v_sub, v_mul, v_fdiv, v_mod, v_addT, v_cmpS, v_cmpW_eq, v_cmpW_ne, v_cmpW_lt, v_cmpW_le, v_cmpW_gt, v_cmpW_ge, v_cmpW_inn, v_cmpW_nin, v_cmpW_isn, v_cmpW_nisn, v_cmp2, v_eq, v_ne, v_lt, v_le, v_gt, v_ge, v_inn_lst, v_nin_lst, v_inn_tup, v_nin_tup, v_chnS_t, v_chnS_f, v_chnT_t, v_chnT_f, v_orS_t, v_orS_f, v_orT_t, v_orT_f, v_andT_t, v_andT_f, v_if_t, v_if_f, v_notS, v_negS, v_idxS, v_idxW, v_idx2, v_items_v, v_items_r, v_itemsC_l, v_itemsC_f, v_itemsD_l, v_itemsD_t, v_view_v, v_view_r, v_viewC_l, v_viewC_f, v_dats_c, v_dats_n, v_boolOf, v_intOf, v_varO_v, v_varO_r, v_exatO_i, v_exatO_n, v_exatO_t, v_exatO_l, v_exatO_b, v_tupS, v_slcS, v_slcD_t, v_slcD_l, v_frzS, v_livS, v_callS, v_call2, v_args_n, v_args_a, v_args_d, v_args2, v_callW_f, v_allV_n, v_allV_c, v_pure_ok, v_pure_exc, v_bltS, v_len, v_int_i, v_int_b, v_abs, v_tuple, v_tupI, v_isint, v_isbool, v_isstr, v_isseq, v_kind_v, v_kind_r, v_kindC_l, v_kindC_f, v_isInt_non, v_isInt_bl, v_isInt_int, v_isInt_str, v_isInt_tup, v_isInt_lst, v_isBool_non, v_isBool_bl, v_isBool_int, v_isBool_str, v_isBool_tup, v_isBool_lst, v_isStr_non, v_isStr_bl, v_isStr_int, v_isStr_str, v_isStr_tup, v_isStr_lst, v_isSeq_non, v_isSeq_bl, v_isSeq_int, v_isSeq_str, v_isSeq_tup, v_isSeq_lst, v_popS, v_appS, v_appC, v_needL, v_lstOf, v_itemsS, v_listS, v_storeS, v_setIt, v_setC, v_envS, v_tg_n, v_tg_c, v_raisS, v_kept_n, v_kept_v, v_named_s, v_named_n, v_gone_ret, v_gone_nx, v_foS, v_lcS, v_frozen_v, v_frozenD_l, v_frozenD_t, v_wipe_n, v_wipe_c, v_back_ret, v_back_nx, v_back_exc, List.getElem?_cons_zero, List.getElem?_cons_succ, List.set_cons_zero, List.set_cons_succ, Option.map_some, Option.map_none, Option.bind_some, Option.bind_none, List.map_cons, List.map_nil, List.length_cons, List.length_nil, if_true, if_false, reduceIte, Bool.not_true, Bool.not_false, small_b, Bool.or_true, show decide ((0 : Int) < 2147483647) = true from rfl, show decide ((0 : Int) < 2147483549) = true from rfl]
  obtain ⟨env', st', ⟨h1, z, b, hb, h2⟩, s3⟩ := s2
  subst h1 h2
  refine ⟨(((ns.take 48).map absI).filter fun i => decide (10 ^ 18 ≤ i)).reverse, b, ⟨fun x hx => ?_, hb, ?_⟩, ?_⟩
  · rw [List.mem_reverse] at hx
    obtain ⟨a, _, rfl⟩ := List.mem_map.mp (List.mem_filter.mp hx).1
    exact absI_nn a
  · rw [List.length_reverse]
    refine Nat.le_trans (List.length_filter_le _ _) ?_
    rw [List.length_map, List.length_take]
    omega
  · unfold cDraw
    rw [exSs, exS, s1, v_bindG_ok, v_then_nx, exSs]
    have s4 : exS c (.asg 4 (.bin .add (.lit (.int 7919)) (.bin .mul (.lit (.int 104729)) (.var 1)))) [some (.v (.lst (ns.map .int))), some (.v (.int salt)), some (.v (.lst ((ns.take 48).map fun i => .int (absI i)))), none, none] [] = .nx [some (.v (.lst (ns.map .int))), some (.v (.int salt)), some (.v (.lst ((ns.take 48).map fun i => .int (absI i)))), none, some (.v (.int (7919 + 104729 * salt)))] [] := by
      simp only [exSs, exS, evE, evT, evL, evI, evEs, evTs, evO, v_bind_ok, v_bind_exc, v_bindG_ok, v_bindG_exc, v_then_nx, v_fo_nx, v_catch_nx, v_then_ret, v_fo_ret, v_catch_ret, v_then_brk, v_fo_brk, v_catch_brk, v_then_cnt, v_fo_cnt, v_catch_cnt, v_then_exc, v_fo_exc, v_catch_exc, v_turnB, v_turnS, v_lc_t, v_lc_f, v_ofO, v_data, v_binS, v_bin2, v_add, v_sub, v_mul, v_fdiv, v_mod, v_addT, v_cmpS, v_cmpW_eq, v_cmpW_ne, v_cmpW_lt, v_cmpW_le, v_cmpW_gt, v_cmpW_ge, v_cmpW_inn, v_cmpW_nin, v_cmpW_isn, v_cmpW_nisn, v_cmp2, v_eq, v_ne, v_lt, v_le, v_gt, v_ge, v_inn_lst, v_nin_lst, v_inn_tup, v_nin_tup, v_chnS_t, v_chnS_f, v_chnT_t, v_chnT_f, v_orS_t, v_orS_f, v_orT_t, v_orT_f, v_andT_t, v_andT_f, v_if_t, v_if_f, v_notS, v_negS, v_idxS, v_idxW, v_idx2, v_items_v, v_items_r, v_itemsC_l, v_itemsC_f, v_itemsD_l, v_itemsD_t, v_view_v, v_view_r, v_viewC_l, v_viewC_f, v_dats_c, v_dats_n, v_boolOf, v_intOf, v_varO_v, v_varO_r, v_exatO_i, v_exatO_n, v_exatO_t, v_exatO_l, v_exatO_b, v_tupS, v_slcS, v_slcD_t, v_slcD_l, v_frzS, v_livS, v_callS, v_call2, v_args_n, v_args_a, v_args_d, v_args2, v_callW_f, v_allV_n, v_allV_c, v_pure_ok, v_pure_exc, v_bltS, v_len, v_int_i, v_int_b, v_abs, v_tuple, v_tupI, v_isint, v_isbool, v_isstr, v_isseq, v_kind_v, v_kind_r, v_kindC_l, v_kindC_f, v_isInt_non, v_isInt_bl, v_isInt_int, v_isInt_str, v_isInt_tup, v_isInt_lst, v_isBool_non, v_isBool_bl, v_isBool_int, v_isBool_str, v_isBool_tup, v_isBool_lst, v_isStr_non, v_isStr_bl, v_isStr_int, v_isStr_str, v_isStr_tup, v_isStr_lst, v_isSeq_non, v_isSeq_bl, v_isSeq_int, v_isSeq_str, v_isSeq_tup, v_isSeq_lst, v_popS, v_appS, v_appC, v_needL, v_lstOf, v_itemsS, v_listS, v_storeS, v_setIt, v_setC, v_envS, v_tg_n, v_tg_c, v_raisS, v_kept_n, v_kept_v, v_named_s, v_named_n, v_gone_ret, v_gone_nx, v_foS, v_lcS, v_frozen_v, v_frozenD_l, v_frozenD_t, v_wipe_n, v_wipe_c, v_back_ret, v_back_nx, v_back_exc, List.getElem?_cons_zero, List.getElem?_cons_succ, List.set_cons_zero, List.set_cons_succ, Option.map_some, Option.map_none, Option.bind_some, Option.bind_none, List.map_cons, List.map_nil, List.length_cons, List.length_nil, if_true, if_false, reduceIte, Bool.not_true, Bool.not_false, small_a, Bool.true_or]
    show thenS (exS c (.asg 4 (.bin .add (.lit (.int 7919)) (.bin .mul (.lit (.int 104729)) (.var 1)))) [some (.v (.lst (ns.map .int))), some (.v (.int salt)), some (.v (.lst ((ns.take 48).map fun i => .int (absI i)))), none, none] []) _ = _
    rw [s4, v_then_nx, exSs, exS]
    have s5 : evI c [3] (.seq (.var 2)) [some (.v (.lst (ns.map .int))), some (.v (.int salt)), some (.v (.lst ((ns.take 48).map fun i => .int (absI i)))), none, some (.v (.int (7919 + 104729 * salt)))] [] = .ok (.fix ((ns.take 48).map fun i => [W.v (.int (absI i))])) [] := by
      simp only [evE, evT, evL, evI, evEs, evTs, evO, v_bind_ok, v_bind_exc, v_bindG_ok, v_bindG_exc, v_then_nx, v_fo_nx, v_catch_nx, v_then_ret, v_fo_ret, v_catch_ret, v_then_brk, v_fo_brk, v_catch_brk, v_then_cnt, v_fo_cnt, v_catch_cnt, v_then_exc, v_fo_exc, v_catch_exc, v_turnB, v_turnS, v_lc_t, v_lc_f, v_ofO, v_data, v_binS, v_bin2, v_add, v_sub, v_mul, v_fdiv, v_mod, v_addT, v_cmpS, v_cmpW_eq, v_cmpW_ne, v_cmpW_lt, v_cmpW_le, v_cmpW_gt, v_cmpW_ge, v_cmpW_inn, v_cmpW_nin, v_cmpW_isn, v_cmpW_nisn, v_cmp2, v_eq, v_ne, v_lt, v_le, v_gt, v_ge, v_inn_lst, v_nin_lst, v_inn_tup, v_nin_tup, v_chnS_t, v_chnS_f, v_chnT_t, v_chnT_f, v_orS_t, v_orS_f, v_orT_t, v_orT_f, v_andT_t, v_andT_f, v_if_t, v_if_f, v_notS, v_negS, v_idxS, v_idxW, v_idx2, v_items_v, v_items_r, v_itemsC_l, v_itemsC_f, v_itemsD_l, v_itemsD_t, v_view_v, v_view_r, v_viewC_l, v_viewC_f, v_dats_c, v_dats_n, v_boolOf, v_intOf, v_varO_v, v_varO_r, v_exatO_i, v_exatO_n, v_exatO_t, v_exatO_l, v_exatO_b, v_tupS, v_slcS, v_slcD_t, v_slcD_l, v_frzS, v_livS, v_callS, v_call2, v_args_n, v_args_a, v_args_d, v_args2, v_callW_f, v_allV_n, v_allV_c, v_pure_ok, v_pure_exc, v_bltS, v_len, v_int_i, v_int_b, v_abs, v_tuple, v_tupI, v_isint, v_isbool, v_isstr, v_isseq, v_kind_v, v_kind_r, v_kindC_l, v_kindC_f, v_isInt_non, v_isInt_bl, v_isInt_int, v_isInt_str, v_isInt_tup, v_isInt_lst, v_isBool_non, v_isBool_bl, v_isBool_int, v_isBool_str, v_isBool_tup, v_isBool_lst, v_isStr_non, v_isStr_bl, v_isStr_int, v_isStr_str, v_isStr_tup, v_isStr_lst, v_isSeq_non, v_isSeq_bl, v_isSeq_int, v_isSeq_str, v_isSeq_tup, v_isSeq_lst, v_popS, v_appS, v_appC, v_needL, v_lstOf, v_itemsS, v_listS, v_storeS, v_setIt, v_setC, v_envS, v_tg_n, v_tg_c, v_raisS, v_kept_n, v_kept_v, v_named_s, v_named_n, v_gone_ret, v_gone_nx, v_foS, v_lcS, v_frozen_v, v_frozenD_l, v_frozenD_t, v_wipe_n, v_wipe_c, v_back_ret, v_back_nx, v_back_exc, List.getElem?_cons_zero, List.getElem?_cons_succ, List.set_cons_zero, List.set_cons_succ, Option.map_some, Option.map_none, Option.bind_some, Option.bind_none, List.map_cons, List.map_nil, List.length_cons, List.length_nil, if_true, if_false, reduceIte, Bool.not_true, Bool.not_false, seqIt_v, List.map_map]
      rfl
    rw [s5, v_bindG_ok, v_foS, s3, v_then_nx, exSs, exS, evE, evL, evEs, evE, evL, evE]
    have s6 : evI c [3] (.seq (.var 2)) [some (.v (.lst (ns.map .int))), some (.v (.int salt)), some (.v (.lst ((ns.take 48).map fun i => .int (absI i)))), z, some (.v (.int b))] [] = .ok (.fix (((ns.take 48).map absI).map fun i => [W.v (.int i)])) [] := by
      simp only [evE, evT, evL, evI, evEs, evTs, evO, v_bind_ok, v_bind_exc, v_bindG_ok, v_bindG_exc, v_then_nx, v_fo_nx, v_catch_nx, v_then_ret, v_fo_ret, v_catch_ret, v_then_brk, v_fo_brk, v_catch_brk, v_then_cnt, v_fo_cnt, v_catch_cnt, v_then_exc, v_fo_exc, v_catch_exc, v_turnB, v_turnS, v_lc_t, v_lc_f, v_ofO, v_data, v_binS, v_bin2, v_add, v_sub, v_mul, v_fdiv, v_mod, v_addT, v_cmpS, v_cmpW_eq, v_cmpW_ne, v_cmpW_lt, v_cmpW_le, v_cmpW_gt, v_cmpW_ge, v_cmpW_inn, v_cmpW_nin, v_cmpW_isn, v_cmpW_nisn, v_cmp2, v_eq, v_ne, v_lt, v_le, v_gt, v_ge, v_inn_lst, v_nin_lst, v_inn_tup, v_nin_tup, v_chnS_t, v_chnS_f, v_chnT_t, v_chnT_f, v_orS_t, v_orS_f, v_orT_t, v_orT_f, v_andT_t, v_andT_f, v_if_t, v_if_f, v_notS, v_negS, v_idxS, v_idxW, v_idx2, v_items_v, v_items_r, v_itemsC_l, v_itemsC_f, v_itemsD_l, v_itemsD_t, v_view_v, v_view_r, v_viewC_l, v_viewC_f, v_dats_c, v_dats_n, v_boolOf, v_intOf, v_varO_v, v_varO_r, v_exatO_i, v_exatO_n, v_exatO_t, v_exatO_l, v_exatO_b, v_tupS, v_slcS, v_slcD_t, v_slcD_l, v_frzS, v_livS, v_callS, v_call2, v_args_n, v_args_a, v_args_d, v_args2, v_callW_f, v_allV_n, v_allV_c, v_pure_ok, v_pure_exc, v_bltS, v_len, v_int_i, v_int_b, v_abs, v_tuple, v_tupI, v_isint, v_isbool, v_isstr, v_isseq, v_kind_v, v_kind_r, v_kindC_l, v_kindC_f, v_isInt_non, v_isInt_bl, v_isInt_int, v_isInt_str, v_isInt_tup, v_isInt_lst, v_isBool_non, v_isBool_bl, v_isBool_int, v_isBool_str, v_isBool_tup, v_isBool_lst, v_isStr_non, v_isStr_bl, v_isStr_int, v_isStr_str, v_isStr_tup, v_isStr_lst, v_isSeq_non, v_isSeq_bl, v_isSeq_int, v_isSeq_str, v_isSeq_tup, v_isSeq_lst, v_popS, v_appS, v_appC, v_needL, v_lstOf, v_itemsS, v_listS, v_storeS, v_setIt, v_setC, v_envS, v_tg_n, v_tg_c, v_raisS, v_kept_n, v_kept_v, v_named_s, v_named_n, v_gone_ret, v_gone_nx, v_foS, v_lcS, v_frozen_v, v_frozenD_l, v_frozenD_t, v_wipe_n, v_wipe_c, v_back_ret, v_back_nx, v_back_exc, List.getElem?_cons_zero, List.getElem?_cons_succ, List.set_cons_zero, List.set_cons_succ, Option.map_some, Option.map_none, Option.bind_some, Option.bind_none, List.map_cons, List.map_nil, List.length_cons, List.length_nil, if_true, if_false, reduceIte, Bool.not_true, Bool.not_false, seqIt_v, List.map_map]
      rfl
    have h := lc_fil (i := 3) (env := [some (.v (.lst (ns.map .int))), some (.v (.int salt)), some (.v (.lst ((ns.take 48).map fun i => .int (absI i)))), none, some (.v (.int b))]) (t := fun env st => evTs c (.one (.cmp .ge (.var 3) (.bin .pow (.lit (.int 10)) (.lit (.int 18))))) env st) (e := fun env st => evE c (.var 3) env st) (st := [])
      (fun i : Int => W.v (.int i)) (fun i => decide (10 ^ 18 ≤ i)) (fun i : Int => W.v (.int i)) ((ns.take 48).map absI) [] fun a _ => ⟨by
        have e : binD .pow (.int 10) (.int 18) = some (.int (10 ^ 18)) := rfl
        simp only [evE, evT, evL, evI, evEs, evTs, evO, v_bind_ok, v_bind_exc, v_bindG_ok, v_bindG_exc, v_then_nx, v_fo_nx, v_catch_nx, v_then_ret, v_fo_ret, v_catch_ret, v_then_brk, v_fo_brk, v_catch_brk, v_then_cnt, v_fo_cnt, v_catch_cnt, v_then_exc, v_fo_exc, v_catch_exc, v_turnB, v_turnS, v_lc_t, v_lc_f, v_ofO, v_data, v_binS, v_bin2, v_add, v_sub, v_mul, v_fdiv, v_mod, v_addT, v_cmpS, v_cmpW_eq, v_cmpW_ne, v_cmpW_lt, v_cmpW_le, v_cmpW_gt, v_cmpW_ge, v_cmpW_inn, v_cmpW_nin, v_cmpW_isn, v_cmpW_nisn, v_cmp2, v_eq, v_ne, v_lt, v_le, v_gt, v_ge, v_inn_lst, v_nin_lst, v_inn_tup, v_nin_tup, v_chnS_t, v_chnS_f, v_chnT_t, v_chnT_f, v_orS_t, v_orS_f, v_orT_t, v_orT_f, v_andT_t, v_andT_f, v_if_t, v_if_f, v_notS, v_negS, v_idxS, v_idxW, v_idx2, v_items_v, v_items_r, v_itemsC_l, v_itemsC_f, v_itemsD_l, v_itemsD_t, v_view_v, v_view_r, v_viewC_l, v_viewC_f, v_dats_c, v_dats_n, v_boolOf, v_intOf, v_varO_v, v_varO_r, v_exatO_i, v_exatO_n, v_exatO_t, v_exatO_l, v_exatO_b, v_tupS, v_slcS, v_slcD_t, v_slcD_l, v_frzS, v_livS, v_callS, v_call2, v_args_n, v_args_a, v_args_d, v_args2, v_callW_f, v_allV_n, v_allV_c, v_pure_ok, v_pure_exc, v_bltS, v_len, v_int_i, v_int_b, v_abs, v_tuple, v_tupI, v_isint, v_isbool, v_isstr, v_isseq, v_kind_v, v_kind_r, v_kindC_l, v_kindC_f, v_isInt_non, v_isInt_bl, v_isInt_int, v_isInt_str, v_isInt_tup, v_isInt_lst, v_isBool_non, v_isBool_bl, v_isBool_int, v_isBool_str, v_isBool_tup, v_isBool_lst, v_isStr_non, v_isStr_bl, v_isStr_int, v_isStr_str, v_isStr_tup, v_isStr_lst, v_isSeq_non, v_isSeq_bl, v_isSeq_int, v_isSeq_str, v_isSeq_tup, v_isSeq_lst, v_popS, v_appS, v_appC, v_needL, v_lstOf, v_itemsS, v_listS, v_storeS, v_setIt, v_setC, v_envS, v_tg_n, v_tg_c, v_raisS, v_kept_n, v_kept_v, v_named_s, v_named_n, v_gone_ret, v_gone_nx, v_foS, v_lcS, v_frozen_v, v_frozenD_l, v_frozenD_t, v_wipe_n, v_wipe_c, v_back_ret, v_back_nx, v_back_exc, List.getElem?_cons_zero, List.getElem?_cons_succ, List.set_cons_zero, List.set_cons_succ, Option.map_some, Option.map_none, Option.bind_some, Option.bind_none, List.map_cons, List.map_nil, List.length_cons, List.length_nil, if_true, if_false, reduceIte, Bool.not_true, Bool.not_false, e], fun _ => by simp only [evE, evT, evL, evI, evEs, evTs, evO, v_bind_ok, v_bind_exc, v_bindG_ok, v_bindG_exc, v_then_nx, v_fo_nx, v_catch_nx, v_then_ret, v_fo_ret, v_catch_ret, v_then_brk, v_fo_brk, v_catch_brk, v_then_cnt, v_fo_cnt, v_catch_cnt, v_then_exc, v_fo_exc, v_catch_exc, v_turnB, v_turnS, v_lc_t, v_lc_f, v_ofO, v_data, v_binS, v_bin2, v_add, v_sub, v_mul, v_fdiv, v_mod, v_addT, v_cmpS, v_cmpW_eq, v_cmpW_ne, v_cmpW_lt, v_cmpW_le, v_cmpW_gt, v_cmpW_ge, v_cmpW_inn, v_cmpW_nin, v_cmpW_isn, v_cmpW_nisn, v_cmp2, v_eq, v_ne, v_lt, v_le, v_gt, v_ge, v_inn_lst, v_nin_lst, v_inn_tup, v_nin_tup, v_chnS_t, v_chnS_f, v_chnT_t, v_chnT_f, v_orS_t, v_orS_f, v_orT_t, v_orT_f, v_andT_t, v_andT_f, v_if_t, v_if_f, v_notS, v_negS, v_idxS, v_idxW, v_idx2, v_items_v, v_items_r, v_itemsC_l, v_itemsC_f, v_itemsD_l, v_itemsD_t, v_view_v, v_view_r, v_viewC_l, v_viewC_f, v_dats_c, v_dats_n, v_boolOf, v_intOf, v_varO_v, v_varO_r, v_exatO_i, v_exatO_n, v_exatO_t, v_exatO_l, v_exatO_b, v_tupS, v_slcS, v_slcD_t, v_slcD_l, v_frzS, v_livS, v_callS, v_call2, v_args_n, v_args_a, v_args_d, v_args2, v_callW_f, v_allV_n, v_allV_c, v_pure_ok, v_pure_exc, v_bltS, v_len, v_int_i, v_int_b, v_abs, v_tuple, v_tupI, v_isint, v_isbool, v_isstr, v_isseq, v_kind_v, v_kind_r, v_kindC_l, v_kindC_f, v_isInt_non, v_isInt_bl, v_isInt_int, v_isInt_str, v_isInt_tup, v_isInt_lst, v_isBool_non, v_isBool_bl, v_isBool_int, v_isBool_str, v_isBool_tup, v_isBool_lst, v_isStr_non, v_isStr_bl, v_isStr_int, v_isStr_str, v_isStr_tup, v_isStr_lst, v_isSeq_non, v_isSeq_bl, v_isSeq_int, v_isSeq_str, v_isSeq_tup, v_isSeq_lst, v_popS, v_appS, v_appC, v_needL, v_lstOf, v_itemsS, v_listS, v_storeS, v_setIt, v_setC, v_envS, v_tg_n, v_tg_c, v_raisS, v_kept_n, v_kept_v, v_named_s, v_named_n, v_gone_ret, v_gone_nx, v_foS, v_lcS, v_frozen_v, v_frozenD_l, v_frozenD_t, v_wipe_n, v_wipe_c, v_back_ret, v_back_nx, v_back_exc, List.getElem?_cons_zero, List.getElem?_cons_succ, List.set_cons_zero, List.set_cons_succ, Option.map_some, Option.map_none, Option.bind_some, Option.bind_none, List.map_cons, List.map_nil, List.length_cons, List.length_nil, if_true, if_false, reduceIte, Bool.not_true, Bool.not_false]⟩
    have s7 : evL c (.lc [3] [3] (.seq (.var 2)) (.one (.cmp .ge (.var 3) (.bin .pow (.lit (.int 10)) (.lit (.int 18))))) (.var 3)) [some (.v (.lst (ns.map .int))), some (.v (.int salt)), some (.v (.lst ((ns.take 48).map fun i => .int (absI i)))), z, some (.v (.int b))] [] = .ok ((((ns.take 48).map absI).filter fun i => decide (10 ^ 18 ≤ i)).map fun i => W.v (.int i)) [] := by
      rw [evL, s6, v_bind_ok, v_lcS]
      exact h
    rw [s7]
    simp only [evE, evT, evL, evI, evEs, evTs, evO, v_bind_ok, v_bind_exc, v_bindG_ok, v_bindG_exc, v_then_nx, v_fo_nx, v_catch_nx, v_then_ret, v_fo_ret, v_catch_ret, v_then_brk, v_fo_brk, v_catch_brk, v_then_cnt, v_fo_cnt, v_catch_cnt, v_then_exc, v_fo_exc, v_catch_exc, v_turnB, v_turnS, v_lc_t, v_lc_f, v_ofO, v_data, v_binS, v_bin2, v_add, v_sub, v_mul, v_fdiv, v_mod, v_addT, v_cmpS, v_cmpW_eq, v_cmpW_ne, v_cmpW_lt, v_cmpW_le, v_cmpW_gt, v_cmpW_ge, v_cmpW_inn, v_cmpW_nin, v_cmpW_isn, v_cmpW_nisn, v_cmp2, v_eq, v_ne, v_lt, v_le, v_gt, v_ge, v_inn_lst, v_nin_lst, v_inn_tup, v_nin_tup, v_chnS_t, v_chnS_f, v_chnT_t, v_chnT_f, v_orS_t, v_orS_f, v_orT_t, v_orT_f, v_andT_t, v_andT_f, v_if_t, v_if_f, v_notS, v_negS, v_idxS, v_idxW, v_idx2, v_items_v, v_items_r, v_itemsC_l, v_itemsC_f, v_itemsD_l, v_itemsD_t, v_view_v, v_view_r, v_viewC_l, v_viewC_f, v_dats_c, v_dats_n, v_boolOf, v_intOf, v_varO_v, v_varO_r, v_exatO_i, v_exatO_n, v_exatO_t, v_exatO_l, v_exatO_b, v_tupS, v_slcS, v_slcD_t, v_slcD_l, v_frzS, v_livS, v_callS, v_call2, v_args_n, v_args_a, v_args_d, v_args2, v_callW_f, v_allV_n, v_allV_c, v_pure_ok, v_pure_exc, v_bltS, v_len, v_int_i, v_int_b, v_abs, v_tuple, v_tupI, v_isint, v_isbool, v_isstr, v_isseq, v_kind_v, v_kind_r, v_kindC_l, v_kindC_f, v_isInt_non, v_isInt_bl, v_isInt_int, v_isInt_str, v_isInt_tup, v_isInt_lst, v_isBool_non, v_isBool_bl, v_isBool_int, v_isBool_str, v_isBool_tup, v_isBool_lst, v_isStr_non, v_isStr_bl, v_isStr_int, v_isStr_str, v_isStr_tup, v_isStr_lst, v_isSeq_non, v_isSeq_bl, v_isSeq_int, v_isSeq_str, v_isSeq_tup, v_isSeq_lst, v_popS, v_appS, v_appC, v_needL, v_lstOf, v_itemsS, v_listS, v_storeS, v_setIt, v_setC, v_envS, v_tg_n, v_tg_c, v_raisS, v_kept_n, v_kept_v, v_named_s, v_named_n, v_gone_ret, v_gone_nx, v_foS, v_lcS, v_frozen_v, v_frozenD_l, v_frozenD_t, v_wipe_n, v_wipe_c, v_back_ret, v_back_nx, v_back_exc, List.getElem?_cons_zero, List.getElem?_cons_succ, List.set_cons_zero, List.set_cons_succ, Option.map_some, Option.map_none, Option.bind_some, Option.bind_none, List.map_cons, List.map_nil, List.length_cons, List.length_nil, if_true, if_false, reduceIte, Bool.not_true, Bool.not_false, dats_wi, List.map_map, List.map_reverse, dl, List.nil_append, List.singleton_append]
    rfl
end Pf
set_option Elab.async false
set_option linter.all false
set_option maxRecDepth 100000
set_option maxHeartbeats 4000000
/-! Pf, part U: the box, the other source of draws. -/
namespace Pf
open PySem
def bx (x0 x1 x2 : Int) : Cell := .live [.v (.int x0), .v (.int x1), .v (.int x2)]
def cTake (m : Int) : Ss := (.cons (.ite (.cmp .gt (.idx (.var 0) (.lit (.int 0))) (.lit (.int 0))) (.cons (.asg 2 (.bin .mod (.blt .int (.cons (.idx (.var 0) (.lit (.int 0))) .nil)) (.var 1))) (.cons (.seti (.var 0) (.lit (.int 0)) (.bin .fdiv (.idx (.var 0) (.lit (.int 0))) (.var 1))) (.cons (.ret (.var 2)) .nil))) .nil) (.cons (.seti (.var 0) (.lit (.int 2)) (.bin .add (.idx (.var 0) (.lit (.int 2))) (.lit (.int 1)))) (.cons (.asg 3 (.bin .mod (.blt .int (.cons (.bin .add (.bin .mul (.bin .add (.idx (.var 0) (.lit (.int 1))) (.bin .mul (.lit (.int m)) (.idx (.var 0) (.lit (.int 2))))) (.lit (.int 58217))) (.lit (.int 43))) .nil)) (.lit (.int 2147483563)))) (.cons (.seti (.var 0) (.lit (.int 1)) (.bin .add (.bin .mod (.blt .int (.cons (.bin .add (.bin .mul (.var 3) (.lit (.int 40289))) (.lit (.int 27367))) .nil)) (.lit (.int 2147483629))) (.lit (.int 1)))) (.cons (.ret (.bin .mod (.blt .int (.cons (.bin .fdiv (.bin .add (.bin .mul (.var 3) (.lit (.int 2147483647))) (.idx (.var 0) (.lit (.int 1)))) (.lit (.int 8191))) .nil)) (.var 1))) .nil)))))
def cPick (ft : Nat) : Ss := (.cons (.ret (.idx (.var 1) (.call false ft 2 [] [.a 0, .a 1] (.cons (.var 0) (.cons (.blt .len (.cons (.var 1) .nil)) .nil))))) .nil)
def cBox (a b p q r : Int) : Ss := (.cons (.asg 2 (.bin .add (.bin .mul (.lit (.int a)) (.var 1)) (.lit (.int b)))) (.cons (.ite (.cmp .lt (.var 1) (.blt .len (.cons (.var 0) .nil))) (.cons (.asg 2 (.blt .abs (.cons (.idx (.var 0) (.var 1)) .nil))) .nil) (.cons (.ite (.cmp .gt (.blt .len (.cons (.var 0) .nil)) (.lit (.int 0))) (.cons (.asg 2 (.bin .add (.var 2) (.bin .mul (.bin .mod (.blt .int (.cons (.blt .abs (.cons (.idx (.var 0) (.bin .mod (.blt .int (.cons (.var 1) .nil)) (.blt .len (.cons (.var 0) .nil)))) .nil)) .nil)) (.lit (.int 2147483629))) (.lit (.int p))))) .nil) .nil) .nil)) (.cons (.ret (.liv (.disp (.cons (.idx (.frz (.disp (.cons (.lit (.int 0)) (.cons (.var 2) .nil)))) (.blt .int (.cons (.cmp .ge (.var 2) (.bin .pow (.lit (.int 10)) (.lit (.int 18)))) .nil))) (.cons (.bin .add (.bin .mod (.blt .int (.cons (.bin .add (.bin .mul (.bin .mod (.blt .int (.cons (.var 2) .nil)) (.lit (.int 2147483629))) (.lit (.int q))) (.bin .mul (.lit (.int r)) (.var 1))) .nil)) (.lit (.int 2147483629))) (.lit (.int 1))) (.cons (.lit (.int 0)) .nil)))))) .nil)))
theorem itemsC_bx (x0 x1 x2 : Int) : itemsC (some (bx x0 x1 x2)) = some (false, [.v (.int x0), .v (.int x1), .v (.int x2)]) := rfl
theorem setC_0 (st : Store) (n : Nat) (x0 x1 x2 y : Int) : setC st n 0 (.v (.int y)) (some (bx x0 x1 x2)) = some (st.set n (bx y x1 x2)) := rfl
theorem setC_1 (st : Store) (n : Nat) (x0 x1 x2 y : Int) : setC st n 1 (.v (.int y)) (some (bx x0 x1 x2)) = some (st.set n (bx x0 y x2)) := rfl
theorem setC_2 (st : Store) (n : Nat) (x0 x1 x2 y : Int) : setC st n 2 (.v (.int y)) (some (bx x0 x1 x2)) = some (st.set n (bx x0 x1 y)) := rfl
theorem ix3 (a b c : W) : L2.atI [a, b, c] 0 = some a ∧ L2.atI [a, b, c] 1 = some b ∧ L2.atI [a, b, c] 2 = some c := ⟨rfl, rfl, rfl⟩
theorem ixN3 : L2.ixN 3 0 = some 0 ∧ L2.ixN 3 1 = some 1 ∧ L2.ixN 3 2 = some 2 := ⟨rfl, rfl, rfl⟩
theorem set_set {α : Type} (l : List α) (n : Nat) (a b : α) : (l.set n a).set n b = l.set n b := by
  induction l generalizing n with
  | nil => rfl
  | cons x l ih =>
    cases n with
    | zero => rfl
    | succ n => simp [ih]
section
variable {c : Cx} {st : Store} {n : Nat} {x0 x1 x2 k m : Int}
theorem set_at {l : Store} (h : l[n]? = some (bx x0 x1 x2)) (a : Cell) : (l.set n a)[n]? = some a := List.getElem?_set_self (List.getElem?_eq_some_iff.mp h).1
theorem take_spec (h : st[n]? = some (bx x0 x1 x2)) (hm : small m = true) (k0 : 0 < k) (k1 : k < 1073741824) : ∃ r y0 y1 y2, 0 ≤ r ∧ r < k ∧ exSs c (cTake m) [some (.r n), some (.v (.int k)), none, none] st = .ret (.v (.int r)) (st.set n (bx y0 y1 y2)) := by
  have d0 : decide (0 < k) = true := decide_eq_true k0
  have d1 : decide (k < 1073741824) = true := decide_eq_true k1
  have t0 : evT c (.cmp .gt (.idx (.var 0) (.lit (.int 0))) (.lit (.int 0))) [some (.r n), some (.v (.int k)), none, none] st = .ok (decide (0 < x0)) st := by
    simp only [evE, evT, evL, evI, evEs, evTs, evO, v_bind_ok, v_bind_exc, v_bindG_ok, v_bindG_exc, v_then_nx, v_fo_nx, v_catch_nx, v_then_ret, v_fo_ret, v_catch_ret, v_then_brk, v_fo_brk, v_catch_brk, v_then_cnt, v_fo_cnt, v_catch_cnt, v_then_exc, v_fo_exc, v_catch_exc, v_turnB, v_turnS, v_lc_t, v_lc_f, v_ofO, v_data, v_binS, v_bin2, v_add, v_sub, v_mul, v_fdiv, v_mod, v_addT, v_cmpS, v_cmpW_eq, v_cmpW_ne, v_cmpW_lt, v_cmpW_le, v_cmpW_gt, v_cmpW_ge, v_cmpW_inn, v_cmpW_nin, v_cmpW_isn, v_cmpW_nisn, v_cmp2, v_eq, v_ne, v_lt, v_le, v_gt, v_ge, v_inn_lst, v_nin_lst, v_inn_tup, v_nin_tup, v_chnS_t, v_chnS_f, v_chnT_t, v_chnT_f, v_orS_t, v_orS_f, v_orT_t, v_orT_f, v_andT_t, v_andT_f, v_if_t, v_if_f, v_notS, v_negS, v_idxS, v_idxW, v_idx2, v_items_v, v_items_r, v_itemsC_l, v_itemsC_f, v_itemsD_l, v_itemsD_t, v_view_v, v_view_r, v_viewC_l, v_viewC_f, v_dats_c, v_dats_n, v_boolOf, v_intOf, v_varO_v, v_varO_r, v_exatO_i, v_exatO_n, v_exatO_t, v_exatO_l, v_exatO_b, v_tupS, v_slcS, v_slcD_t, v_slcD_l, v_frzS, v_livS, v_callS, v_call2, v_args_n, v_args_a, v_args_d, v_args2, v_callW_f, v_allV_n, v_allV_c, v_pure_ok, v_pure_exc, v_bltS, v_len, v_int_i, v_int_b, v_abs, v_tuple, v_tupI, v_isint, v_isbool, v_isstr, v_isseq, v_kind_v, v_kind_r, v_kindC_l, v_kindC_f, v_isInt_non, v_isInt_bl, v_isInt_int, v_isInt_str, v_isInt_tup, v_isInt_lst, v_isBool_non, v_isBool_bl, v_isBool_int, v_isBool_str, v_isBool_tup, v_isBool_lst, v_isStr_non, v_isStr_bl, v_isStr_int, v_isStr_str, v_isStr_tup, v_isStr_lst, v_isSeq_non, v_isSeq_bl, v_isSeq_int, v_isSeq_str, v_isSeq_tup, v_isSeq_lst, v_popS, v_appS, v_appC, v_needL, v_lstOf, v_itemsS, v_listS, v_storeS, v_setIt,  v_envS, v_tg_n, v_tg_c, v_raisS, v_kept_n, v_kept_v, v_named_s, v_named_n, v_gone_ret, v_gone_nx, v_foS, v_lcS, v_frozen_v, v_frozenD_l, v_frozenD_t, v_wipe_n, v_wipe_c, v_back_ret, v_back_nx, v_back_exc, List.getElem?_cons_zero, List.getElem?_cons_succ, List.set_cons_zero, List.set_cons_succ, Option.map_some, Option.map_none, Option.bind_some, Option.bind_none, List.map_cons, List.map_nil, List.length_cons, List.length_nil, if_true, if_false, reduceIte, Bool.not_true, Bool.not_false, h, itemsC_bx, setC_0, setC_2, (ix3 _ _ _).1]
  unfold cTake
  rw [exSs, exS, t0, v_bindG_ok]
  by_cases hx : 0 < x0
  · rw [decide_eq_true hx, v_if_t]
    refine ⟨x0 % k, x0 / k, x1, x2, Int.emod_nonneg _ (by omega), Int.emod_lt_of_pos _ k0, ?_⟩
    simp only [exSs, exS, evE, evT, evL, evI, evEs, evTs, evO, v_bind_ok, v_bind_exc, v_bindG_ok, v_bindG_exc, v_then_nx, v_fo_nx, v_catch_nx, v_then_ret, v_fo_ret, v_catch_ret, v_then_brk, v_fo_brk, v_catch_brk, v_then_cnt, v_fo_cnt, v_catch_cnt, v_then_exc, v_fo_exc, v_catch_exc, v_turnB, v_turnS, v_lc_t, v_lc_f, v_ofO, v_data, v_binS, v_bin2, v_add, v_sub, v_mul, v_fdiv, v_mod, v_addT, v_cmpS, v_cmpW_eq, v_cmpW_ne, v_cmpW_lt, v_cmpW_le, v_cmpW_gt, v_cmpW_ge, v_cmpW_inn, v_cmpW_nin, v_cmpW_isn, v_cmpW_nisn, v_cmp2, v_eq, v_ne, v_lt, v_le, v_gt, v_ge, v_inn_lst, v_nin_lst, v_inn_tup, v_nin_tup, v_chnS_t, v_chnS_f, v_chnT_t, v_chnT_f, v_orS_t, v_orS_f, v_orT_t, v_orT_f, v_andT_t, v_andT_f, v_if_t, v_if_f, v_notS, v_negS, v_idxS, v_idxW, v_idx2, v_items_v, v_items_r, v_itemsC_l, v_itemsC_f, v_itemsD_l, v_itemsD_t, v_view_v, v_view_r, v_viewC_l, v_viewC_f, v_dats_c, v_dats_n, v_boolOf, v_intOf, v_varO_v, v_varO_r, v_exatO_i, v_exatO_n, v_exatO_t, v_exatO_l, v_exatO_b, v_tupS, v_slcS, v_slcD_t, v_slcD_l, v_frzS, v_livS, v_callS, v_call2, v_args_n, v_args_a, v_args_d, v_args2, v_callW_f, v_allV_n, v_allV_c, v_pure_ok, v_pure_exc, v_bltS, v_len, v_int_i, v_int_b, v_abs, v_tuple, v_tupI, v_isint, v_isbool, v_isstr, v_isseq, v_kind_v, v_kind_r, v_kindC_l, v_kindC_f, v_isInt_non, v_isInt_bl, v_isInt_int, v_isInt_str, v_isInt_tup, v_isInt_lst, v_isBool_non, v_isBool_bl, v_isBool_int, v_isBool_str, v_isBool_tup, v_isBool_lst, v_isStr_non, v_isStr_bl, v_isStr_int, v_isStr_str, v_isStr_tup, v_isStr_lst, v_isSeq_non, v_isSeq_bl, v_isSeq_int, v_isSeq_str, v_isSeq_tup, v_isSeq_lst, v_popS, v_appS, v_appC, v_needL, v_lstOf, v_itemsS, v_listS, v_storeS, v_setIt,  v_envS, v_tg_n, v_tg_c, v_raisS, v_kept_n, v_kept_v, v_named_s, v_named_n, v_gone_ret, v_gone_nx, v_foS, v_lcS, v_frozen_v, v_frozenD_l, v_frozenD_t, v_wipe_n, v_wipe_c, v_back_ret, v_back_nx, v_back_exc, List.getElem?_cons_zero, List.getElem?_cons_succ, List.set_cons_zero, List.set_cons_succ, Option.map_some, Option.map_none, Option.bind_some, Option.bind_none, List.map_cons, List.map_nil, List.length_cons, List.length_nil, if_true, if_false, reduceIte, Bool.not_true, Bool.not_false, h, itemsC_bx, setC_0, setC_2, (ix3 _ _ _).1, d0, d1, Bool.and_self]
  · rw [decide_eq_false hx, v_if_f, exSs, v_then_nx]
    have s1 : exS c (.seti (.var 0) (.lit (.int 2)) (.bin .add (.idx (.var 0) (.lit (.int 2))) (.lit (.int 1)))) [some (.r n), some (.v (.int k)), none, none] st = .nx [some (.r n), some (.v (.int k)), none, none] (st.set n (bx x0 x1 (x2 + 1))) := by
      simp only [exSs, exS, evE, evT, evL, evI, evEs, evTs, evO, v_bind_ok, v_bind_exc, v_bindG_ok, v_bindG_exc, v_then_nx, v_fo_nx, v_catch_nx, v_then_ret, v_fo_ret, v_catch_ret, v_then_brk, v_fo_brk, v_catch_brk, v_then_cnt, v_fo_cnt, v_catch_cnt, v_then_exc, v_fo_exc, v_catch_exc, v_turnB, v_turnS, v_lc_t, v_lc_f, v_ofO, v_data, v_binS, v_bin2, v_add, v_sub, v_mul, v_fdiv, v_mod, v_addT, v_cmpS, v_cmpW_eq, v_cmpW_ne, v_cmpW_lt, v_cmpW_le, v_cmpW_gt, v_cmpW_ge, v_cmpW_inn, v_cmpW_nin, v_cmpW_isn, v_cmpW_nisn, v_cmp2, v_eq, v_ne, v_lt, v_le, v_gt, v_ge, v_inn_lst, v_nin_lst, v_inn_tup, v_nin_tup, v_chnS_t, v_chnS_f, v_chnT_t, v_chnT_f, v_orS_t, v_orS_f, v_orT_t, v_orT_f, v_andT_t, v_andT_f, v_if_t, v_if_f, v_notS, v_negS, v_idxS, v_idxW, v_idx2, v_items_v, v_items_r, v_itemsC_l, v_itemsC_f, v_itemsD_l, v_itemsD_t, v_view_v, v_view_r, v_viewC_l, v_viewC_f, v_dats_c, v_dats_n, v_boolOf, v_intOf, v_varO_v, v_varO_r, v_exatO_i, v_exatO_n, v_exatO_t, v_exatO_l, v_exatO_b, v_tupS, v_slcS, v_slcD_t, v_slcD_l, v_frzS, v_livS, v_callS, v_call2, v_args_n, v_args_a, v_args_d, v_args2, v_callW_f, v_allV_n, v_allV_c, v_pure_ok, v_pure_exc, v_bltS, v_len, v_int_i, v_int_b, v_abs, v_tuple, v_tupI, v_isint, v_isbool, v_isstr, v_isseq, v_kind_v, v_kind_r, v_kindC_l, v_kindC_f, v_isInt_non, v_isInt_bl, v_isInt_int, v_isInt_str, v_isInt_tup, v_isInt_lst, v_isBool_non, v_isBool_bl, v_isBool_int, v_isBool_str, v_isBool_tup, v_isBool_lst, v_isStr_non, v_isStr_bl, v_isStr_int, v_isStr_str, v_isStr_tup, v_isStr_lst, v_isSeq_non, v_isSeq_bl, v_isSeq_int, v_isSeq_str, v_isSeq_tup, v_isSeq_lst, v_popS, v_appS, v_appC, v_needL, v_lstOf, v_itemsS, v_listS, v_storeS, v_setIt,  v_envS, v_tg_n, v_tg_c, v_raisS, v_kept_n, v_kept_v, v_named_s, v_named_n, v_gone_ret, v_gone_nx, v_foS, v_lcS, v_frozen_v, v_frozenD_l, v_frozenD_t, v_wipe_n, v_wipe_c, v_back_ret, v_back_nx, v_back_exc, List.getElem?_cons_zero, List.getElem?_cons_succ, List.set_cons_zero, List.set_cons_succ, Option.map_some, Option.map_none, Option.bind_some, Option.bind_none, List.map_cons, List.map_nil, List.length_cons, List.length_nil, if_true, if_false, reduceIte, Bool.not_true, Bool.not_false, h, itemsC_bx, setC_0, setC_2, (ix3 _ _ _).2.2]
    have h1 := set_at h (bx x0 x1 (x2 + 1))
    have s2 : exS c (.asg 3 (.bin .mod (.blt .int (.cons (.bin .add (.bin .mul (.bin .add (.idx (.var 0) (.lit (.int 1))) (.bin .mul (.lit (.int m)) (.idx (.var 0) (.lit (.int 2))))) (.lit (.int 58217))) (.lit (.int 43))) .nil)) (.lit (.int 2147483563)))) [some (.r n), some (.v (.int k)), none, none] (st.set n (bx x0 x1 (x2 + 1))) =
        .nx [some (.r n), some (.v (.int k)), none, some (.v (.int (((x1 + m * (x2 + 1)) * 58217 + 43) % 2147483563)))] (st.set n (bx x0 x1 (x2 + 1))) := by
      simp only [exSs, exS, evE, evT, evL, evI, evEs, evTs, evO, v_bind_ok, v_bind_exc, v_bindG_ok, v_bindG_exc, v_then_nx, v_fo_nx, v_catch_nx, v_then_ret, v_fo_ret, v_catch_ret, v_then_brk, v_fo_brk, v_catch_brk, v_then_cnt, v_fo_cnt, v_catch_cnt, v_then_exc, v_fo_exc, v_catch_exc, v_turnB, v_turnS, v_lc_t, v_lc_f, v_ofO, v_data, v_binS, v_bin2, v_add, v_sub, v_mul, v_fdiv, v_mod, v_addT, v_cmpS, v_cmpW_eq, v_cmpW_ne, v_cmpW_lt, v_cmpW_le, v_cmpW_gt, v_cmpW_ge, v_cmpW_inn, v_cmpW_nin, v_cmpW_isn, v_cmpW_nisn, v_cmp2, v_eq, v_ne, v_lt, v_le, v_gt, v_ge, v_inn_lst, v_nin_lst, v_inn_tup, v_nin_tup, v_chnS_t, v_chnS_f, v_chnT_t, v_chnT_f, v_orS_t, v_orS_f, v_orT_t, v_orT_f, v_andT_t, v_andT_f, v_if_t, v_if_f, v_notS, v_negS, v_idxS, v_idxW, v_idx2, v_items_v, v_items_r, v_itemsC_l, v_itemsC_f, v_itemsD_l, v_itemsD_t, v_view_v, v_view_r, v_viewC_l, v_viewC_f, v_dats_c, v_dats_n, v_boolOf, v_intOf, v_varO_v, v_varO_r, v_exatO_i, v_exatO_n, v_exatO_t, v_exatO_l, v_exatO_b, v_tupS, v_slcS, v_slcD_t, v_slcD_l, v_frzS, v_livS, v_callS, v_call2, v_args_n, v_args_a, v_args_d, v_args2, v_callW_f, v_allV_n, v_allV_c, v_pure_ok, v_pure_exc, v_bltS, v_len, v_int_i, v_int_b, v_abs, v_tuple, v_tupI, v_isint, v_isbool, v_isstr, v_isseq, v_kind_v, v_kind_r, v_kindC_l, v_kindC_f, v_isInt_non, v_isInt_bl, v_isInt_int, v_isInt_str, v_isInt_tup, v_isInt_lst, v_isBool_non, v_isBool_bl, v_isBool_int, v_isBool_str, v_isBool_tup, v_isBool_lst, v_isStr_non, v_isStr_bl, v_isStr_int, v_isStr_str, v_isStr_tup, v_isStr_lst, v_isSeq_non, v_isSeq_bl, v_isSeq_int, v_isSeq_str, v_isSeq_tup, v_isSeq_lst, v_popS, v_appS, v_appC, v_needL, v_lstOf, v_itemsS, v_listS, v_storeS, v_setIt,  v_envS, v_tg_n, v_tg_c, v_raisS, v_kept_n, v_kept_v, v_named_s, v_named_n, v_gone_ret, v_gone_nx, v_foS, v_lcS, v_frozen_v, v_frozenD_l, v_frozenD_t, v_wipe_n, v_wipe_c, v_back_ret, v_back_nx, v_back_exc, List.getElem?_cons_zero, List.getElem?_cons_succ, List.set_cons_zero, List.set_cons_succ, Option.map_some, Option.map_none, Option.bind_some, Option.bind_none, List.map_cons, List.map_nil, List.length_cons, List.length_nil, if_true, if_false, reduceIte, Bool.not_true, Bool.not_false, h1, itemsC_bx, setC_1, (ix3 _ _ _).2.1, (ix3 _ _ _).2.2, hm, show small 58217 = true from by decide, Bool.or_true, Bool.true_or, show decide ((0 : Int) < 2147483563) = true from rfl]
    generalize ((x1 + m * (x2 + 1)) * 58217 + 43) % 2147483563 = raw at s2
    have s3 : exS c (.seti (.var 0) (.lit (.int 1)) (.bin .add (.bin .mod (.blt .int (.cons (.bin .add (.bin .mul (.var 3) (.lit (.int 40289))) (.lit (.int 27367))) .nil)) (.lit (.int 2147483629))) (.lit (.int 1)))) [some (.r n), some (.v (.int k)), none, some (.v (.int raw))] (st.set n (bx x0 x1 (x2 + 1))) =
        .nx [some (.r n), some (.v (.int k)), none, some (.v (.int raw))] (st.set n (bx x0 ((raw * 40289 + 27367) % 2147483629 + 1) (x2 + 1))) := by
      simp only [exSs, exS, evE, evT, evL, evI, evEs, evTs, evO, v_bind_ok, v_bind_exc, v_bindG_ok, v_bindG_exc, v_then_nx, v_fo_nx, v_catch_nx, v_then_ret, v_fo_ret, v_catch_ret, v_then_brk, v_fo_brk, v_catch_brk, v_then_cnt, v_fo_cnt, v_catch_cnt, v_then_exc, v_fo_exc, v_catch_exc, v_turnB, v_turnS, v_lc_t, v_lc_f, v_ofO, v_data, v_binS, v_bin2, v_add, v_sub, v_mul, v_fdiv, v_mod, v_addT, v_cmpS, v_cmpW_eq, v_cmpW_ne, v_cmpW_lt, v_cmpW_le, v_cmpW_gt, v_cmpW_ge, v_cmpW_inn, v_cmpW_nin, v_cmpW_isn, v_cmpW_nisn, v_cmp2, v_eq, v_ne, v_lt, v_le, v_gt, v_ge, v_inn_lst, v_nin_lst, v_inn_tup, v_nin_tup, v_chnS_t, v_chnS_f, v_chnT_t, v_chnT_f, v_orS_t, v_orS_f, v_orT_t, v_orT_f, v_andT_t, v_andT_f, v_if_t, v_if_f, v_notS, v_negS, v_idxS, v_idxW, v_idx2, v_items_v, v_items_r, v_itemsC_l, v_itemsC_f, v_itemsD_l, v_itemsD_t, v_view_v, v_view_r, v_viewC_l, v_viewC_f, v_dats_c, v_dats_n, v_boolOf, v_intOf, v_varO_v, v_varO_r, v_exatO_i, v_exatO_n, v_exatO_t, v_exatO_l, v_exatO_b, v_tupS, v_slcS, v_slcD_t, v_slcD_l, v_frzS, v_livS, v_callS, v_call2, v_args_n, v_args_a, v_args_d, v_args2, v_callW_f, v_allV_n, v_allV_c, v_pure_ok, v_pure_exc, v_bltS, v_len, v_int_i, v_int_b, v_abs, v_tuple, v_tupI, v_isint, v_isbool, v_isstr, v_isseq, v_kind_v, v_kind_r, v_kindC_l, v_kindC_f, v_isInt_non, v_isInt_bl, v_isInt_int, v_isInt_str, v_isInt_tup, v_isInt_lst, v_isBool_non, v_isBool_bl, v_isBool_int, v_isBool_str, v_isBool_tup, v_isBool_lst, v_isStr_non, v_isStr_bl, v_isStr_int, v_isStr_str, v_isStr_tup, v_isStr_lst, v_isSeq_non, v_isSeq_bl, v_isSeq_int, v_isSeq_str, v_isSeq_tup, v_isSeq_lst, v_popS, v_appS, v_appC, v_needL, v_lstOf, v_itemsS, v_listS, v_storeS, v_setIt,  v_envS, v_tg_n, v_tg_c, v_raisS, v_kept_n, v_kept_v, v_named_s, v_named_n, v_gone_ret, v_gone_nx, v_foS, v_lcS, v_frozen_v, v_frozenD_l, v_frozenD_t, v_wipe_n, v_wipe_c, v_back_ret, v_back_nx, v_back_exc, List.getElem?_cons_zero, List.getElem?_cons_succ, List.set_cons_zero, List.set_cons_succ, Option.map_some, Option.map_none, Option.bind_some, Option.bind_none, List.map_cons, List.map_nil, List.length_cons, List.length_nil, if_true, if_false, reduceIte, Bool.not_true, Bool.not_false, h1, itemsC_bx, setC_1, set_set, show small 40289 = true from by decide, Bool.or_true, show decide ((0 : Int) < 2147483629) = true from rfl]
    generalize (raw * 40289 + 27367) % 2147483629 + 1 = z1 at s3
    have h3 := set_at h (bx x0 z1 (x2 + 1))
    refine ⟨(raw * 2147483647 + z1) / 8191 % k, x0, z1, x2 + 1, Int.emod_nonneg _ (by omega), Int.emod_lt_of_pos _ k0, ?_⟩
    have s4 : exS c (.ret (.bin .mod (.blt .int (.cons (.bin .fdiv (.bin .add (.bin .mul (.var 3) (.lit (.int 2147483647))) (.idx (.var 0) (.lit (.int 1)))) (.lit (.int 8191))) .nil)) (.var 1))) [some (.r n), some (.v (.int k)), none, some (.v (.int raw))] (st.set n (bx x0 z1 (x2 + 1))) =
        .ret (.v (.int ((raw * 2147483647 + z1) / 8191 % k))) (st.set n (bx x0 z1 (x2 + 1))) := by
      simp only [exSs, exS, evE, evT, evL, evI, evEs, evTs, evO, v_bind_ok, v_bind_exc, v_bindG_ok, v_bindG_exc, v_then_nx, v_fo_nx, v_catch_nx, v_then_ret, v_fo_ret, v_catch_ret, v_then_brk, v_fo_brk, v_catch_brk, v_then_cnt, v_fo_cnt, v_catch_cnt, v_then_exc, v_fo_exc, v_catch_exc, v_turnB, v_turnS, v_lc_t, v_lc_f, v_ofO, v_data, v_binS, v_bin2, v_add, v_sub, v_mul, v_fdiv, v_mod, v_addT, v_cmpS, v_cmpW_eq, v_cmpW_ne, v_cmpW_lt, v_cmpW_le, v_cmpW_gt, v_cmpW_ge, v_cmpW_inn, v_cmpW_nin, v_cmpW_isn, v_cmpW_nisn, v_cmp2, v_eq, v_ne, v_lt, v_le, v_gt, v_ge, v_inn_lst, v_nin_lst, v_inn_tup, v_nin_tup, v_chnS_t, v_chnS_f, v_chnT_t, v_chnT_f, v_orS_t, v_orS_f, v_orT_t, v_orT_f, v_andT_t, v_andT_f, v_if_t, v_if_f, v_notS, v_negS, v_idxS, v_idxW, v_idx2, v_items_v, v_items_r, v_itemsC_l, v_itemsC_f, v_itemsD_l, v_itemsD_t, v_view_v, v_view_r, v_viewC_l, v_viewC_f, v_dats_c, v_dats_n, v_boolOf, v_intOf, v_varO_v, v_varO_r, v_exatO_i, v_exatO_n, v_exatO_t, v_exatO_l, v_exatO_b, v_tupS, v_slcS, v_slcD_t, v_slcD_l, v_frzS, v_livS, v_callS, v_call2, v_args_n, v_args_a, v_args_d, v_args2, v_callW_f, v_allV_n, v_allV_c, v_pure_ok, v_pure_exc, v_bltS, v_len, v_int_i, v_int_b, v_abs, v_tuple, v_tupI, v_isint, v_isbool, v_isstr, v_isseq, v_kind_v, v_kind_r, v_kindC_l, v_kindC_f, v_isInt_non, v_isInt_bl, v_isInt_int, v_isInt_str, v_isInt_tup, v_isInt_lst, v_isBool_non, v_isBool_bl, v_isBool_int, v_isBool_str, v_isBool_tup, v_isBool_lst, v_isStr_non, v_isStr_bl, v_isStr_int, v_isStr_str, v_isStr_tup, v_isStr_lst, v_isSeq_non, v_isSeq_bl, v_isSeq_int, v_isSeq_str, v_isSeq_tup, v_isSeq_lst, v_popS, v_appS, v_appC, v_needL, v_lstOf, v_itemsS, v_listS, v_storeS, v_setIt,  v_envS, v_tg_n, v_tg_c, v_raisS, v_kept_n, v_kept_v, v_named_s, v_named_n, v_gone_ret, v_gone_nx, v_foS, v_lcS, v_frozen_v, v_frozenD_l, v_frozenD_t, v_wipe_n, v_wipe_c, v_back_ret, v_back_nx, v_back_exc, List.getElem?_cons_zero, List.getElem?_cons_succ, List.set_cons_zero, List.set_cons_succ, Option.map_some, Option.map_none, Option.bind_some, Option.bind_none, List.map_cons, List.map_nil, List.length_cons, List.length_nil, if_true, if_false, reduceIte, Bool.not_true, Bool.not_false, h3, itemsC_bx, (ix3 _ _ _).2.1, show small 2147483647 = true from by decide, Bool.or_true, d0, show decide ((0 : Int) < 8191) = true from rfl, show decide ((8191 : Int) < 1073741824) = true from rfl, Bool.and_self]
    rw [exSs, s1, v_then_nx, exSs, s2, v_then_nx, exSs, s3, v_then_nx, exSs, s4, v_then_ret]
end
/-- a cell of ints -/
theorem box_spec (c : Cx) (ns : List Int) (j : Nat) (st : Store) {a b p q r : Int} (ha : small a = true) (hp : small p = true) (hq : small q = true) (hr : small r = true) (hl : ns.length ≤ 63) (hj : j < 64) :
    ∃ x0 x1, exSs c (cBox a b p q r) [some (.v (.lst (ns.map .int))), some (.v (.int (j : Nat))), none] st = .ret (.r st.length) (st ++ [bx x0 x1 0]) := by
  have g : ∀ (i : Int) (k : Nat), i = (k : Int) → k < ns.length → ∃ z, L2.atI ((ns.map D.int).map W.v) i = some (.v (.int z)) := fun i k e hk => by
    refine ⟨ns[k], ?_⟩
    unfold L2.atI L2.ixN
    rw [List.length_map, List.length_map, if_pos (by omega), if_pos (by omega), Option.bind_some, e, Int.toNat_natCast, List.getElem?_map, List.getElem?_map, List.getElem?_eq_getElem hk]
    rfl
  have mid : ∃ z : Int, exS c (.ite (.cmp .lt (.var 1) (.blt .len (.cons (.var 0) .nil))) (.cons (.asg 2 (.blt .abs (.cons (.idx (.var 0) (.var 1)) .nil))) .nil) (.cons (.ite (.cmp .gt (.blt .len (.cons (.var 0) .nil)) (.lit (.int 0))) (.cons (.asg 2 (.bin .add (.var 2) (.bin .mul (.bin .mod (.blt .int (.cons (.blt .abs (.cons (.idx (.var 0) (.bin .mod (.blt .int (.cons (.var 1) .nil)) (.blt .len (.cons (.var 0) .nil)))) .nil)) .nil)) (.lit (.int 2147483629))) (.lit (.int p))))) .nil) .nil) .nil))
      [some (.v (.lst (ns.map .int))), some (.v (.int (j : Nat))), some (.v (.int (a * (j : Nat) + b)))] st = .nx [some (.v (.lst (ns.map .int))), some (.v (.int (j : Nat))), some (.v (.int z))] st := by
    have t1 : evT c (.cmp .lt (.var 1) (.blt .len (.cons (.var 0) .nil))) [some (.v (.lst (ns.map .int))), some (.v (.int (j : Nat))), some (.v (.int (a * (j : Nat) + b)))] st = .ok (decide ((j : Int) < (ns.length : Nat))) st := by
      simp only [evE, evT, evL, evI, evEs, evTs, evO, v_bind_ok, v_bind_exc, v_bindG_ok, v_bindG_exc, v_then_nx, v_fo_nx, v_catch_nx, v_then_ret, v_fo_ret, v_catch_ret, v_then_brk, v_fo_brk, v_catch_brk, v_then_cnt, v_fo_cnt, v_catch_cnt, v_then_exc, v_fo_exc, v_catch_exc, v_turnB, v_turnS, v_lc_t, v_lc_f, v_ofO, v_data, v_binS, v_bin2, v_add, v_sub, v_mul, v_fdiv, v_mod, v_addT, v_cmpS, v_cmpW_eq, v_cmpW_ne, v_cmpW_lt, v_cmpW_le, v_cmpW_gt, v_cmpW_ge, v_cmpW_inn, v_cmpW_nin, v_cmpW_isn, v_cmpW_nisn, v_cmp2, v_eq, v_ne, v_lt, v_le, v_gt, v_ge, v_inn_lst, v_nin_lst, v_inn_tup, v_nin_tup, v_chnS_t, v_chnS_f, v_chnT_t, v_chnT_f, v_orS_t, v_orS_f, v_orT_t, v_orT_f, v_andT_t, v_andT_f, v_if_t, v_if_f, v_notS, v_negS, v_idxS, v_idxW, v_idx2, v_items_v, v_items_r, v_itemsC_l, v_itemsC_f, v_itemsD_l, v_itemsD_t, v_view_v, v_view_r, v_viewC_l, v_viewC_f, v_dats_c, v_dats_n, v_boolOf, v_intOf, v_varO_v, v_varO_r, v_exatO_i, v_exatO_n, v_exatO_t, v_exatO_l, v_exatO_b, v_tupS, v_slcS, v_slcD_t, v_slcD_l, v_frzS, v_livS, v_callS, v_call2, v_args_n, v_args_a, v_args_d, v_args2, v_callW_f, v_allV_n, v_allV_c, v_pure_ok, v_pure_exc, v_bltS, v_len, v_int_i, v_int_b, v_abs, v_tuple, v_tupI, v_isint, v_isbool, v_isstr, v_isseq, v_kind_v, v_kind_r, v_kindC_l, v_kindC_f, v_isInt_non, v_isInt_bl, v_isInt_int, v_isInt_str, v_isInt_tup, v_isInt_lst, v_isBool_non, v_isBool_bl, v_isBool_int, v_isBool_str, v_isBool_tup, v_isBool_lst, v_isStr_non, v_isStr_bl, v_isStr_int, v_isStr_str, v_isStr_tup, v_isStr_lst, v_isSeq_non, v_isSeq_bl, v_isSeq_int, v_isSeq_str, v_isSeq_tup, v_isSeq_lst, v_popS, v_appS, v_appC, v_needL, v_lstOf, v_itemsS, v_listS, v_storeS, v_setIt,  v_envS, v_tg_n, v_tg_c, v_raisS, v_kept_n, v_kept_v, v_named_s, v_named_n, v_gone_ret, v_gone_nx, v_foS, v_lcS, v_frozen_v, v_frozenD_l, v_frozenD_t, v_wipe_n, v_wipe_c, v_back_ret, v_back_nx, v_back_exc, List.getElem?_cons_zero, List.getElem?_cons_succ, List.set_cons_zero, List.set_cons_succ, Option.map_some, Option.map_none, Option.bind_some, Option.bind_none, List.map_cons, List.map_nil, List.length_cons, List.length_nil, if_true, if_false, reduceIte, Bool.not_true, Bool.not_false, List.length_map]
    rw [exS, t1, v_bindG_ok]
    by_cases h1 : (j : Int) < (ns.length : Nat)
    · obtain ⟨z, hz⟩ := g (j : Int) j rfl (by omega)
      rw [decide_eq_true h1, v_if_t]
      refine ⟨absI z, ?_⟩
      simp only [exSs, exS, evE, evT, evL, evI, evEs, evTs, evO, v_bind_ok, v_bind_exc, v_bindG_ok, v_bindG_exc, v_then_nx, v_fo_nx, v_catch_nx, v_then_ret, v_fo_ret, v_catch_ret, v_then_brk, v_fo_brk, v_catch_brk, v_then_cnt, v_fo_cnt, v_catch_cnt, v_then_exc, v_fo_exc, v_catch_exc, v_turnB, v_turnS, v_lc_t, v_lc_f, v_ofO, v_data, v_binS, v_bin2, v_add, v_sub, v_mul, v_fdiv, v_mod, v_addT, v_cmpS, v_cmpW_eq, v_cmpW_ne, v_cmpW_lt, v_cmpW_le, v_cmpW_gt, v_cmpW_ge, v_cmpW_inn, v_cmpW_nin, v_cmpW_isn, v_cmpW_nisn, v_cmp2, v_eq, v_ne, v_lt, v_le, v_gt, v_ge, v_inn_lst, v_nin_lst, v_inn_tup, v_nin_tup, v_chnS_t, v_chnS_f, v_chnT_t, v_chnT_f, v_orS_t, v_orS_f, v_orT_t, v_orT_f, v_andT_t, v_andT_f, v_if_t, v_if_f, v_notS, v_negS, v_idxS, v_idxW, v_idx2, v_items_v, v_items_r, v_itemsC_l, v_itemsC_f, v_itemsD_l, v_itemsD_t, v_view_v, v_view_r, v_viewC_l, v_viewC_f, v_dats_c, v_dats_n, v_boolOf, v_intOf, v_varO_v, v_varO_r, v_exatO_i, v_exatO_n, v_exatO_t, v_exatO_l, v_exatO_b, v_tupS, v_slcS, v_slcD_t, v_slcD_l, v_frzS, v_livS, v_callS, v_call2, v_args_n, v_args_a, v_args_d, v_args2, v_callW_f, v_allV_n, v_allV_c, v_pure_ok, v_pure_exc, v_bltS, v_len, v_int_i, v_int_b, v_abs, v_tuple, v_tupI, v_isint, v_isbool, v_isstr, v_isseq, v_kind_v, v_kind_r, v_kindC_l, v_kindC_f, v_isInt_non, v_isInt_bl, v_isInt_int, v_isInt_str, v_isInt_tup, v_isInt_lst, v_isBool_non, v_isBool_bl, v_isBool_int, v_isBool_str, v_isBool_tup, v_isBool_lst, v_isStr_non, v_isStr_bl, v_isStr_int, v_isStr_str, v_isStr_tup, v_isStr_lst, v_isSeq_non, v_isSeq_bl, v_isSeq_int, v_isSeq_str, v_isSeq_tup, v_isSeq_lst, v_popS, v_appS, v_appC, v_needL, v_lstOf, v_itemsS, v_listS, v_storeS, v_setIt,  v_envS, v_tg_n, v_tg_c, v_raisS, v_kept_n, v_kept_v, v_named_s, v_named_n, v_gone_ret, v_gone_nx, v_foS, v_lcS, v_frozen_v, v_frozenD_l, v_frozenD_t, v_wipe_n, v_wipe_c, v_back_ret, v_back_nx, v_back_exc, List.getElem?_cons_zero, List.getElem?_cons_succ, List.set_cons_zero, List.set_cons_succ, Option.map_some, Option.map_none, Option.bind_some, Option.bind_none, List.map_cons, List.map_nil, List.length_cons, List.length_nil, if_true, if_false, reduceIte, Bool.not_true, Bool.not_false, hz]
      rfl
    · rw [decide_eq_false h1, v_if_f]
      have t2 : evT c (.cmp .gt (.blt .len (.cons (.var 0) .nil)) (.lit (.int 0))) [some (.v (.lst (ns.map .int))), some (.v (.int (j : Nat))), some (.v (.int (a * (j : Nat) + b)))] st = .ok (decide ((0 : Int) < (ns.length : Nat))) st := by
        simp only [evE, evT, evL, evI, evEs, evTs, evO, v_bind_ok, v_bind_exc, v_bindG_ok, v_bindG_exc, v_then_nx, v_fo_nx, v_catch_nx, v_then_ret, v_fo_ret, v_catch_ret, v_then_brk, v_fo_brk, v_catch_brk, v_then_cnt, v_fo_cnt, v_catch_cnt, v_then_exc, v_fo_exc, v_catch_exc, v_turnB, v_turnS, v_lc_t, v_lc_f, v_ofO, v_data, v_binS, v_bin2, v_add, v_sub, v_mul, v_fdiv, v_mod, v_addT, v_cmpS, v_cmpW_eq, v_cmpW_ne, v_cmpW_lt, v_cmpW_le, v_cmpW_gt, v_cmpW_ge, v_cmpW_inn, v_cmpW_nin, v_cmpW_isn, v_cmpW_nisn, v_cmp2, v_eq, v_ne, v_lt, v_le, v_gt, v_ge, v_inn_lst, v_nin_lst, v_inn_tup, v_nin_tup, v_chnS_t, v_chnS_f, v_chnT_t, v_chnT_f, v_orS_t, v_orS_f, v_orT_t, v_orT_f, v_andT_t, v_andT_f, v_if_t, v_if_f, v_notS, v_negS, v_idxS, v_idxW, v_idx2, v_items_v, v_items_r, v_itemsC_l, v_itemsC_f, v_itemsD_l, v_itemsD_t, v_view_v, v_view_r, v_viewC_l, v_viewC_f, v_dats_c, v_dats_n, v_boolOf, v_intOf, v_varO_v, v_varO_r, v_exatO_i, v_exatO_n, v_exatO_t, v_exatO_l, v_exatO_b, v_tupS, v_slcS, v_slcD_t, v_slcD_l, v_frzS, v_livS, v_callS, v_call2, v_args_n, v_args_a, v_args_d, v_args2, v_callW_f, v_allV_n, v_allV_c, v_pure_ok, v_pure_exc, v_bltS, v_len, v_int_i, v_int_b, v_abs, v_tuple, v_tupI, v_isint, v_isbool, v_isstr, v_isseq, v_kind_v, v_kind_r, v_kindC_l, v_kindC_f, v_isInt_non, v_isInt_bl, v_isInt_int, v_isInt_str, v_isInt_tup, v_isInt_lst, v_isBool_non, v_isBool_bl, v_isBool_int, v_isBool_str, v_isBool_tup, v_isBool_lst, v_isStr_non, v_isStr_bl, v_isStr_int, v_isStr_str, v_isStr_tup, v_isStr_lst, v_isSeq_non, v_isSeq_bl, v_isSeq_int, v_isSeq_str, v_isSeq_tup, v_isSeq_lst, v_popS, v_appS, v_appC, v_needL, v_lstOf, v_itemsS, v_listS, v_storeS, v_setIt,  v_envS, v_tg_n, v_tg_c, v_raisS, v_kept_n, v_kept_v, v_named_s, v_named_n, v_gone_ret, v_gone_nx, v_foS, v_lcS, v_frozen_v, v_frozenD_l, v_frozenD_t, v_wipe_n, v_wipe_c, v_back_ret, v_back_nx, v_back_exc, List.getElem?_cons_zero, List.getElem?_cons_succ, List.set_cons_zero, List.set_cons_succ, Option.map_some, Option.map_none, Option.bind_some, Option.bind_none, List.map_cons, List.map_nil, List.length_cons, List.length_nil, if_true, if_false, reduceIte, Bool.not_true, Bool.not_false, List.length_map]
      rw [exSs, exS, t2, v_bindG_ok]
      by_cases h2 : (0 : Int) < (ns.length : Nat)
      · rw [decide_eq_true h2, v_if_t]
        obtain ⟨z, hz⟩ := g ((j : Int) % (ns.length : Nat)) (j % ns.length) (by omega) (Nat.mod_lt _ (by omega))
        refine ⟨a * (j : Nat) + b + absI z % 2147483629 * p, ?_⟩
        have d2 : decide ((0 : Int) < (ns.length : Nat)) = true := decide_eq_true h2
        have e1 : exSs c (.cons (.asg 2 (.bin .add (.var 2) (.bin .mul (.bin .mod (.blt .int (.cons (.blt .abs (.cons (.idx (.var 0) (.bin .mod (.blt .int (.cons (.var 1) .nil)) (.blt .len (.cons (.var 0) .nil)))) .nil)) .nil)) (.lit (.int 2147483629))) (.lit (.int p))))) .nil) [some (.v (.lst (ns.map .int))), some (.v (.int (j : Nat))), some (.v (.int (a * (j : Nat) + b)))] st = .nx [some (.v (.lst (ns.map .int))), some (.v (.int (j : Nat))), some (.v (.int (a * (j : Nat) + b + absI z % 2147483629 * p)))] st := by
          simp only [exSs, exS, evE, evT, evL, evI, evEs, evTs, evO, v_bind_ok, v_bind_exc, v_bindG_ok, v_bindG_exc, v_then_nx, v_fo_nx, v_catch_nx, v_then_ret, v_fo_ret, v_catch_ret, v_then_brk, v_fo_brk, v_catch_brk, v_then_cnt, v_fo_cnt, v_catch_cnt, v_then_exc, v_fo_exc, v_catch_exc, v_turnB, v_turnS, v_lc_t, v_lc_f, v_ofO, v_data, v_binS, v_bin2, v_add, v_sub, v_mul, v_fdiv, v_mod, v_addT, v_cmpS, v_cmpW_eq, v_cmpW_ne, v_cmpW_lt, v_cmpW_le, v_cmpW_gt, v_cmpW_ge, v_cmpW_inn, v_cmpW_nin, v_cmpW_isn, v_cmpW_nisn, v_cmp2, v_eq, v_ne, v_lt, v_le, v_gt, v_ge, v_inn_lst, v_nin_lst, v_inn_tup, v_nin_tup, v_chnS_t, v_chnS_f, v_chnT_t, v_chnT_f, v_orS_t, v_orS_f, v_orT_t, v_orT_f, v_andT_t, v_andT_f, v_if_t, v_if_f, v_notS, v_negS, v_idxS, v_idxW, v_idx2, v_items_v, v_items_r, v_itemsC_l, v_itemsC_f, v_itemsD_l, v_itemsD_t, v_view_v, v_view_r, v_viewC_l, v_viewC_f, v_dats_c, v_dats_n, v_boolOf, v_intOf, v_varO_v, v_varO_r, v_exatO_i, v_exatO_n, v_exatO_t, v_exatO_l, v_exatO_b, v_tupS, v_slcS, v_slcD_t, v_slcD_l, v_frzS, v_livS, v_callS, v_call2, v_args_n, v_args_a, v_args_d, v_args2, v_callW_f, v_allV_n, v_allV_c, v_pure_ok, v_pure_exc, v_bltS, v_len, v_int_i, v_int_b, v_abs, v_tuple, v_tupI, v_isint, v_isbool, v_isstr, v_isseq, v_kind_v, v_kind_r, v_kindC_l, v_kindC_f, v_isInt_non, v_isInt_bl, v_isInt_int, v_isInt_str, v_isInt_tup, v_isInt_lst, v_isBool_non, v_isBool_bl, v_isBool_int, v_isBool_str, v_isBool_tup, v_isBool_lst, v_isStr_non, v_isStr_bl, v_isStr_int, v_isStr_str, v_isStr_tup, v_isStr_lst, v_isSeq_non, v_isSeq_bl, v_isSeq_int, v_isSeq_str, v_isSeq_tup, v_isSeq_lst, v_popS, v_appS, v_appC, v_needL, v_lstOf, v_itemsS, v_listS, v_storeS, v_setIt,  v_envS, v_tg_n, v_tg_c, v_raisS, v_kept_n, v_kept_v, v_named_s, v_named_n, v_gone_ret, v_gone_nx, v_foS, v_lcS, v_frozen_v, v_frozenD_l, v_frozenD_t, v_wipe_n, v_wipe_c, v_back_ret, v_back_nx, v_back_exc, List.getElem?_cons_zero, List.getElem?_cons_succ, List.set_cons_zero, List.set_cons_succ, Option.map_some, Option.map_none, Option.bind_some, Option.bind_none, List.map_cons, List.map_nil, List.length_cons, List.length_nil, if_true, if_false, reduceIte, Bool.not_true, Bool.not_false, List.length_map, d2, hz, hp, Bool.or_true, show decide ((0 : Int) < 2147483629) = true from rfl]
          rfl
        rw [e1, v_then_nx, exSs]
      · rw [decide_eq_false h2, v_if_f]
        refine ⟨a * (j : Nat) + b, ?_⟩
        simp only [exSs, evE, evT, evL, evI, evEs, evTs, evO, v_bind_ok, v_bind_exc, v_bindG_ok, v_bindG_exc, v_then_nx, v_fo_nx, v_catch_nx, v_then_ret, v_fo_ret, v_catch_ret, v_then_brk, v_fo_brk, v_catch_brk, v_then_cnt, v_fo_cnt, v_catch_cnt, v_then_exc, v_fo_exc, v_catch_exc, v_turnB, v_turnS, v_lc_t, v_lc_f, v_ofO, v_data, v_binS, v_bin2, v_add, v_sub, v_mul, v_fdiv, v_mod, v_addT, v_cmpS, v_cmpW_eq, v_cmpW_ne, v_cmpW_lt, v_cmpW_le, v_cmpW_gt, v_cmpW_ge, v_cmpW_inn, v_cmpW_nin, v_cmpW_isn, v_cmpW_nisn, v_cmp2, v_eq, v_ne, v_lt, v_le, v_gt, v_ge, v_inn_lst, v_nin_lst, v_inn_tup, v_nin_tup, v_chnS_t, v_chnS_f, v_chnT_t, v_chnT_f, v_orS_t, v_orS_f, v_orT_t, v_orT_f, v_andT_t, v_andT_f, v_if_t, v_if_f, v_notS, v_negS, v_idxS, v_idxW, v_idx2, v_items_v, v_items_r, v_itemsC_l, v_itemsC_f, v_itemsD_l, v_itemsD_t, v_view_v, v_view_r, v_viewC_l, v_viewC_f, v_dats_c, v_dats_n, v_boolOf, v_intOf, v_varO_v, v_varO_r, v_exatO_i, v_exatO_n, v_exatO_t, v_exatO_l, v_exatO_b, v_tupS, v_slcS, v_slcD_t, v_slcD_l, v_frzS, v_livS, v_callS, v_call2, v_args_n, v_args_a, v_args_d, v_args2, v_callW_f, v_allV_n, v_allV_c, v_pure_ok, v_pure_exc, v_bltS, v_len, v_int_i, v_int_b, v_abs, v_tuple, v_tupI, v_isint, v_isbool, v_isstr, v_isseq, v_kind_v, v_kind_r, v_kindC_l, v_kindC_f, v_isInt_non, v_isInt_bl, v_isInt_int, v_isInt_str, v_isInt_tup, v_isInt_lst, v_isBool_non, v_isBool_bl, v_isBool_int, v_isBool_str, v_isBool_tup, v_isBool_lst, v_isStr_non, v_isStr_bl, v_isStr_int, v_isStr_str, v_isStr_tup, v_isStr_lst, v_isSeq_non, v_isSeq_bl, v_isSeq_int, v_isSeq_str, v_isSeq_tup, v_isSeq_lst, v_popS, v_appS, v_appC, v_needL, v_lstOf, v_itemsS, v_listS, v_storeS, v_setIt,  v_envS, v_tg_n, v_tg_c, v_raisS, v_kept_n, v_kept_v, v_named_s, v_named_n, v_gone_ret, v_gone_nx, v_foS, v_lcS, v_frozen_v, v_frozenD_l, v_frozenD_t, v_wipe_n, v_wipe_c, v_back_ret, v_back_nx, v_back_exc, List.getElem?_cons_zero, List.getElem?_cons_succ, List.set_cons_zero, List.set_cons_succ, Option.map_some, Option.map_none, Option.bind_some, Option.bind_none, List.map_cons, List.map_nil, List.length_cons, List.length_nil, if_true, if_false, reduceIte, Bool.not_true, Bool.not_false]
  obtain ⟨z, hz⟩ := mid
  have t3 : ∃ z0 : Int, evE c (.idx (.frz (.disp (.cons (.lit (.int 0)) (.cons (.var 2) .nil)))) (.blt .int (.cons (.cmp .ge (.var 2) (.bin .pow (.lit (.int 10)) (.lit (.int 18)))) .nil))) [some (.v (.lst (ns.map .int))), some (.v (.int (j : Nat))), some (.v (.int z))] st = .ok (.v (.int z0)) st := by
    have e : binD .pow (.int 10) (.int 18) = some (.int (10 ^ 18)) := rfl
    by_cases h : (10 ^ 18 : Int) ≤ z
    · refine ⟨z, ?_⟩
      have d : decide ((10 ^ 18 : Int) ≤ z) = true := decide_eq_true h
      simp only [evE, evT, evL, evI, evEs, evTs, evO, v_bind_ok, v_bind_exc, v_bindG_ok, v_bindG_exc, v_then_nx, v_fo_nx, v_catch_nx, v_then_ret, v_fo_ret, v_catch_ret, v_then_brk, v_fo_brk, v_catch_brk, v_then_cnt, v_fo_cnt, v_catch_cnt, v_then_exc, v_fo_exc, v_catch_exc, v_turnB, v_turnS, v_lc_t, v_lc_f, v_ofO, v_data, v_binS, v_bin2, v_add, v_sub, v_mul, v_fdiv, v_mod, v_addT, v_cmpS, v_cmpW_eq, v_cmpW_ne, v_cmpW_lt, v_cmpW_le, v_cmpW_gt, v_cmpW_ge, v_cmpW_inn, v_cmpW_nin, v_cmpW_isn, v_cmpW_nisn, v_cmp2, v_eq, v_ne, v_lt, v_le, v_gt, v_ge, v_inn_lst, v_nin_lst, v_inn_tup, v_nin_tup, v_chnS_t, v_chnS_f, v_chnT_t, v_chnT_f, v_orS_t, v_orS_f, v_orT_t, v_orT_f, v_andT_t, v_andT_f, v_if_t, v_if_f, v_notS, v_negS, v_idxS, v_idxW, v_idx2, v_items_v, v_items_r, v_itemsC_l, v_itemsC_f, v_itemsD_l, v_itemsD_t, v_view_v, v_view_r, v_viewC_l, v_viewC_f, v_dats_c, v_dats_n, v_boolOf, v_intOf, v_varO_v, v_varO_r, v_exatO_i, v_exatO_n, v_exatO_t, v_exatO_l, v_exatO_b, v_tupS, v_slcS, v_slcD_t, v_slcD_l, v_frzS, v_livS, v_callS, v_call2, v_args_n, v_args_a, v_args_d, v_args2, v_callW_f, v_allV_n, v_allV_c, v_pure_ok, v_pure_exc, v_bltS, v_len, v_int_i, v_int_b, v_abs, v_tuple, v_tupI, v_isint, v_isbool, v_isstr, v_isseq, v_kind_v, v_kind_r, v_kindC_l, v_kindC_f, v_isInt_non, v_isInt_bl, v_isInt_int, v_isInt_str, v_isInt_tup, v_isInt_lst, v_isBool_non, v_isBool_bl, v_isBool_int, v_isBool_str, v_isBool_tup, v_isBool_lst, v_isStr_non, v_isStr_bl, v_isStr_int, v_isStr_str, v_isStr_tup, v_isStr_lst, v_isSeq_non, v_isSeq_bl, v_isSeq_int, v_isSeq_str, v_isSeq_tup, v_isSeq_lst, v_popS, v_appS, v_appC, v_needL, v_lstOf, v_itemsS, v_listS, v_storeS, v_setIt,  v_envS, v_tg_n, v_tg_c, v_raisS, v_kept_n, v_kept_v, v_named_s, v_named_n, v_gone_ret, v_gone_nx, v_foS, v_lcS, v_frozen_v, v_frozenD_l, v_frozenD_t, v_wipe_n, v_wipe_c, v_back_ret, v_back_nx, v_back_exc, List.getElem?_cons_zero, List.getElem?_cons_succ, List.set_cons_zero, List.set_cons_succ, Option.map_some, Option.map_none, Option.bind_some, Option.bind_none, List.map_cons, List.map_nil, List.length_cons, List.length_nil, if_true, if_false, reduceIte, Bool.not_true, Bool.not_false, e, d, show L2.atI [W.v (.int 0), W.v (.int z)] 1 = some (W.v (.int z)) from rfl]
    · refine ⟨0, ?_⟩
      have d : decide ((10 ^ 18 : Int) ≤ z) = false := decide_eq_false h
      simp only [evE, evT, evL, evI, evEs, evTs, evO, v_bind_ok, v_bind_exc, v_bindG_ok, v_bindG_exc, v_then_nx, v_fo_nx, v_catch_nx, v_then_ret, v_fo_ret, v_catch_ret, v_then_brk, v_fo_brk, v_catch_brk, v_then_cnt, v_fo_cnt, v_catch_cnt, v_then_exc, v_fo_exc, v_catch_exc, v_turnB, v_turnS, v_lc_t, v_lc_f, v_ofO, v_data, v_binS, v_bin2, v_add, v_sub, v_mul, v_fdiv, v_mod, v_addT, v_cmpS, v_cmpW_eq, v_cmpW_ne, v_cmpW_lt, v_cmpW_le, v_cmpW_gt, v_cmpW_ge, v_cmpW_inn, v_cmpW_nin, v_cmpW_isn, v_cmpW_nisn, v_cmp2, v_eq, v_ne, v_lt, v_le, v_gt, v_ge, v_inn_lst, v_nin_lst, v_inn_tup, v_nin_tup, v_chnS_t, v_chnS_f, v_chnT_t, v_chnT_f, v_orS_t, v_orS_f, v_orT_t, v_orT_f, v_andT_t, v_andT_f, v_if_t, v_if_f, v_notS, v_negS, v_idxS, v_idxW, v_idx2, v_items_v, v_items_r, v_itemsC_l, v_itemsC_f, v_itemsD_l, v_itemsD_t, v_view_v, v_view_r, v_viewC_l, v_viewC_f, v_dats_c, v_dats_n, v_boolOf, v_intOf, v_varO_v, v_varO_r, v_exatO_i, v_exatO_n, v_exatO_t, v_exatO_l, v_exatO_b, v_tupS, v_slcS, v_slcD_t, v_slcD_l, v_frzS, v_livS, v_callS, v_call2, v_args_n, v_args_a, v_args_d, v_args2, v_callW_f, v_allV_n, v_allV_c, v_pure_ok, v_pure_exc, v_bltS, v_len, v_int_i, v_int_b, v_abs, v_tuple, v_tupI, v_isint, v_isbool, v_isstr, v_isseq, v_kind_v, v_kind_r, v_kindC_l, v_kindC_f, v_isInt_non, v_isInt_bl, v_isInt_int, v_isInt_str, v_isInt_tup, v_isInt_lst, v_isBool_non, v_isBool_bl, v_isBool_int, v_isBool_str, v_isBool_tup, v_isBool_lst, v_isStr_non, v_isStr_bl, v_isStr_int, v_isStr_str, v_isStr_tup, v_isStr_lst, v_isSeq_non, v_isSeq_bl, v_isSeq_int, v_isSeq_str, v_isSeq_tup, v_isSeq_lst, v_popS, v_appS, v_appC, v_needL, v_lstOf, v_itemsS, v_listS, v_storeS, v_setIt,  v_envS, v_tg_n, v_tg_c, v_raisS, v_kept_n, v_kept_v, v_named_s, v_named_n, v_gone_ret, v_gone_nx, v_foS, v_lcS, v_frozen_v, v_frozenD_l, v_frozenD_t, v_wipe_n, v_wipe_c, v_back_ret, v_back_nx, v_back_exc, List.getElem?_cons_zero, List.getElem?_cons_succ, List.set_cons_zero, List.set_cons_succ, Option.map_some, Option.map_none, Option.bind_some, Option.bind_none, List.map_cons, List.map_nil, List.length_cons, List.length_nil, if_true, if_false, reduceIte, Bool.not_true, Bool.not_false, e, d, Bool.false_eq_true, show L2.atI [W.v (.int 0), W.v (.int z)] 0 = some (W.v (.int 0)) from rfl]
  obtain ⟨z0, hz0⟩ := t3
  refine ⟨z0, (z % 2147483629 * q + r * (j : Nat)) % 2147483629 + 1, ?_⟩
  unfold cBox
  have s1 : exS c (.asg 2 (.bin .add (.bin .mul (.lit (.int a)) (.var 1)) (.lit (.int b)))) [some (.v (.lst (ns.map .int))), some (.v (.int (j : Nat))), none] st = .nx [some (.v (.lst (ns.map .int))), some (.v (.int (j : Nat))), some (.v (.int (a * (j : Nat) + b)))] st := by
    simp only [exSs, exS, evE, evT, evL, evI, evEs, evTs, evO, v_bind_ok, v_bind_exc, v_bindG_ok, v_bindG_exc, v_then_nx, v_fo_nx, v_catch_nx, v_then_ret, v_fo_ret, v_catch_ret, v_then_brk, v_fo_brk, v_catch_brk, v_then_cnt, v_fo_cnt, v_catch_cnt, v_then_exc, v_fo_exc, v_catch_exc, v_turnB, v_turnS, v_lc_t, v_lc_f, v_ofO, v_data, v_binS, v_bin2, v_add, v_sub, v_mul, v_fdiv, v_mod, v_addT, v_cmpS, v_cmpW_eq, v_cmpW_ne, v_cmpW_lt, v_cmpW_le, v_cmpW_gt, v_cmpW_ge, v_cmpW_inn, v_cmpW_nin, v_cmpW_isn, v_cmpW_nisn, v_cmp2, v_eq, v_ne, v_lt, v_le, v_gt, v_ge, v_inn_lst, v_nin_lst, v_inn_tup, v_nin_tup, v_chnS_t, v_chnS_f, v_chnT_t, v_chnT_f, v_orS_t, v_orS_f, v_orT_t, v_orT_f, v_andT_t, v_andT_f, v_if_t, v_if_f, v_notS, v_negS, v_idxS, v_idxW, v_idx2, v_items_v, v_items_r, v_itemsC_l, v_itemsC_f, v_itemsD_l, v_itemsD_t, v_view_v, v_view_r, v_viewC_l, v_viewC_f, v_dats_c, v_dats_n, v_boolOf, v_intOf, v_varO_v, v_varO_r, v_exatO_i, v_exatO_n, v_exatO_t, v_exatO_l, v_exatO_b, v_tupS, v_slcS, v_slcD_t, v_slcD_l, v_frzS, v_livS, v_callS, v_call2, v_args_n, v_args_a, v_args_d, v_args2, v_callW_f, v_allV_n, v_allV_c, v_pure_ok, v_pure_exc, v_bltS, v_len, v_int_i, v_int_b, v_abs, v_tuple, v_tupI, v_isint, v_isbool, v_isstr, v_isseq, v_kind_v, v_kind_r, v_kindC_l, v_kindC_f, v_isInt_non, v_isInt_bl, v_isInt_int, v_isInt_str, v_isInt_tup, v_isInt_lst, v_isBool_non, v_isBool_bl, v_isBool_int, v_isBool_str, v_isBool_tup, v_isBool_lst, v_isStr_non, v_isStr_bl, v_isStr_int, v_isStr_str, v_isStr_tup, v_isStr_lst, v_isSeq_non, v_isSeq_bl, v_isSeq_int, v_isSeq_str, v_isSeq_tup, v_isSeq_lst, v_popS, v_appS, v_appC, v_needL, v_lstOf, v_itemsS, v_listS, v_storeS, v_setIt,  v_envS, v_tg_n, v_tg_c, v_raisS, v_kept_n, v_kept_v, v_named_s, v_named_n, v_gone_ret, v_gone_nx, v_foS, v_lcS, v_frozen_v, v_frozenD_l, v_frozenD_t, v_wipe_n, v_wipe_c, v_back_ret, v_back_nx, v_back_exc, List.getElem?_cons_zero, List.getElem?_cons_succ, List.set_cons_zero, List.set_cons_succ, Option.map_some, Option.map_none, Option.bind_some, Option.bind_none, List.map_cons, List.map_nil, List.length_cons, List.length_nil, if_true, if_false, reduceIte, Bool.not_true, Bool.not_false, ha, Bool.true_or]
  rw [exSs, s1, v_then_nx, exSs, hz, v_then_nx, exSs, exS]
  have s3 : evE c (.bin .add (.bin .mod (.blt .int (.cons (.bin .add (.bin .mul (.bin .mod (.blt .int (.cons (.var 2) .nil)) (.lit (.int 2147483629))) (.lit (.int q))) (.bin .mul (.lit (.int r)) (.var 1))) .nil)) (.lit (.int 2147483629))) (.lit (.int 1))) [some (.v (.lst (ns.map .int))), some (.v (.int (j : Nat))), some (.v (.int z))] st = .ok (.v (.int ((z % 2147483629 * q + r * (j : Nat)) % 2147483629 + 1))) st := by
    simp only [evE, evT, evL, evI, evEs, evTs, evO, v_bind_ok, v_bind_exc, v_bindG_ok, v_bindG_exc, v_then_nx, v_fo_nx, v_catch_nx, v_then_ret, v_fo_ret, v_catch_ret, v_then_brk, v_fo_brk, v_catch_brk, v_then_cnt, v_fo_cnt, v_catch_cnt, v_then_exc, v_fo_exc, v_catch_exc, v_turnB, v_turnS, v_lc_t, v_lc_f, v_ofO, v_data, v_binS, v_bin2, v_add, v_sub, v_mul, v_fdiv, v_mod, v_addT, v_cmpS, v_cmpW_eq, v_cmpW_ne, v_cmpW_lt, v_cmpW_le, v_cmpW_gt, v_cmpW_ge, v_cmpW_inn, v_cmpW_nin, v_cmpW_isn, v_cmpW_nisn, v_cmp2, v_eq, v_ne, v_lt, v_le, v_gt, v_ge, v_inn_lst, v_nin_lst, v_inn_tup, v_nin_tup, v_chnS_t, v_chnS_f, v_chnT_t, v_chnT_f, v_orS_t, v_orS_f, v_orT_t, v_orT_f, v_andT_t, v_andT_f, v_if_t, v_if_f, v_notS, v_negS, v_idxS, v_idxW, v_idx2, v_items_v, v_items_r, v_itemsC_l, v_itemsC_f, v_itemsD_l, v_itemsD_t, v_view_v, v_view_r, v_viewC_l, v_viewC_f, v_dats_c, v_dats_n, v_boolOf, v_intOf, v_varO_v, v_varO_r, v_exatO_i, v_exatO_n, v_exatO_t, v_exatO_l, v_exatO_b, v_tupS, v_slcS, v_slcD_t, v_slcD_l, v_frzS, v_livS, v_callS, v_call2, v_args_n, v_args_a, v_args_d, v_args2, v_callW_f, v_allV_n, v_allV_c, v_pure_ok, v_pure_exc, v_bltS, v_len, v_int_i, v_int_b, v_abs, v_tuple, v_tupI, v_isint, v_isbool, v_isstr, v_isseq, v_kind_v, v_kind_r, v_kindC_l, v_kindC_f, v_isInt_non, v_isInt_bl, v_isInt_int, v_isInt_str, v_isInt_tup, v_isInt_lst, v_isBool_non, v_isBool_bl, v_isBool_int, v_isBool_str, v_isBool_tup, v_isBool_lst, v_isStr_non, v_isStr_bl, v_isStr_int, v_isStr_str, v_isStr_tup, v_isStr_lst, v_isSeq_non, v_isSeq_bl, v_isSeq_int, v_isSeq_str, v_isSeq_tup, v_isSeq_lst, v_popS, v_appS, v_appC, v_needL, v_lstOf, v_itemsS, v_listS, v_storeS, v_setIt,  v_envS, v_tg_n, v_tg_c, v_raisS, v_kept_n, v_kept_v, v_named_s, v_named_n, v_gone_ret, v_gone_nx, v_foS, v_lcS, v_frozen_v, v_frozenD_l, v_frozenD_t, v_wipe_n, v_wipe_c, v_back_ret, v_back_nx, v_back_exc, List.getElem?_cons_zero, List.getElem?_cons_succ, List.set_cons_zero, List.set_cons_succ, Option.map_some, Option.map_none, Option.bind_some, Option.bind_none, List.map_cons, List.map_nil, List.length_cons, List.length_nil, if_true, if_false, reduceIte, Bool.not_true, Bool.not_false, hq, hr, Bool.or_true, Bool.true_or, show decide ((0 : Int) < 2147483629) = true from rfl]
  rw [evE, evL, evEs, hz0, v_bind_ok, evEs, s3, v_bind_ok]
  simp only [evE, evT, evL, evI, evEs, evTs, evO, v_bind_ok, v_bind_exc, v_bindG_ok, v_bindG_exc, v_then_nx, v_fo_nx, v_catch_nx, v_then_ret, v_fo_ret, v_catch_ret, v_then_brk, v_fo_brk, v_catch_brk, v_then_cnt, v_fo_cnt, v_catch_cnt, v_then_exc, v_fo_exc, v_catch_exc, v_turnB, v_turnS, v_lc_t, v_lc_f, v_ofO, v_data, v_binS, v_bin2, v_add, v_sub, v_mul, v_fdiv, v_mod, v_addT, v_cmpS, v_cmpW_eq, v_cmpW_ne, v_cmpW_lt, v_cmpW_le, v_cmpW_gt, v_cmpW_ge, v_cmpW_inn, v_cmpW_nin, v_cmpW_isn, v_cmpW_nisn, v_cmp2, v_eq, v_ne, v_lt, v_le, v_gt, v_ge, v_inn_lst, v_nin_lst, v_inn_tup, v_nin_tup, v_chnS_t, v_chnS_f, v_chnT_t, v_chnT_f, v_orS_t, v_orS_f, v_orT_t, v_orT_f, v_andT_t, v_andT_f, v_if_t, v_if_f, v_notS, v_negS, v_idxS, v_idxW, v_idx2, v_items_v, v_items_r, v_itemsC_l, v_itemsC_f, v_itemsD_l, v_itemsD_t, v_view_v, v_view_r, v_viewC_l, v_viewC_f, v_dats_c, v_dats_n, v_boolOf, v_intOf, v_varO_v, v_varO_r, v_exatO_i, v_exatO_n, v_exatO_t, v_exatO_l, v_exatO_b, v_tupS, v_slcS, v_slcD_t, v_slcD_l, v_frzS, v_livS, v_callS, v_call2, v_args_n, v_args_a, v_args_d, v_args2, v_callW_f, v_allV_n, v_allV_c, v_pure_ok, v_pure_exc, v_bltS, v_len, v_int_i, v_int_b, v_abs, v_tuple, v_tupI, v_isint, v_isbool, v_isstr, v_isseq, v_kind_v, v_kind_r, v_kindC_l, v_kindC_f, v_isInt_non, v_isInt_bl, v_isInt_int, v_isInt_str, v_isInt_tup, v_isInt_lst, v_isBool_non, v_isBool_bl, v_isBool_int, v_isBool_str, v_isBool_tup, v_isBool_lst, v_isStr_non, v_isStr_bl, v_isStr_int, v_isStr_str, v_isStr_tup, v_isStr_lst, v_isSeq_non, v_isSeq_bl, v_isSeq_int, v_isSeq_str, v_isSeq_tup, v_isSeq_lst, v_popS, v_appS, v_appC, v_needL, v_lstOf, v_itemsS, v_listS, v_storeS, v_setIt,  v_envS, v_tg_n, v_tg_c, v_raisS, v_kept_n, v_kept_v, v_named_s, v_named_n, v_gone_ret, v_gone_nx, v_foS, v_lcS, v_frozen_v, v_frozenD_l, v_frozenD_t, v_wipe_n, v_wipe_c, v_back_ret, v_back_nx, v_back_exc, List.getElem?_cons_zero, List.getElem?_cons_succ, List.set_cons_zero, List.set_cons_succ, Option.map_some, Option.map_none, Option.bind_some, Option.bind_none, List.map_cons, List.map_nil, List.length_cons, List.length_nil, if_true, if_false, reduceIte, Bool.not_true, Bool.not_false]
  rfl
end Pf
namespace Pf
open PySem
theorem pick_spec {c : Cx} {ft n : Nat} {ds : List D} {st st' : Store} {r : Int} (h : c.call ft [.r n, .v (.int (ds.length : Nat))] st = .ok (.v (.int r)) st') (r0 : 0 ≤ r) (r1 : r < (ds.length : Nat)) : ∃ d ∈ ds, exSs c (cPick ft) [some (.r n), some (.v (.lst ds))] st = .ret (.v d) st' := by
  obtain ⟨k, rfl⟩ := Int.eq_ofNat_of_zero_le r0
  have hk : k < ds.length := by omega
  refine ⟨ds[k], List.getElem_mem hk, ?_⟩
  have g : L2.atI (ds.map W.v) (k : Int) = some (.v ds[k]) := by
    unfold L2.atI L2.ixN
    rw [List.length_map, if_pos (by omega), if_pos (by omega), Option.bind_some, Int.toNat_natCast, List.getElem?_map, List.getElem?_eq_getElem hk]
    rfl
  unfold cPick
  simp only [exSs, exS, evE, evT, evL, evI, evEs, evTs, evO, v_bind_ok, v_bind_exc, v_bindG_ok, v_bindG_exc, v_then_nx, v_fo_nx, v_catch_nx, v_then_ret, v_fo_ret, v_catch_ret, v_then_brk, v_fo_brk, v_catch_brk, v_then_cnt, v_fo_cnt, v_catch_cnt, v_then_exc, v_fo_exc, v_catch_exc, v_turnB, v_turnS, v_lc_t, v_lc_f, v_ofO, v_data, v_binS, v_bin2, v_add, v_sub, v_mul, v_fdiv, v_mod, v_addT, v_cmpS, v_cmpW_eq, v_cmpW_ne, v_cmpW_lt, v_cmpW_le, v_cmpW_gt, v_cmpW_ge, v_cmpW_inn, v_cmpW_nin, v_cmpW_isn, v_cmpW_nisn, v_cmp2, v_eq, v_ne, v_lt, v_le, v_gt, v_ge, v_inn_lst, v_nin_lst, v_inn_tup, v_nin_tup, v_chnS_t, v_chnS_f, v_chnT_t, v_chnT_f, v_orS_t, v_orS_f, v_orT_t, v_orT_f, v_andT_t, v_andT_f, v_if_t, v_if_f, v_notS, v_negS, v_idxS, v_idxW, v_idx2, v_items_v, v_items_r, v_itemsC_l, v_itemsC_f, v_itemsD_l, v_itemsD_t, v_view_v, v_view_r, v_viewC_l, v_viewC_f, v_dats_c, v_dats_n, v_boolOf, v_intOf, v_varO_v, v_varO_r, v_exatO_i, v_exatO_n, v_exatO_t, v_exatO_l, v_exatO_b, v_tupS, v_slcS, v_slcD_t, v_slcD_l, v_frzS, v_livS, v_callS, v_call2, v_args_n, v_args_a, v_args_d, v_args2, v_callW_f, v_allV_n, v_allV_c, v_pure_ok, v_pure_exc, v_bltS, v_len, v_int_i, v_int_b, v_abs, v_tuple, v_tupI, v_isint, v_isbool, v_isstr, v_isseq, v_kind_v, v_kind_r, v_kindC_l, v_kindC_f, v_isInt_non, v_isInt_bl, v_isInt_int, v_isInt_str, v_isInt_tup, v_isInt_lst, v_isBool_non, v_isBool_bl, v_isBool_int, v_isBool_str, v_isBool_tup, v_isBool_lst, v_isStr_non, v_isStr_bl, v_isStr_int, v_isStr_str, v_isStr_tup, v_isStr_lst, v_isSeq_non, v_isSeq_bl, v_isSeq_int, v_isSeq_str, v_isSeq_tup, v_isSeq_lst, v_popS, v_appS, v_appC, v_needL, v_lstOf, v_itemsS, v_listS, v_storeS, v_setIt,  v_envS, v_tg_n, v_tg_c, v_raisS, v_kept_n, v_kept_v, v_named_s, v_named_n, v_gone_ret, v_gone_nx, v_foS, v_lcS, v_frozen_v, v_frozenD_l, v_frozenD_t, v_wipe_n, v_wipe_c, v_back_ret, v_back_nx, v_back_exc, List.getElem?_cons_zero, List.getElem?_cons_succ, List.set_cons_zero, List.set_cons_succ, Option.map_some, Option.map_none, Option.bind_some, Option.bind_none, List.map_cons, List.map_nil, List.length_cons, List.length_nil, if_true, if_false, reduceIte, Bool.not_true, Bool.not_false, List.length_map, h, g]
/-- what a call hands back, looked at by the kernel -/
def outB (r : R W) (e : D) : Bool :=
  match r with
  | .ok (.v d) _ => deqD d e
  | _ => false
theorem outB_ok {r : R W} {e : D} (h : outB r e = true) : ∃ st, r = .ok (.v e) st := by
  cases r with
  | ok w st =>
    cases w with
    | v d =>
      have z := deqD_ok (show deqD d e = true from h)
      subst z
      exact ⟨st, rfl⟩
    | _ => cases h
  | _ => cases h
theorem mem_range {w : W} {k : Nat} (h : w ∈ rangeW 0 k) : ∃ n : Nat, n < k ∧ w = .v (.int n) := by
  rw [rangeW_eq] at h
  obtain ⟨n, h1, rfl⟩ := List.mem_map.mp h
  refine ⟨n, ?_, by rw [Int.zero_add]⟩
  have z := List.mem_range'.mp h1
  obtain ⟨i, h2, h3⟩ := z
  omega
end Pf
set_option Elab.async false
set_option linter.all false
set_option maxRecDepth 100000
set_option maxHeartbeats 0
namespace PfLaw
open Pf
def c_law_box : Ss := (.cons (.asg 2 (.bin .add (.bin .mul (.lit (.int 2311)) (.var 1)) (.lit (.int 97)))) (.cons (.ite (.cmp .lt (.var 1) (.blt .len (.cons (.var 0) .nil))) (.cons (.asg 2 (.blt .abs (.cons (.idx (.var 0) (.var 1)) .nil))) .nil) (.cons (.ite (.cmp .gt (.blt .len (.cons (.var 0) .nil)) (.lit (.int 0))) (.cons (.asg 2 (.bin .add (.var 2) (.bin .mul (.bin .mod (.blt .int (.cons (.blt .abs (.cons (.idx (.var 0) (.bin .mod (.blt .int (.cons (.var 1) .nil)) (.blt .len (.cons (.var 0) .nil)))) .nil)) .nil)) (.lit (.int 2147483629))) (.lit (.int 60013))))) .nil) .nil) .nil)) (.cons (.ret (.liv (.disp (.cons (.idx (.frz (.disp (.cons (.lit (.int 0)) (.cons (.var 2) .nil)))) (.blt .int (.cons (.cmp .ge (.var 2) (.bin .pow (.lit (.int 10)) (.lit (.int 18)))) .nil))) (.cons (.bin .add (.bin .mod (.blt .int (.cons (.bin .add (.bin .mul (.bin .mod (.blt .int (.cons (.var 2) .nil)) (.lit (.int 2147483629))) (.lit (.int 38377))) (.bin .mul (.lit (.int 71129)) (.var 1))) .nil)) (.lit (.int 2147483629))) (.lit (.int 1))) (.cons (.lit (.int 0)) .nil)))))) .nil)))
def c_law_take : Ss := (.cons (.ite (.cmp .gt (.idx (.var 0) (.lit (.int 0))) (.lit (.int 0))) (.cons (.asg 2 (.bin .mod (.blt .int (.cons (.idx (.var 0) (.lit (.int 0))) .nil)) (.var 1))) (.cons (.seti (.var 0) (.lit (.int 0)) (.bin .fdiv (.idx (.var 0) (.lit (.int 0))) (.var 1))) (.cons (.ret (.var 2)) .nil))) .nil) (.cons (.seti (.var 0) (.lit (.int 2)) (.bin .add (.idx (.var 0) (.lit (.int 2))) (.lit (.int 1)))) (.cons (.asg 3 (.bin .mod (.blt .int (.cons (.bin .add (.bin .mul (.bin .add (.idx (.var 0) (.lit (.int 1))) (.bin .mul (.lit (.int 90007)) (.idx (.var 0) (.lit (.int 2))))) (.lit (.int 58217))) (.lit (.int 43))) .nil)) (.lit (.int 2147483563)))) (.cons (.seti (.var 0) (.lit (.int 1)) (.bin .add (.bin .mod (.blt .int (.cons (.bin .add (.bin .mul (.var 3) (.lit (.int 40289))) (.lit (.int 27367))) .nil)) (.lit (.int 2147483629))) (.lit (.int 1)))) (.cons (.ret (.bin .mod (.blt .int (.cons (.bin .fdiv (.bin .add (.bin .mul (.var 3) (.lit (.int 2147483647))) (.idx (.var 0) (.lit (.int 1)))) (.lit (.int 8191))) .nil)) (.var 1))) .nil)))))
def c_law_pick : Ss := (.cons (.ret (.idx (.var 1) (.call false 1 2 [] [.a 0, .a 1] (.cons (.var 0) (.cons (.blt .len (.cons (.var 1) .nil)) .nil))))) .nil)
def c_law_raise_a : Ss := (.cons (.ite (.cmp .eq (.var 0) (.lit (.int 0))) (.cons (.rais 1 (.cons (.var 1) .nil)) .nil) (.cons (.ite (.cmp .eq (.var 0) (.lit (.int 1))) (.cons (.rais 2 (.cons (.var 1) .nil)) .nil) (.cons (.ite (.cmp .eq (.var 0) (.lit (.int 2))) (.cons (.rais 3 (.cons (.var 1) .nil)) .nil) (.cons (.ite (.cmp .eq (.var 0) (.lit (.int 3))) (.cons (.rais 4 (.cons (.var 1) .nil)) .nil) (.cons (.ite (.cmp .eq (.var 0) (.lit (.int 4))) (.cons (.rais 5 (.cons (.var 1) .nil)) .nil) (.cons (.ite (.cmp .eq (.var 0) (.lit (.int 5))) (.cons (.rais 6 (.cons (.var 1) .nil)) .nil) (.cons (.ite (.cmp .eq (.var 0) (.lit (.int 6))) (.cons (.rais 7 (.cons (.var 1) .nil)) .nil) (.cons (.ite (.cmp .eq (.var 0) (.lit (.int 7))) (.cons (.rais 8 (.cons (.var 1) .nil)) .nil) (.cons (.ite (.cmp .eq (.var 0) (.lit (.int 8))) (.cons (.rais 9 (.cons (.var 1) .nil)) .nil) (.cons (.ite (.cmp .eq (.var 0) (.lit (.int 9))) (.cons (.rais 10 (.cons (.var 1) .nil)) .nil) (.cons (.ite (.cmp .eq (.var 0) (.lit (.int 10))) (.cons (.rais 11 (.cons (.var 1) .nil)) .nil) (.cons (.ite (.cmp .eq (.var 0) (.lit (.int 11))) (.cons (.rais 12 (.cons (.var 1) .nil)) .nil) (.cons (.ite (.cmp .eq (.var 0) (.lit (.int 12))) (.cons (.rais 13 (.cons (.var 1) .nil)) .nil) (.cons (.ite (.cmp .eq (.var 0) (.lit (.int 13))) (.cons (.rais 14 (.cons (.var 1) .nil)) .nil) (.cons (.ite (.cmp .eq (.var 0) (.lit (.int 14))) (.cons (.rais 15 (.cons (.var 1) .nil)) .nil) .nil) .nil)) .nil)) .nil)) .nil)) .nil)) .nil)) .nil)) .nil)) .nil)) .nil)) .nil)) .nil)) .nil)) .nil)) .nil)
def c_law_raise_b : Ss := (.cons (.ite (.cmp .eq (.var 0) (.lit (.int 15))) (.cons (.rais 16 (.cons (.var 1) .nil)) .nil) (.cons (.ite (.cmp .eq (.var 0) (.lit (.int 16))) (.cons (.rais 17 (.cons (.var 1) .nil)) .nil) (.cons (.ite (.cmp .eq (.var 0) (.lit (.int 17))) (.cons (.rais 18 (.cons (.var 1) .nil)) .nil) (.cons (.ite (.cmp .eq (.var 0) (.lit (.int 18))) (.cons (.rais 19 (.cons (.var 1) .nil)) .nil) (.cons (.ite (.cmp .eq (.var 0) (.lit (.int 19))) (.cons (.rais 20 (.cons (.var 1) .nil)) .nil) (.cons (.ite (.cmp .eq (.var 0) (.lit (.int 20))) (.cons (.rais 21 (.cons (.var 1) .nil)) .nil) (.cons (.ite (.cmp .eq (.var 0) (.lit (.int 21))) (.cons (.rais 22 (.cons (.var 1) .nil)) .nil) (.cons (.ite (.cmp .eq (.var 0) (.lit (.int 22))) (.cons (.rais 23 (.cons (.var 1) .nil)) .nil) (.cons (.ite (.cmp .eq (.var 0) (.lit (.int 23))) (.cons (.rais 24 (.cons (.var 1) .nil)) .nil) (.cons (.ite (.cmp .eq (.var 0) (.lit (.int 24))) (.cons (.rais 25 (.cons (.var 1) .nil)) .nil) (.cons (.ite (.cmp .eq (.var 0) (.lit (.int 25))) (.cons (.rais 26 (.cons (.var 1) .nil)) .nil) (.cons (.ite (.cmp .eq (.var 0) (.lit (.int 26))) (.cons (.rais 27 (.cons (.var 1) .nil)) .nil) (.cons (.ite (.cmp .eq (.var 0) (.lit (.int 27))) (.cons (.rais 28 (.cons (.var 1) .nil)) .nil) .nil) .nil)) .nil)) .nil)) .nil)) .nil)) .nil)) .nil)) .nil)) .nil)) .nil)) .nil)) .nil)) .nil)
def c_law_raise_c : Ss := (.cons (.ite (.cmp .eq (.var 0) (.lit (.int 28))) (.cons (.rais 29 (.cons (.var 1) .nil)) .nil) (.cons (.ite (.cmp .eq (.var 0) (.lit (.int 29))) (.cons (.rais 30 (.cons (.var 1) .nil)) .nil) (.cons (.ite (.cmp .eq (.var 0) (.lit (.int 30))) (.cons (.rais 31 (.cons (.var 1) .nil)) .nil) (.cons (.ite (.cmp .eq (.var 0) (.lit (.int 31))) (.cons (.rais 32 (.cons (.var 1) .nil)) .nil) (.cons (.ite (.cmp .eq (.var 0) (.lit (.int 32))) (.cons (.rais 33 (.cons (.var 1) .nil)) .nil) (.cons (.ite (.cmp .eq (.var 0) (.lit (.int 33))) (.cons (.rais 34 (.cons (.var 1) .nil)) .nil) (.cons (.ite (.cmp .eq (.var 0) (.lit (.int 34))) (.cons (.rais 35 (.cons (.var 1) .nil)) .nil) .nil) .nil)) .nil)) .nil)) .nil)) .nil)) .nil)) (.cons (.raisB 36) .nil))
def c_law_raise : Ss := (.cons (.ite (.cmp .lt (.var 0) (.lit (.int 15))) (.cons (.ex (.call true 3 2 [] [.a 0, .a 1] (.cons (.var 0) (.cons (.var 1) .nil)))) .nil) (.cons (.ite (.cmp .lt (.var 0) (.lit (.int 28))) (.cons (.ex (.call true 4 2 [] [.a 0, .a 1] (.cons (.var 0) (.cons (.var 1) .nil)))) .nil) (.cons (.ex (.call true 5 2 [] [.a 0, .a 1] (.cons (.var 0) (.cons (.var 1) .nil)))) .nil)) .nil)) .nil)
def c_law_caught_a : Ss := (.cons (.tr (.cons (.ex (.call true 6 2 [] [.a 0, .a 1] (.cons (.var 0) (.cons (.var 1) .nil)))) .nil) (.cons 1 (some 2) (.cons (.ret (.tup (.cons (.lit (.int 0)) (.cons (.exat 2 [1] "at") .nil)))) .nil) (.cons 2 (some 2) (.cons (.ret (.tup (.cons (.lit (.int 1)) (.cons (.exat 2 [2] "at") .nil)))) .nil) (.cons 3 (some 2) (.cons (.ret (.tup (.cons (.lit (.int 2)) (.cons (.exat 2 [3] "at") .nil)))) .nil) (.cons 4 (some 2) (.cons (.ret (.tup (.cons (.lit (.int 3)) (.cons (.exat 2 [4] "at") .nil)))) .nil) (.cons 5 (some 2) (.cons (.ret (.tup (.cons (.lit (.int 4)) (.cons (.exat 2 [5] "at") .nil)))) .nil) (.cons 6 (some 2) (.cons (.ret (.tup (.cons (.lit (.int 5)) (.cons (.exat 2 [6] "at") .nil)))) .nil) (.cons 7 (some 2) (.cons (.ret (.tup (.cons (.lit (.int 6)) (.cons (.exat 2 [7] "at") .nil)))) .nil) (.cons 8 (some 2) (.cons (.ret (.tup (.cons (.lit (.int 7)) (.cons (.exat 2 [8] "at") .nil)))) .nil) (.cons 9 (some 2) (.cons (.ret (.tup (.cons (.lit (.int 8)) (.cons (.exat 2 [9] "at") .nil)))) .nil) (.cons 10 (some 2) (.cons (.ret (.tup (.cons (.lit (.int 9)) (.cons (.exat 2 [10] "at") .nil)))) .nil) (.cons 11 (some 2) (.cons (.ret (.tup (.cons (.lit (.int 10)) (.cons (.exat 2 [11] "at") .nil)))) .nil) (.cons 12 (some 2) (.cons (.ret (.tup (.cons (.lit (.int 11)) (.cons (.exat 2 [12] "at") .nil)))) .nil) (.cons 13 (some 2) (.cons (.ret (.tup (.cons (.lit (.int 12)) (.cons (.exat 2 [13] "at") .nil)))) .nil) (.cons 14 (some 2) (.cons (.ret (.tup (.cons (.lit (.int 13)) (.cons (.exat 2 [14] "at") .nil)))) .nil) (.cons 15 (some 2) (.cons (.ret (.tup (.cons (.lit (.int 14)) (.cons (.exat 2 [15] "at") .nil)))) .nil) .nil)))))))))))))))) (.cons (.ret (.lit .non)) .nil))
def c_law_caught_b : Ss := (.cons (.tr (.cons (.ret (.call true 7 2 [] [.a 0, .a 1] (.cons (.var 0) (.cons (.var 1) .nil)))) .nil) (.cons 16 (some 2) (.cons (.ret (.tup (.cons (.lit (.int 15)) (.cons (.exat 2 [16] "at") .nil)))) .nil) (.cons 17 (some 2) (.cons (.ret (.tup (.cons (.lit (.int 16)) (.cons (.exat 2 [17] "at") .nil)))) .nil) (.cons 18 (some 2) (.cons (.ret (.tup (.cons (.lit (.int 17)) (.cons (.exat 2 [18] "at") .nil)))) .nil) (.cons 19 (some 2) (.cons (.ret (.tup (.cons (.lit (.int 18)) (.cons (.exat 2 [19] "at") .nil)))) .nil) (.cons 20 (some 2) (.cons (.ret (.tup (.cons (.lit (.int 19)) (.cons (.exat 2 [20] "at") .nil)))) .nil) (.cons 21 (some 2) (.cons (.ret (.tup (.cons (.lit (.int 20)) (.cons (.exat 2 [21] "at") .nil)))) .nil) (.cons 22 (some 2) (.cons (.ret (.tup (.cons (.lit (.int 21)) (.cons (.exat 2 [22] "at") .nil)))) .nil) (.cons 23 (some 2) (.cons (.ret (.tup (.cons (.lit (.int 22)) (.cons (.exat 2 [23] "at") .nil)))) .nil) (.cons 24 (some 2) (.cons (.ret (.tup (.cons (.lit (.int 23)) (.cons (.exat 2 [24] "at") .nil)))) .nil) (.cons 25 (some 2) (.cons (.ret (.tup (.cons (.lit (.int 24)) (.cons (.exat 2 [25] "at") .nil)))) .nil) (.cons 26 (some 2) (.cons (.ret (.tup (.cons (.lit (.int 25)) (.cons (.exat 2 [26] "at") .nil)))) .nil) (.cons 27 (some 2) (.cons (.ret (.tup (.cons (.lit (.int 26)) (.cons (.exat 2 [27] "at") .nil)))) .nil) (.cons 28 (some 2) (.cons (.ret (.tup (.cons (.lit (.int 27)) (.cons (.exat 2 [28] "at") .nil)))) .nil) .nil)))))))))))))) (.cons (.ret (.lit .non)) .nil))
def c_law_caught_c : Ss := (.cons (.tr (.cons (.ret (.call true 8 2 [] [.a 0, .a 1] (.cons (.var 0) (.cons (.var 1) .nil)))) .nil) (.cons 29 (some 2) (.cons (.ret (.tup (.cons (.lit (.int 28)) (.cons (.exat 2 [29] "at") .nil)))) .nil) (.cons 30 (some 2) (.cons (.ret (.tup (.cons (.lit (.int 29)) (.cons (.exat 2 [30] "at") .nil)))) .nil) (.cons 31 (some 2) (.cons (.ret (.tup (.cons (.lit (.int 30)) (.cons (.exat 2 [31] "at") .nil)))) .nil) (.cons 32 (some 2) (.cons (.ret (.tup (.cons (.lit (.int 31)) (.cons (.exat 2 [32] "at") .nil)))) .nil) (.cons 33 (some 2) (.cons (.ret (.tup (.cons (.lit (.int 32)) (.cons (.exat 2 [33] "at") .nil)))) .nil) (.cons 34 (some 2) (.cons (.ret (.tup (.cons (.lit (.int 33)) (.cons (.exat 2 [34] "word") .nil)))) .nil) (.cons 35 (some 2) (.cons (.ret (.tup (.cons (.lit (.int 34)) (.cons (.exat 2 [35] "robot") .nil)))) .nil) (.cons 36 none (.cons (.ret (.tup (.cons (.lit (.int 35)) (.cons (.var 1) .nil)))) .nil) .nil))))))))) (.cons (.ret (.lit .non)) .nil))
def c_law_is_base : Ss := (.cons (.tr (.cons (.ex (.call true 6 2 [] [.a 0, .a 1] (.cons (.var 0) (.cons (.var 1) .nil)))) .nil) (.cons 0 none (.cons (.ret (.lit (.bl true))) .nil) .nil)) (.cons (.ret (.lit (.bl false))) .nil))
def c_law : Ss := (.cons (.asg 1 (.call false 0 2 [] [.a 0, .a 1] (.cons (.var 0) (.cons (.lit (.int 0)) .nil)))) (.cons (.fo [2] (.rng1 (.lit (.int 36))) (.cons (.asg 3 (.call false 2 2 [] [.a 0, .a 1] (.cons (.var 1) (.cons (.frz (.disp (.cons (.lit (.int 0)) (.cons (.neg (.lit (.int 1))) (.cons (.lit .non) (.cons (.lit (.str [119, 111, 114, 100, 115])) (.cons (.tup (.cons (.lit (.int 1)) (.cons (.lit (.int 2)) .nil))) (.cons (.frz (.disp (.cons (.lit (.int 3)) .nil))) (.cons (.lit (.bl true)) (.cons (.lit (.int 7)) .nil)))))))))) .nil)))) (.cons (.ite (.orr (.cmp .ne (.call true 9 2 [] [.a 0, .a 1] (.cons (.var 2) (.cons (.var 3) .nil))) (.tup (.cons (.var 2) (.cons (.var 3) .nil)))) (.one (.nott (.vv (.call true 10 2 [] [.a 0, .a 1] (.cons (.var 2) (.cons (.var 3) .nil))))))) (.cons (.ret (.lit (.bl false))) .nil) .nil) .nil))) (.cons (.ret (.cmp .eq (.tup (.cons (.mkx 1 "at" "at" (.neg (.lit (.int 1)))) (.cons (.mkx 3 "at" "at" (.lit (.int 3))) (.cons (.mkx 34 "word" "word" (.lit (.str [120]))) (.cons (.mkx 35 "robot" "robot" (.lit (.int 2))) .nil))))) (.tup (.cons (.neg (.lit (.int 1))) (.cons (.lit (.int 3)) (.cons (.lit (.str [120])) (.cons (.lit (.int 2)) .nil))))))) .nil)))
def fds : List Fd := [⟨2, 3, c_law_box⟩, ⟨2, 4, c_law_take⟩, ⟨2, 2, c_law_pick⟩, ⟨2, 2, c_law_raise_a⟩, ⟨2, 2, c_law_raise_b⟩, ⟨2, 2, c_law_raise_c⟩, ⟨2, 2, c_law_raise⟩, ⟨2, 3, c_law_caught_a⟩, ⟨2, 3, c_law_caught_b⟩, ⟨2, 3, c_law_caught_c⟩, ⟨2, 2, c_law_is_base⟩, ⟨1, 4, c_law⟩]
end PfLaw
set_option Elab.async false
set_option linter.all false
set_option maxRecDepth 100000
set_option maxHeartbeats 4000000
namespace PfLaw
open Pf
abbrev tb : Nat → Option Fd := fun i => fds[i]?
abbrev cx (k : Nat) : Pf.Cx := ⟨callF tb 1000 k, 1000⟩
def menu : List D := [.int 0, .int (-1), .non, .str [119, 111, 114, 100, 115], .tup [.int 1, .int 2], .lst [.int 3], .bl true, .int 7]
theorem facts : ((List.range 36).all fun n => menu.all fun d => outB (callF tb 1000 29 9 [.v (.int n), .v d] []) (.tup [.int n, d]) && (outB (callF tb 1000 29 10 [.v (.int n), .v d] []) (.bl true) && (okEq (.tup [.int n, d]) (.tup [.int n, d]) && eqv (.tup [.int n, d]) (.tup [.int n, d])))) = true := by decide +kernel
theorem take_c (k : Nat) {st : Store} {n : Nat} {x0 x1 x2 b : Int} (h : st[n]? = some (bx x0 x1 x2)) (b0 : 0 < b) (b1 : b < 1073741824) : ∃ r y0 y1 y2, 0 ≤ r ∧ r < b ∧ callF tb 1000 (k + 1) 1 [.r n, .v (.int b)] st = .ok (.v (.int r)) (st.set n (bx y0 y1 y2)) := by
  obtain ⟨r, y0, y1, y2, h1, h2, e⟩ := take_spec (c := cx k) (m := 90007) h (by decide) b0 b1
  refine ⟨r, y0, y1, y2, h1, h2, ?_⟩
  show backS (exSs (cx k) (cTake 90007) [some (.r n), some (.v (.int b)), none, none] st) = _
  rw [e]
  rfl
theorem pick_c (k : Nat) {st : Store} {n : Nat} {x0 x1 x2 : Int} (h : st[n]? = some (bx x0 x1 x2)) (ds : List D) (d0 : 0 < ds.length) (d1 : ds.length < 1073741824) : ∃ d ∈ ds, ∃ y0 y1 y2, callF tb 1000 (k + 2) 2 [.r n, .v (.lst ds)] st = .ok (.v d) (st.set n (bx y0 y1 y2)) := by
  obtain ⟨r, y0, y1, y2, h1, h2, e⟩ := take_c k h (b := (ds.length : Nat)) (by omega) (by omega)
  obtain ⟨d, hd, e2⟩ := pick_spec (c := cx (k + 1)) (ft := 1) e h1 h2
  refine ⟨d, hd, y0, y1, y2, ?_⟩
  show backS (exSs (cx (k + 1)) (cPick 1) [some (.r n), some (.v (.lst ds))] st) = _
  rw [e2]
  rfl
def Iv (L : D) (env : Pf.Env) (st : Store) : Prop := ∃ z2 z3 x0 x1 x2, env = [some (.v L), some (.r 0), z2, z3] ∧ st = [bx x0 x1 x2]
theorem body (L : D) (n : Nat) (hn : n < 36) (env : Pf.Env) (st : Store) (hI : Iv L env st) : ∃ env1 env2 st2, bindTg [2] [.v (.int n)] env = some env1 ∧ exSs (cx 29) (.cons (.asg 3 (.call false 2 2 [] [.a 0, .a 1] (.cons (.var 1) (.cons (.frz (.disp (.cons (.lit (.int 0)) (.cons (.neg (.lit (.int 1))) (.cons (.lit .non) (.cons (.lit (.str [119, 111, 114, 100, 115])) (.cons (.tup (.cons (.lit (.int 1)) (.cons (.lit (.int 2)) .nil))) (.cons (.frz (.disp (.cons (.lit (.int 3)) .nil))) (.cons (.lit (.bl true)) (.cons (.lit (.int 7)) .nil)))))))))) .nil)))) (.cons (.ite (.orr (.cmp .ne (.call true 9 2 [] [.a 0, .a 1] (.cons (.var 2) (.cons (.var 3) .nil))) (.tup (.cons (.var 2) (.cons (.var 3) .nil)))) (.one (.nott (.vv (.call true 10 2 [] [.a 0, .a 1] (.cons (.var 2) (.cons (.var 3) .nil))))))) (.cons (.ret (.lit (.bl false))) .nil) .nil) .nil)) env1 st = .nx env2 st2 ∧ Iv L env2 st2 := by
  obtain ⟨z2, z3, x0, x1, x2, rfl, rfl⟩ := hI
  obtain ⟨d, hd, y0, y1, y2, e⟩ := pick_c 27 (st := [bx x0 x1 x2]) (n := 0) rfl menu (by decide) (by decide)
  have e : callF tb 1000 29 2 [.r 0, .v (.lst menu)] [bx x0 x1 x2] = .ok (.v d) [bx y0 y1 y2] := e
  have f := List.all_eq_true.mp (List.all_eq_true.mp facts n (List.mem_range.mpr hn)) d hd
  simp only [Bool.and_eq_true] at f
  obtain ⟨f1, f2, f3, f4⟩ := f
  obtain ⟨s1, f1⟩ := outB_ok f1
  obtain ⟨s2, f2⟩ := outB_ok f2
  refine ⟨[some (.v L), some (.r 0), some (.v (.int n)), z3], [some (.v L), some (.r 0), some (.v (.int n)), some (.v d)], [bx y0 y1 y2], rfl, ?_, some (.v (.int n)), some (.v d), y0, y1, y2, rfl, rfl⟩
  have s0 : exS (cx 29) (.asg 3 (.call false 2 2 [] [.a 0, .a 1] (.cons (.var 1) (.cons (.frz (.disp (.cons (.lit (.int 0)) (.cons (.neg (.lit (.int 1))) (.cons (.lit .non) (.cons (.lit (.str [119, 111, 114, 100, 115])) (.cons (.tup (.cons (.lit (.int 1)) (.cons (.lit (.int 2)) .nil))) (.cons (.frz (.disp (.cons (.lit (.int 3)) .nil))) (.cons (.lit (.bl true)) (.cons (.lit (.int 7)) .nil)))))))))) .nil)))) [some (.v L), some (.r 0), some (.v (.int n)), z3] [bx x0 x1 x2] = .nx [some (.v L), some (.r 0), some (.v (.int n)), some (.v d)] [bx y0 y1 y2] := by
    have el : D.lst [.int 0, .int (-1), .non, .str [119, 111, 114, 100, 115], .tup [.int 1, .int 2], .lst [.int 3], .bl true, .int 7] = .lst menu := rfl
    simp only [exS, evE, evT, evL, evI, evEs, evTs, evO, v_bind_ok, v_bind_exc, v_bindG_ok, v_bindG_exc, v_then_nx, v_fo_nx, v_catch_nx, v_then_ret, v_fo_ret, v_catch_ret, v_then_brk, v_fo_brk, v_catch_brk, v_then_cnt, v_fo_cnt, v_catch_cnt, v_then_exc, v_fo_exc, v_catch_exc, v_turnB, v_turnS, v_lc_t, v_lc_f, v_ofO, v_data, v_binS, v_bin2, v_add, v_sub, v_mul, v_fdiv, v_mod, v_addT, v_cmpS, v_cmpW_eq, v_cmpW_ne, v_cmpW_lt, v_cmpW_le, v_cmpW_gt, v_cmpW_ge, v_cmpW_inn, v_cmpW_nin, v_cmpW_isn, v_cmpW_nisn, v_cmp2, v_eq, v_ne, v_lt, v_le, v_gt, v_ge, v_inn_lst, v_nin_lst, v_inn_tup, v_nin_tup, v_chnS_t, v_chnS_f, v_chnT_t, v_chnT_f, v_orS_t, v_orS_f, v_orT_t, v_orT_f, v_andT_t, v_andT_f, v_if_t, v_if_f, v_notS, v_negS, v_idxS, v_idxW, v_idx2, v_items_v, v_items_r, v_itemsC_l, v_itemsC_f, v_itemsD_l, v_itemsD_t, v_view_v, v_view_r, v_viewC_l, v_viewC_f, v_dats_c, v_dats_n, v_boolOf, v_intOf, v_varO_v, v_varO_r, v_exatO_i, v_exatO_n, v_exatO_t, v_exatO_l, v_exatO_b, v_tupS, v_slcS, v_slcD_t, v_slcD_l, v_frzS, v_livS, v_callS, v_call2, v_args_n, v_args_a, v_args_d, v_args2, v_callW_f, v_allV_n, v_allV_c, v_pure_ok, v_pure_exc, v_bltS, v_len, v_int_i, v_int_b, v_abs, v_tuple, v_tupI, v_isint, v_isbool, v_isstr, v_isseq, v_kind_v, v_kind_r, v_kindC_l, v_kindC_f, v_isInt_non, v_isInt_bl, v_isInt_int, v_isInt_str, v_isInt_tup, v_isInt_lst, v_isBool_non, v_isBool_bl, v_isBool_int, v_isBool_str, v_isBool_tup, v_isBool_lst, v_isStr_non, v_isStr_bl, v_isStr_int, v_isStr_str, v_isStr_tup, v_isStr_lst, v_isSeq_non, v_isSeq_bl, v_isSeq_int, v_isSeq_str, v_isSeq_tup, v_isSeq_lst, v_popS, v_appS, v_appC, v_needL, v_lstOf, v_itemsS, v_listS, v_storeS, v_setIt, v_setC, v_envS, v_tg_n, v_tg_c, v_raisS, v_kept_n, v_kept_v, v_named_s, v_named_n, v_gone_ret, v_gone_nx, v_foS, v_lcS, v_frozen_v, v_frozenD_l, v_frozenD_t, v_wipe_n, v_wipe_c, v_back_ret, v_back_nx, v_back_exc, List.getElem?_cons_zero, List.getElem?_cons_succ, List.set_cons_zero, List.set_cons_succ, Option.map_some, Option.map_none, Option.bind_some, Option.bind_none, List.map_cons, List.map_nil, List.length_cons, List.length_nil, if_true, if_false, reduceIte, Bool.not_true, Bool.not_false, el, e]
  have t1 : evT (cx 29) (.cmp .ne (.call true 9 2 [] [.a 0, .a 1] (.cons (.var 2) (.cons (.var 3) .nil))) (.tup (.cons (.var 2) (.cons (.var 3) .nil)))) [some (.v L), some (.r 0), some (.v (.int n)), some (.v d)] [bx y0 y1 y2] = .ok false [bx y0 y1 y2] := by
    simp only [evE, evT, evL, evI, evEs, evTs, evO, v_bind_ok, v_bind_exc, v_bindG_ok, v_bindG_exc, v_then_nx, v_fo_nx, v_catch_nx, v_then_ret, v_fo_ret, v_catch_ret, v_then_brk, v_fo_brk, v_catch_brk, v_then_cnt, v_fo_cnt, v_catch_cnt, v_then_exc, v_fo_exc, v_catch_exc, v_turnB, v_turnS, v_lc_t, v_lc_f, v_ofO, v_data, v_binS, v_bin2, v_add, v_sub, v_mul, v_fdiv, v_mod, v_addT, v_cmpS, v_cmpW_eq, v_cmpW_ne, v_cmpW_lt, v_cmpW_le, v_cmpW_gt, v_cmpW_ge, v_cmpW_inn, v_cmpW_nin, v_cmpW_isn, v_cmpW_nisn, v_cmp2, v_eq, v_ne, v_lt, v_le, v_gt, v_ge, v_inn_lst, v_nin_lst, v_inn_tup, v_nin_tup, v_chnS_t, v_chnS_f, v_chnT_t, v_chnT_f, v_orS_t, v_orS_f, v_orT_t, v_orT_f, v_andT_t, v_andT_f, v_if_t, v_if_f, v_notS, v_negS, v_idxS, v_idxW, v_idx2, v_items_v, v_items_r, v_itemsC_l, v_itemsC_f, v_itemsD_l, v_itemsD_t, v_view_v, v_view_r, v_viewC_l, v_viewC_f, v_dats_c, v_dats_n, v_boolOf, v_intOf, v_varO_v, v_varO_r, v_exatO_i, v_exatO_n, v_exatO_t, v_exatO_l, v_exatO_b, v_tupS, v_slcS, v_slcD_t, v_slcD_l, v_frzS, v_livS, v_callS, v_call2, v_args_n, v_args_a, v_args_d, v_args2, v_callW_f, v_allV_n, v_allV_c, v_pure_ok, v_pure_exc, v_bltS, v_len, v_int_i, v_int_b, v_abs, v_tuple, v_tupI, v_isint, v_isbool, v_isstr, v_isseq, v_kind_v, v_kind_r, v_kindC_l, v_kindC_f, v_isInt_non, v_isInt_bl, v_isInt_int, v_isInt_str, v_isInt_tup, v_isInt_lst, v_isBool_non, v_isBool_bl, v_isBool_int, v_isBool_str, v_isBool_tup, v_isBool_lst, v_isStr_non, v_isStr_bl, v_isStr_int, v_isStr_str, v_isStr_tup, v_isStr_lst, v_isSeq_non, v_isSeq_bl, v_isSeq_int, v_isSeq_str, v_isSeq_tup, v_isSeq_lst, v_popS, v_appS, v_appC, v_needL, v_lstOf, v_itemsS, v_listS, v_storeS, v_setIt, v_setC, v_envS, v_tg_n, v_tg_c, v_raisS, v_kept_n, v_kept_v, v_named_s, v_named_n, v_gone_ret, v_gone_nx, v_foS, v_lcS, v_frozen_v, v_frozenD_l, v_frozenD_t, v_wipe_n, v_wipe_c, v_back_ret, v_back_nx, v_back_exc, List.getElem?_cons_zero, List.getElem?_cons_succ, List.set_cons_zero, List.set_cons_succ, Option.map_some, Option.map_none, Option.bind_some, Option.bind_none, List.map_cons, List.map_nil, List.length_cons, List.length_nil, if_true, if_false, reduceIte, Bool.not_true, Bool.not_false, v_callW_t _ _ [.v (.int n), .v d] _ rfl, f1, f3, f4]
  have t2 : evT (cx 29) (.nott (.vv (.call true 10 2 [] [.a 0, .a 1] (.cons (.var 2) (.cons (.var 3) .nil))))) [some (.v L), some (.r 0), some (.v (.int n)), some (.v d)] [bx y0 y1 y2] = .ok false [bx y0 y1 y2] := by
    simp only [evE, evT, evL, evI, evEs, evTs, evO, v_bind_ok, v_bind_exc, v_bindG_ok, v_bindG_exc, v_then_nx, v_fo_nx, v_catch_nx, v_then_ret, v_fo_ret, v_catch_ret, v_then_brk, v_fo_brk, v_catch_brk, v_then_cnt, v_fo_cnt, v_catch_cnt, v_then_exc, v_fo_exc, v_catch_exc, v_turnB, v_turnS, v_lc_t, v_lc_f, v_ofO, v_data, v_binS, v_bin2, v_add, v_sub, v_mul, v_fdiv, v_mod, v_addT, v_cmpS, v_cmpW_eq, v_cmpW_ne, v_cmpW_lt, v_cmpW_le, v_cmpW_gt, v_cmpW_ge, v_cmpW_inn, v_cmpW_nin, v_cmpW_isn, v_cmpW_nisn, v_cmp2, v_eq, v_ne, v_lt, v_le, v_gt, v_ge, v_inn_lst, v_nin_lst, v_inn_tup, v_nin_tup, v_chnS_t, v_chnS_f, v_chnT_t, v_chnT_f, v_orS_t, v_orS_f, v_orT_t, v_orT_f, v_andT_t, v_andT_f, v_if_t, v_if_f, v_notS, v_negS, v_idxS, v_idxW, v_idx2, v_items_v, v_items_r, v_itemsC_l, v_itemsC_f, v_itemsD_l, v_itemsD_t, v_view_v, v_view_r, v_viewC_l, v_viewC_f, v_dats_c, v_dats_n, v_boolOf, v_intOf, v_varO_v, v_varO_r, v_exatO_i, v_exatO_n, v_exatO_t, v_exatO_l, v_exatO_b, v_tupS, v_slcS, v_slcD_t, v_slcD_l, v_frzS, v_livS, v_callS, v_call2, v_args_n, v_args_a, v_args_d, v_args2, v_callW_f, v_allV_n, v_allV_c, v_pure_ok, v_pure_exc, v_bltS, v_len, v_int_i, v_int_b, v_abs, v_tuple, v_tupI, v_isint, v_isbool, v_isstr, v_isseq, v_kind_v, v_kind_r, v_kindC_l, v_kindC_f, v_isInt_non, v_isInt_bl, v_isInt_int, v_isInt_str, v_isInt_tup, v_isInt_lst, v_isBool_non, v_isBool_bl, v_isBool_int, v_isBool_str, v_isBool_tup, v_isBool_lst, v_isStr_non, v_isStr_bl, v_isStr_int, v_isStr_str, v_isStr_tup, v_isStr_lst, v_isSeq_non, v_isSeq_bl, v_isSeq_int, v_isSeq_str, v_isSeq_tup, v_isSeq_lst, v_popS, v_appS, v_appC, v_needL, v_lstOf, v_itemsS, v_listS, v_storeS, v_setIt, v_setC, v_envS, v_tg_n, v_tg_c, v_raisS, v_kept_n, v_kept_v, v_named_s, v_named_n, v_gone_ret, v_gone_nx, v_foS, v_lcS, v_frozen_v, v_frozenD_l, v_frozenD_t, v_wipe_n, v_wipe_c, v_back_ret, v_back_nx, v_back_exc, List.getElem?_cons_zero, List.getElem?_cons_succ, List.set_cons_zero, List.set_cons_succ, Option.map_some, Option.map_none, Option.bind_some, Option.bind_none, List.map_cons, List.map_nil, List.length_cons, List.length_nil, if_true, if_false, reduceIte, Bool.not_true, Bool.not_false, v_callW_t _ _ [.v (.int n), .v d] _ rfl, f2]
  rw [exSs, s0, v_then_nx, exSs, exS, evT, t1, v_bind_ok, v_orT_f, evT, t2, v_bindG_ok, v_if_f, exSs, v_then_nx, exSs]
theorem runAll : ∀ ns : List Int, ns.length ≤ 63 → ∃ st, callF (fun i => fds[i]?) 1000 30 11 [.v (.lst (ns.map .int))] [] = .ok (.v (.bl true)) st := by
  intro ns hl
  obtain ⟨x0, x1, eb⟩ := box_spec (cx 28) ns 0 [] (a := 2311) (b := 97) (p := 60013) (q := 38377) (r := 71129) (by decide) (by decide) (by decide) (by decide) hl (by decide)
  have eb : callF tb 1000 29 0 [.v (.lst (ns.map .int)), .v (.int 0)] [] = .ok (.r 0) [bx x0 x1 0] := by
    show backS (exSs (cx 28) (cBox 2311 97 60013 38377 71129) [some (.v (.lst (ns.map .int))), some (.v (.int (0 : Nat))), none] []) = _
    rw [eb]
    rfl
  have s0 : exS (cx 29) (.asg 1 (.call false 0 2 [] [.a 0, .a 1] (.cons (.var 0) (.cons (.lit (.int 0)) .nil)))) [some (.v (.lst (ns.map .int))), none, none, none] [] = .nx [some (.v (.lst (ns.map .int))), some (.r 0), none, none] [bx x0 x1 0] := by
    simp only [exS, evE, evT, evL, evI, evEs, evTs, evO, v_bind_ok, v_bind_exc, v_bindG_ok, v_bindG_exc, v_then_nx, v_fo_nx, v_catch_nx, v_then_ret, v_fo_ret, v_catch_ret, v_then_brk, v_fo_brk, v_catch_brk, v_then_cnt, v_fo_cnt, v_catch_cnt, v_then_exc, v_fo_exc, v_catch_exc, v_turnB, v_turnS, v_lc_t, v_lc_f, v_ofO, v_data, v_binS, v_bin2, v_add, v_sub, v_mul, v_fdiv, v_mod, v_addT, v_cmpS, v_cmpW_eq, v_cmpW_ne, v_cmpW_lt, v_cmpW_le, v_cmpW_gt, v_cmpW_ge, v_cmpW_inn, v_cmpW_nin, v_cmpW_isn, v_cmpW_nisn, v_cmp2, v_eq, v_ne, v_lt, v_le, v_gt, v_ge, v_inn_lst, v_nin_lst, v_inn_tup, v_nin_tup, v_chnS_t, v_chnS_f, v_chnT_t, v_chnT_f, v_orS_t, v_orS_f, v_orT_t, v_orT_f, v_andT_t, v_andT_f, v_if_t, v_if_f, v_notS, v_negS, v_idxS, v_idxW, v_idx2, v_items_v, v_items_r, v_itemsC_l, v_itemsC_f, v_itemsD_l, v_itemsD_t, v_view_v, v_view_r, v_viewC_l, v_viewC_f, v_dats_c, v_dats_n, v_boolOf, v_intOf, v_varO_v, v_varO_r, v_exatO_i, v_exatO_n, v_exatO_t, v_exatO_l, v_exatO_b, v_tupS, v_slcS, v_slcD_t, v_slcD_l, v_frzS, v_livS, v_callS, v_call2, v_args_n, v_args_a, v_args_d, v_args2, v_callW_f, v_allV_n, v_allV_c, v_pure_ok, v_pure_exc, v_bltS, v_len, v_int_i, v_int_b, v_abs, v_tuple, v_tupI, v_isint, v_isbool, v_isstr, v_isseq, v_kind_v, v_kind_r, v_kindC_l, v_kindC_f, v_isInt_non, v_isInt_bl, v_isInt_int, v_isInt_str, v_isInt_tup, v_isInt_lst, v_isBool_non, v_isBool_bl, v_isBool_int, v_isBool_str, v_isBool_tup, v_isBool_lst, v_isStr_non, v_isStr_bl, v_isStr_int, v_isStr_str, v_isStr_tup, v_isStr_lst, v_isSeq_non, v_isSeq_bl, v_isSeq_int, v_isSeq_str, v_isSeq_tup, v_isSeq_lst, v_popS, v_appS, v_appC, v_needL, v_lstOf, v_itemsS, v_listS, v_storeS, v_setIt, v_setC, v_envS, v_tg_n, v_tg_c, v_raisS, v_kept_n, v_kept_v, v_named_s, v_named_n, v_gone_ret, v_gone_nx, v_foS, v_lcS, v_frozen_v, v_frozenD_l, v_frozenD_t, v_wipe_n, v_wipe_c, v_back_ret, v_back_nx, v_back_exc, List.getElem?_cons_zero, List.getElem?_cons_succ, List.set_cons_zero, List.set_cons_succ, Option.map_some, Option.map_none, Option.bind_some, Option.bind_none, List.map_cons, List.map_nil, List.length_cons, List.length_nil, if_true, if_false, reduceIte, Bool.not_true, Bool.not_false, eb]
  have eI : evI (cx 29) [2] (.rng1 (.lit (.int 36))) [some (.v (.lst (ns.map .int))), some (.r 0), none, none] [bx x0 x1 0] = .ok (.fix ((rangeW 0 36).map fun w => [w])) [bx x0 x1 0] := by kernel_rfl
  obtain ⟨env', st', hI, ef⟩ := fo_inv (tg := [2]) (b := fun env st => exSs (cx 29) (.cons (.asg 3 (.call false 2 2 [] [.a 0, .a 1] (.cons (.var 1) (.cons (.frz (.disp (.cons (.lit (.int 0)) (.cons (.neg (.lit (.int 1))) (.cons (.lit .non) (.cons (.lit (.str [119, 111, 114, 100, 115])) (.cons (.tup (.cons (.lit (.int 1)) (.cons (.lit (.int 2)) .nil))) (.cons (.frz (.disp (.cons (.lit (.int 3)) .nil))) (.cons (.lit (.bl true)) (.cons (.lit (.int 7)) .nil)))))))))) .nil)))) (.cons (.ite (.orr (.cmp .ne (.call true 9 2 [] [.a 0, .a 1] (.cons (.var 2) (.cons (.var 3) .nil))) (.tup (.cons (.var 2) (.cons (.var 3) .nil)))) (.one (.nott (.vv (.call true 10 2 [] [.a 0, .a 1] (.cons (.var 2) (.cons (.var 3) .nil))))))) (.cons (.ret (.lit (.bl false))) .nil) .nil) .nil)) env st) (fun w : W => [w]) (Iv (.lst (ns.map .int))) (rangeW 0 36) [some (.v (.lst (ns.map .int))), some (.r 0), none, none] [bx x0 x1 0]
    ⟨none, none, x0, x1, 0, rfl, rfl⟩ fun w hw env st hI => by
      obtain ⟨n, hn, rfl⟩ := mem_range hw
      exact body _ n hn env st hI
  obtain ⟨z2, z3, y0, y1, y2, rfl, rfl⟩ := hI
  refine ⟨[bx y0 y1 y2], ?_⟩
  show backS (exSs (cx 29) c_law [some (.v (.lst (ns.map .int))), none, none, none] []) = _
  unfold c_law
  rw [exSs, s0, v_then_nx, exSs, exS, eI, v_bindG_ok, v_foS, ef, v_then_nx]
  kernel_rfl
end PfLaw
set_option Elab.async false
set_option linter.all false
set_option maxRecDepth 100000
set_option maxHeartbeats 0
namespace PfLaw
open PySem PySem.Spec PyProof.Rows L2 Pf
def top (i : Nat) : Stmt := PySem.Challenge.pw_nobodymeets_k00_whole_errors_and_what_th.main.body.getD i (.Pass ⟨0, 0, 0, 0⟩)
def d_law_box : He.DefD := ⟨("_law_box", none), "_law_box", "_law_box", L2.defArgs (top 39), L2.defBody (top 39), L2.defScope (top 39), [], []⟩
def s_law_box : List (Nat × List Str × List Ag) := [(2, [], [.a 0, .a 1])]
def d_law_take : He.DefD := ⟨("_law_take", none), "_law_take", "_law_take", L2.defArgs (top 40), L2.defBody (top 40), L2.defScope (top 40), [], []⟩
def s_law_take : List (Nat × List Str × List Ag) := [(2, [], [.a 0, .a 1])]
def d_law_pick : He.DefD := ⟨("_law_pick", none), "_law_pick", "_law_pick", L2.defArgs (top 41), L2.defBody (top 41), L2.defScope (top 41), [], []⟩
def s_law_pick : List (Nat × List Str × List Ag) := [(2, [], [.a 0, .a 1])]
def d_law_raise_a : He.DefD := ⟨("_law_raise_a", none), "_law_raise_a", "_law_raise_a", L2.defArgs (top 42), L2.defBody (top 42), L2.defScope (top 42), [], []⟩
def s_law_raise_a : List (Nat × List Str × List Ag) := [(2, [], [.a 0, .a 1])]
def d_law_raise_b : He.DefD := ⟨("_law_raise_b", none), "_law_raise_b", "_law_raise_b", L2.defArgs (top 43), L2.defBody (top 43), L2.defScope (top 43), [], []⟩
def s_law_raise_b : List (Nat × List Str × List Ag) := [(2, [], [.a 0, .a 1])]
def d_law_raise_c : He.DefD := ⟨("_law_raise_c", none), "_law_raise_c", "_law_raise_c", L2.defArgs (top 44), L2.defBody (top 44), L2.defScope (top 44), [], []⟩
def s_law_raise_c : List (Nat × List Str × List Ag) := [(2, [], [.a 0, .a 1])]
def d_law_raise : He.DefD := ⟨("_law_raise", none), "_law_raise", "_law_raise", L2.defArgs (top 45), L2.defBody (top 45), L2.defScope (top 45), [], []⟩
def s_law_raise : List (Nat × List Str × List Ag) := [(2, [], [.a 0, .a 1])]
def d_law_caught_a : He.DefD := ⟨("_law_caught_a", none), "_law_caught_a", "_law_caught_a", L2.defArgs (top 46), L2.defBody (top 46), L2.defScope (top 46), [], []⟩
def s_law_caught_a : List (Nat × List Str × List Ag) := [(2, [], [.a 0, .a 1])]
def d_law_caught_b : He.DefD := ⟨("_law_caught_b", none), "_law_caught_b", "_law_caught_b", L2.defArgs (top 47), L2.defBody (top 47), L2.defScope (top 47), [], []⟩
def s_law_caught_b : List (Nat × List Str × List Ag) := [(2, [], [.a 0, .a 1])]
def d_law_caught_c : He.DefD := ⟨("_law_caught_c", none), "_law_caught_c", "_law_caught_c", L2.defArgs (top 48), L2.defBody (top 48), L2.defScope (top 48), [], []⟩
def s_law_caught_c : List (Nat × List Str × List Ag) := [(2, [], [.a 0, .a 1])]
def d_law_is_base : He.DefD := ⟨("_law_is_base", none), "_law_is_base", "_law_is_base", L2.defArgs (top 49), L2.defBody (top 49), L2.defScope (top 49), [], []⟩
def s_law_is_base : List (Nat × List Str × List Ag) := [(2, [], [.a 0, .a 1])]
def d_law : He.DefD := ⟨("law", none), "law", "law", L2.defArgs (top 50), L2.defBody (top 50), L2.defScope (top 50), [], []⟩
def s_law : List (Nat × List Str × List Ag) := []
def dfs : List He.DefD := [d_law_box, d_law_take, d_law_pick, d_law_raise_a, d_law_raise_b, d_law_raise_c, d_law_raise, d_law_caught_a, d_law_caught_b, d_law_caught_c, d_law_is_base, d_law]
def shs : List (List (Nat × List Str × List Ag)) := [s_law_box, s_law_take, s_law_pick, s_law_raise_a, s_law_raise_b, s_law_raise_c, s_law_raise, s_law_caught_a, s_law_caught_b, s_law_caught_c, s_law_is_base, s_law]
def hd : Hd := ⟨5, "HallError", [(("InvalidText" : PySem.Str), iniOf "InvalidText.__init__" (top 2)), (("InvalidHall" : PySem.Str), iniOf "InvalidHall.__init__" (top 3)), (("InvalidCell" : PySem.Str), iniOf "InvalidCell.__init__" (top 4)), (("InvalidLot" : PySem.Str), iniOf "InvalidLot.__init__" (top 5)), (("InvalidWays" : PySem.Str), iniOf "InvalidWays.__init__" (top 6)), (("InvalidWay" : PySem.Str), iniOf "InvalidWay.__init__" (top 7)), (("InvalidTies" : PySem.Str), iniOf "InvalidTies.__init__" (top 8)), (("InvalidBlocks" : PySem.Str), iniOf "InvalidBlocks.__init__" (top 9)), (("InvalidRobots" : PySem.Str), iniOf "InvalidRobots.__init__" (top 10)), (("InvalidPlan" : PySem.Str), iniOf "InvalidPlan.__init__" (top 11)), (("InvalidTask" : PySem.Str), iniOf "InvalidTask.__init__" (top 12)), (("InvalidOrders" : PySem.Str), iniOf "InvalidOrders.__init__" (top 13)), (("InvalidStanding" : PySem.Str), iniOf "InvalidStanding.__init__" (top 14)), (("InvalidHolds" : PySem.Str), iniOf "InvalidHolds.__init__" (top 15)), (("InvalidLetter" : PySem.Str), iniOf "InvalidLetter.__init__" (top 16)), (("InvalidBook" : PySem.Str), iniOf "InvalidBook.__init__" (top 17)), (("InvalidScript" : PySem.Str), iniOf "InvalidScript.__init__" (top 18)), (("InvalidStretches" : PySem.Str), iniOf "InvalidStretches.__init__" (top 19)), (("InvalidTable" : PySem.Str), iniOf "InvalidTable.__init__" (top 20)), (("InvalidGoods" : PySem.Str), iniOf "InvalidGoods.__init__" (top 21)), (("InvalidStock" : PySem.Str), iniOf "InvalidStock.__init__" (top 22)), (("InvalidDeeds" : PySem.Str), iniOf "InvalidDeeds.__init__" (top 23)), (("InvalidWants" : PySem.Str), iniOf "InvalidWants.__init__" (top 24)), (("InvalidComings" : PySem.Str), iniOf "InvalidComings.__init__" (top 25)), (("InvalidLots" : PySem.Str), iniOf "InvalidLots.__init__" (top 26)), (("InvalidLines" : PySem.Str), iniOf "InvalidLines.__init__" (top 27)), (("InvalidHomes" : PySem.Str), iniOf "InvalidHomes.__init__" (top 28)), (("InvalidLanes" : PySem.Str), iniOf "InvalidLanes.__init__" (top 29)), (("InvalidPrices" : PySem.Str), iniOf "InvalidPrices.__init__" (top 30)), (("InvalidRoutes" : PySem.Str), iniOf "InvalidRoutes.__init__" (top 31)), (("InvalidPicture" : PySem.Str), iniOf "InvalidPicture.__init__" (top 32)), (("InvalidIndex" : PySem.Str), iniOf "InvalidIndex.__init__" (top 33)), (("Refused" : PySem.Str), iniOf "Refused.__init__" (top 34)), (("InvalidSize" : PySem.Str), iniOf "InvalidSize.__init__" (top 35)), (("NoRobot" : PySem.Str), iniOf "NoRobot.__init__" (top 36)), (("InvalidCommand" : PySem.Str), iniOf "InvalidCommand.__init__" (top 37))], dfs, shs, [], ["abs", "int", "len", "range"], PySem.Challenge.pw_nobodymeets_k00_whole_errors_and_what_th.main.file⟩
theorem fs_law_box : FnScope ["_law_script", "_law_k", "_law_cell"] ["_law_script", "_law_k"] d_law_box.scope := ⟨rfl, rfl, rfl, by decide +kernel, rfl, by decide +kernel, by decide +kernel⟩
theorem ok_law_box : okSs hd.tb ["_law_script", "_law_k", "_law_cell"] c_law_box true d_law_box.scope d_law_box.body = true := by decide +kernel
theorem bi_law_box (K : PySem.W.Frag) (a : Addr) (fdv : FuncData) (F : FunD K d_law_box.name d_law_box.qual d_law_box.params d_law_box.body d_law_box.scope [] [] a fdv) : ∀ q ∈ s_law_box, BindF K fdv ["_law_script", "_law_k"] q.1 q.2.1 q.2.2 := List.forall_mem_cons.2 ⟨bindF0 F fun _ _ _ _ _ _ us ws h1 h2 => match us, ws, h1, h2 with | [u0, u1], [], _, _ => ⟨[u0, u1], rfl, (.a rfl (.a rfl .nil))⟩, List.forall_mem_nil _⟩
theorem df_law_box : DefS hd.tb ⟨2, 3, c_law_box⟩ d_law_box s_law_box := ⟨rfl, ["_law_script", "_law_k", "_law_cell"], ["_law_script", "_law_k"], fs_law_box, ok_law_box, rfl, rfl, fun K a fdv F => bi_law_box K a fdv F⟩
theorem fs_law_take : FnScope ["_law_box_here", "_law_many", "_law_digit", "_law_raw"] ["_law_box_here", "_law_many"] d_law_take.scope := ⟨rfl, rfl, rfl, by decide +kernel, rfl, by decide +kernel, by decide +kernel⟩
theorem ok_law_take : okSs hd.tb ["_law_box_here", "_law_many", "_law_digit", "_law_raw"] c_law_take true d_law_take.scope d_law_take.body = true := by decide +kernel
theorem bi_law_take (K : PySem.W.Frag) (a : Addr) (fdv : FuncData) (F : FunD K d_law_take.name d_law_take.qual d_law_take.params d_law_take.body d_law_take.scope [] [] a fdv) : ∀ q ∈ s_law_take, BindF K fdv ["_law_box_here", "_law_many"] q.1 q.2.1 q.2.2 := List.forall_mem_cons.2 ⟨bindF0 F fun _ _ _ _ _ _ us ws h1 h2 => match us, ws, h1, h2 with | [u0, u1], [], _, _ => ⟨[u0, u1], rfl, (.a rfl (.a rfl .nil))⟩, List.forall_mem_nil _⟩
theorem df_law_take : DefS hd.tb ⟨2, 4, c_law_take⟩ d_law_take s_law_take := ⟨rfl, ["_law_box_here", "_law_many", "_law_digit", "_law_raw"], ["_law_box_here", "_law_many"], fs_law_take, ok_law_take, rfl, rfl, fun K a fdv F => bi_law_take K a fdv F⟩
theorem fs_law_pick : FnScope ["_law_box_here", "_law_some"] ["_law_box_here", "_law_some"] d_law_pick.scope := ⟨rfl, rfl, rfl, by decide +kernel, rfl, by decide +kernel, by decide +kernel⟩
theorem ok_law_pick : okSs hd.tb ["_law_box_here", "_law_some"] c_law_pick true d_law_pick.scope d_law_pick.body = true := by decide +kernel
theorem bi_law_pick (K : PySem.W.Frag) (a : Addr) (fdv : FuncData) (F : FunD K d_law_pick.name d_law_pick.qual d_law_pick.params d_law_pick.body d_law_pick.scope [] [] a fdv) : ∀ q ∈ s_law_pick, BindF K fdv ["_law_box_here", "_law_some"] q.1 q.2.1 q.2.2 := List.forall_mem_cons.2 ⟨bindF0 F fun _ _ _ _ _ _ us ws h1 h2 => match us, ws, h1, h2 with | [u0, u1], [], _, _ => ⟨[u0, u1], rfl, (.a rfl (.a rfl .nil))⟩, List.forall_mem_nil _⟩
theorem df_law_pick : DefS hd.tb ⟨2, 2, c_law_pick⟩ d_law_pick s_law_pick := ⟨rfl, ["_law_box_here", "_law_some"], ["_law_box_here", "_law_some"], fs_law_pick, ok_law_pick, rfl, rfl, fun K a fdv F => bi_law_pick K a fdv F⟩
theorem fs_law_raise_a : FnScope ["_law_number", "_law_thing"] ["_law_number", "_law_thing"] d_law_raise_a.scope := ⟨rfl, rfl, rfl, by decide +kernel, rfl, by decide +kernel, by decide +kernel⟩
theorem ok_law_raise_a : okSs hd.tb ["_law_number", "_law_thing"] c_law_raise_a true d_law_raise_a.scope d_law_raise_a.body = true := by decide +kernel
theorem bi_law_raise_a (K : PySem.W.Frag) (a : Addr) (fdv : FuncData) (F : FunD K d_law_raise_a.name d_law_raise_a.qual d_law_raise_a.params d_law_raise_a.body d_law_raise_a.scope [] [] a fdv) : ∀ q ∈ s_law_raise_a, BindF K fdv ["_law_number", "_law_thing"] q.1 q.2.1 q.2.2 := List.forall_mem_cons.2 ⟨bindF0 F fun _ _ _ _ _ _ us ws h1 h2 => match us, ws, h1, h2 with | [u0, u1], [], _, _ => ⟨[u0, u1], rfl, (.a rfl (.a rfl .nil))⟩, List.forall_mem_nil _⟩
theorem df_law_raise_a : DefS hd.tb ⟨2, 2, c_law_raise_a⟩ d_law_raise_a s_law_raise_a := ⟨rfl, ["_law_number", "_law_thing"], ["_law_number", "_law_thing"], fs_law_raise_a, ok_law_raise_a, rfl, rfl, fun K a fdv F => bi_law_raise_a K a fdv F⟩
theorem fs_law_raise_b : FnScope ["_law_number", "_law_thing"] ["_law_number", "_law_thing"] d_law_raise_b.scope := ⟨rfl, rfl, rfl, by decide +kernel, rfl, by decide +kernel, by decide +kernel⟩
theorem ok_law_raise_b : okSs hd.tb ["_law_number", "_law_thing"] c_law_raise_b true d_law_raise_b.scope d_law_raise_b.body = true := by decide +kernel
theorem bi_law_raise_b (K : PySem.W.Frag) (a : Addr) (fdv : FuncData) (F : FunD K d_law_raise_b.name d_law_raise_b.qual d_law_raise_b.params d_law_raise_b.body d_law_raise_b.scope [] [] a fdv) : ∀ q ∈ s_law_raise_b, BindF K fdv ["_law_number", "_law_thing"] q.1 q.2.1 q.2.2 := List.forall_mem_cons.2 ⟨bindF0 F fun _ _ _ _ _ _ us ws h1 h2 => match us, ws, h1, h2 with | [u0, u1], [], _, _ => ⟨[u0, u1], rfl, (.a rfl (.a rfl .nil))⟩, List.forall_mem_nil _⟩
theorem df_law_raise_b : DefS hd.tb ⟨2, 2, c_law_raise_b⟩ d_law_raise_b s_law_raise_b := ⟨rfl, ["_law_number", "_law_thing"], ["_law_number", "_law_thing"], fs_law_raise_b, ok_law_raise_b, rfl, rfl, fun K a fdv F => bi_law_raise_b K a fdv F⟩
theorem fs_law_raise_c : FnScope ["_law_number", "_law_thing"] ["_law_number", "_law_thing"] d_law_raise_c.scope := ⟨rfl, rfl, rfl, by decide +kernel, rfl, by decide +kernel, by decide +kernel⟩
theorem ok_law_raise_c : okSs hd.tb ["_law_number", "_law_thing"] c_law_raise_c true d_law_raise_c.scope d_law_raise_c.body = true := by decide +kernel
theorem bi_law_raise_c (K : PySem.W.Frag) (a : Addr) (fdv : FuncData) (F : FunD K d_law_raise_c.name d_law_raise_c.qual d_law_raise_c.params d_law_raise_c.body d_law_raise_c.scope [] [] a fdv) : ∀ q ∈ s_law_raise_c, BindF K fdv ["_law_number", "_law_thing"] q.1 q.2.1 q.2.2 := List.forall_mem_cons.2 ⟨bindF0 F fun _ _ _ _ _ _ us ws h1 h2 => match us, ws, h1, h2 with | [u0, u1], [], _, _ => ⟨[u0, u1], rfl, (.a rfl (.a rfl .nil))⟩, List.forall_mem_nil _⟩
theorem df_law_raise_c : DefS hd.tb ⟨2, 2, c_law_raise_c⟩ d_law_raise_c s_law_raise_c := ⟨rfl, ["_law_number", "_law_thing"], ["_law_number", "_law_thing"], fs_law_raise_c, ok_law_raise_c, rfl, rfl, fun K a fdv F => bi_law_raise_c K a fdv F⟩
theorem fs_law_raise : FnScope ["_law_number", "_law_thing"] ["_law_number", "_law_thing"] d_law_raise.scope := ⟨rfl, rfl, rfl, by decide +kernel, rfl, by decide +kernel, by decide +kernel⟩
theorem ok_law_raise : okSs hd.tb ["_law_number", "_law_thing"] c_law_raise true d_law_raise.scope d_law_raise.body = true := by decide +kernel
theorem bi_law_raise (K : PySem.W.Frag) (a : Addr) (fdv : FuncData) (F : FunD K d_law_raise.name d_law_raise.qual d_law_raise.params d_law_raise.body d_law_raise.scope [] [] a fdv) : ∀ q ∈ s_law_raise, BindF K fdv ["_law_number", "_law_thing"] q.1 q.2.1 q.2.2 := List.forall_mem_cons.2 ⟨bindF0 F fun _ _ _ _ _ _ us ws h1 h2 => match us, ws, h1, h2 with | [u0, u1], [], _, _ => ⟨[u0, u1], rfl, (.a rfl (.a rfl .nil))⟩, List.forall_mem_nil _⟩
theorem df_law_raise : DefS hd.tb ⟨2, 2, c_law_raise⟩ d_law_raise s_law_raise := ⟨rfl, ["_law_number", "_law_thing"], ["_law_number", "_law_thing"], fs_law_raise, ok_law_raise, rfl, rfl, fun K a fdv F => bi_law_raise K a fdv F⟩
theorem fs_law_caught_a : FnScope ["_law_number", "_law_thing", "e"] ["_law_number", "_law_thing"] d_law_caught_a.scope := ⟨rfl, rfl, rfl, by decide +kernel, rfl, by decide +kernel, by decide +kernel⟩
theorem ok_law_caught_a : okSs hd.tb ["_law_number", "_law_thing", "e"] c_law_caught_a true d_law_caught_a.scope d_law_caught_a.body = true := by decide +kernel
theorem bi_law_caught_a (K : PySem.W.Frag) (a : Addr) (fdv : FuncData) (F : FunD K d_law_caught_a.name d_law_caught_a.qual d_law_caught_a.params d_law_caught_a.body d_law_caught_a.scope [] [] a fdv) : ∀ q ∈ s_law_caught_a, BindF K fdv ["_law_number", "_law_thing"] q.1 q.2.1 q.2.2 := List.forall_mem_cons.2 ⟨bindF0 F fun _ _ _ _ _ _ us ws h1 h2 => match us, ws, h1, h2 with | [u0, u1], [], _, _ => ⟨[u0, u1], rfl, (.a rfl (.a rfl .nil))⟩, List.forall_mem_nil _⟩
theorem df_law_caught_a : DefS hd.tb ⟨2, 3, c_law_caught_a⟩ d_law_caught_a s_law_caught_a := ⟨rfl, ["_law_number", "_law_thing", "e"], ["_law_number", "_law_thing"], fs_law_caught_a, ok_law_caught_a, rfl, rfl, fun K a fdv F => bi_law_caught_a K a fdv F⟩
theorem fs_law_caught_b : FnScope ["_law_number", "_law_thing", "e"] ["_law_number", "_law_thing"] d_law_caught_b.scope := ⟨rfl, rfl, rfl, by decide +kernel, rfl, by decide +kernel, by decide +kernel⟩
theorem ok_law_caught_b : okSs hd.tb ["_law_number", "_law_thing", "e"] c_law_caught_b true d_law_caught_b.scope d_law_caught_b.body = true := by decide +kernel
theorem bi_law_caught_b (K : PySem.W.Frag) (a : Addr) (fdv : FuncData) (F : FunD K d_law_caught_b.name d_law_caught_b.qual d_law_caught_b.params d_law_caught_b.body d_law_caught_b.scope [] [] a fdv) : ∀ q ∈ s_law_caught_b, BindF K fdv ["_law_number", "_law_thing"] q.1 q.2.1 q.2.2 := List.forall_mem_cons.2 ⟨bindF0 F fun _ _ _ _ _ _ us ws h1 h2 => match us, ws, h1, h2 with | [u0, u1], [], _, _ => ⟨[u0, u1], rfl, (.a rfl (.a rfl .nil))⟩, List.forall_mem_nil _⟩
theorem df_law_caught_b : DefS hd.tb ⟨2, 3, c_law_caught_b⟩ d_law_caught_b s_law_caught_b := ⟨rfl, ["_law_number", "_law_thing", "e"], ["_law_number", "_law_thing"], fs_law_caught_b, ok_law_caught_b, rfl, rfl, fun K a fdv F => bi_law_caught_b K a fdv F⟩
theorem fs_law_caught_c : FnScope ["_law_number", "_law_thing", "e"] ["_law_number", "_law_thing"] d_law_caught_c.scope := ⟨rfl, rfl, rfl, by decide +kernel, rfl, by decide +kernel, by decide +kernel⟩
theorem ok_law_caught_c : okSs hd.tb ["_law_number", "_law_thing", "e"] c_law_caught_c true d_law_caught_c.scope d_law_caught_c.body = true := by decide +kernel
theorem bi_law_caught_c (K : PySem.W.Frag) (a : Addr) (fdv : FuncData) (F : FunD K d_law_caught_c.name d_law_caught_c.qual d_law_caught_c.params d_law_caught_c.body d_law_caught_c.scope [] [] a fdv) : ∀ q ∈ s_law_caught_c, BindF K fdv ["_law_number", "_law_thing"] q.1 q.2.1 q.2.2 := List.forall_mem_cons.2 ⟨bindF0 F fun _ _ _ _ _ _ us ws h1 h2 => match us, ws, h1, h2 with | [u0, u1], [], _, _ => ⟨[u0, u1], rfl, (.a rfl (.a rfl .nil))⟩, List.forall_mem_nil _⟩
theorem df_law_caught_c : DefS hd.tb ⟨2, 3, c_law_caught_c⟩ d_law_caught_c s_law_caught_c := ⟨rfl, ["_law_number", "_law_thing", "e"], ["_law_number", "_law_thing"], fs_law_caught_c, ok_law_caught_c, rfl, rfl, fun K a fdv F => bi_law_caught_c K a fdv F⟩
theorem fs_law_is_base : FnScope ["_law_number", "_law_thing"] ["_law_number", "_law_thing"] d_law_is_base.scope := ⟨rfl, rfl, rfl, by decide +kernel, rfl, by decide +kernel, by decide +kernel⟩
theorem ok_law_is_base : okSs hd.tb ["_law_number", "_law_thing"] c_law_is_base true d_law_is_base.scope d_law_is_base.body = true := by decide +kernel
theorem bi_law_is_base (K : PySem.W.Frag) (a : Addr) (fdv : FuncData) (F : FunD K d_law_is_base.name d_law_is_base.qual d_law_is_base.params d_law_is_base.body d_law_is_base.scope [] [] a fdv) : ∀ q ∈ s_law_is_base, BindF K fdv ["_law_number", "_law_thing"] q.1 q.2.1 q.2.2 := List.forall_mem_cons.2 ⟨bindF0 F fun _ _ _ _ _ _ us ws h1 h2 => match us, ws, h1, h2 with | [u0, u1], [], _, _ => ⟨[u0, u1], rfl, (.a rfl (.a rfl .nil))⟩, List.forall_mem_nil _⟩
theorem df_law_is_base : DefS hd.tb ⟨2, 2, c_law_is_base⟩ d_law_is_base s_law_is_base := ⟨rfl, ["_law_number", "_law_thing"], ["_law_number", "_law_thing"], fs_law_is_base, ok_law_is_base, rfl, rfl, fun K a fdv F => bi_law_is_base K a fdv F⟩
theorem fs_law : FnScope ["_law_script", "_law_box_here", "_law_number", "_law_thing"] ["_law_script"] d_law.scope := ⟨rfl, rfl, rfl, by decide +kernel, rfl, by decide +kernel, by decide +kernel⟩
theorem ok_law : okSs hd.tb ["_law_script", "_law_box_here", "_law_number", "_law_thing"] c_law true d_law.scope d_law.body = true := by decide +kernel
theorem bi_law (K : PySem.W.Frag) (a : Addr) (fdv : FuncData) (F : FunD K d_law.name d_law.qual d_law.params d_law.body d_law.scope [] [] a fdv) : ∀ q ∈ s_law, BindF K fdv ["_law_script"] q.1 q.2.1 q.2.2 := List.forall_mem_nil _
theorem df_law : DefS hd.tb ⟨1, 4, c_law⟩ d_law s_law := ⟨rfl, ["_law_script", "_law_box_here", "_law_number", "_law_thing"], ["_law_script"], fs_law, ok_law, rfl, rfl, fun K a fdv F => bi_law K a fdv F⟩
theorem dfsOk : DefsS hd.tb fds hd.fn hd.sh := .cons df_law_box (.cons df_law_take (.cons df_law_pick (.cons df_law_raise_a (.cons df_law_raise_b (.cons df_law_raise_c (.cons df_law_raise (.cons df_law_caught_a (.cons df_law_caught_b (.cons df_law_caught_c (.cons df_law_is_base (.cons df_law (.nil))))))))))))
theorem hdOk : HdOk hd PySem.Challenge.rw_nobodymeets_k00_whole_errors_and_what_th.prog := ⟨by decide +kernel, List.forall_mem_cons.2 ⟨⟨rfl, rfl, rfl, by decide +kernel, rfl, fun _ => rfl, rfl, rfl, rfl, fun _ => by unfold pnOk; decide +kernel⟩, List.forall_mem_cons.2 ⟨⟨rfl, rfl, rfl, by decide +kernel, rfl, fun _ => rfl, rfl, rfl, rfl, fun _ => by unfold pnOk; decide +kernel⟩, List.forall_mem_cons.2 ⟨⟨rfl, rfl, rfl, by decide +kernel, rfl, fun _ => rfl, rfl, rfl, rfl, fun _ => by unfold pnOk; decide +kernel⟩, List.forall_mem_cons.2 ⟨⟨rfl, rfl, rfl, by decide +kernel, rfl, fun _ => rfl, rfl, rfl, rfl, fun _ => by unfold pnOk; decide +kernel⟩, List.forall_mem_cons.2 ⟨⟨rfl, rfl, rfl, by decide +kernel, rfl, fun _ => rfl, rfl, rfl, rfl, fun _ => by unfold pnOk; decide +kernel⟩, List.forall_mem_cons.2 ⟨⟨rfl, rfl, rfl, by decide +kernel, rfl, fun _ => rfl, rfl, rfl, rfl, fun _ => by unfold pnOk; decide +kernel⟩, List.forall_mem_cons.2 ⟨⟨rfl, rfl, rfl, by decide +kernel, rfl, fun _ => rfl, rfl, rfl, rfl, fun _ => by unfold pnOk; decide +kernel⟩, List.forall_mem_cons.2 ⟨⟨rfl, rfl, rfl, by decide +kernel, rfl, fun _ => rfl, rfl, rfl, rfl, fun _ => by unfold pnOk; decide +kernel⟩, List.forall_mem_cons.2 ⟨⟨rfl, rfl, rfl, by decide +kernel, rfl, fun _ => rfl, rfl, rfl, rfl, fun _ => by unfold pnOk; decide +kernel⟩, List.forall_mem_cons.2 ⟨⟨rfl, rfl, rfl, by decide +kernel, rfl, fun _ => rfl, rfl, rfl, rfl, fun _ => by unfold pnOk; decide +kernel⟩, List.forall_mem_cons.2 ⟨⟨rfl, rfl, rfl, by decide +kernel, rfl, fun _ => rfl, rfl, rfl, rfl, fun _ => by unfold pnOk; decide +kernel⟩, List.forall_mem_cons.2 ⟨⟨rfl, rfl, rfl, by decide +kernel, rfl, fun _ => rfl, rfl, rfl, rfl, fun _ => by unfold pnOk; decide +kernel⟩, List.forall_mem_cons.2 ⟨⟨rfl, rfl, rfl, by decide +kernel, rfl, fun _ => rfl, rfl, rfl, rfl, fun _ => by unfold pnOk; decide +kernel⟩, List.forall_mem_cons.2 ⟨⟨rfl, rfl, rfl, by decide +kernel, rfl, fun _ => rfl, rfl, rfl, rfl, fun _ => by unfold pnOk; decide +kernel⟩, List.forall_mem_cons.2 ⟨⟨rfl, rfl, rfl, by decide +kernel, rfl, fun _ => rfl, rfl, rfl, rfl, fun _ => by unfold pnOk; decide +kernel⟩, List.forall_mem_cons.2 ⟨⟨rfl, rfl, rfl, by decide +kernel, rfl, fun _ => rfl, rfl, rfl, rfl, fun _ => by unfold pnOk; decide +kernel⟩, List.forall_mem_cons.2 ⟨⟨rfl, rfl, rfl, by decide +kernel, rfl, fun _ => rfl, rfl, rfl, rfl, fun _ => by unfold pnOk; decide +kernel⟩, List.forall_mem_cons.2 ⟨⟨rfl, rfl, rfl, by decide +kernel, rfl, fun _ => rfl, rfl, rfl, rfl, fun _ => by unfold pnOk; decide +kernel⟩, List.forall_mem_cons.2 ⟨⟨rfl, rfl, rfl, by decide +kernel, rfl, fun _ => rfl, rfl, rfl, rfl, fun _ => by unfold pnOk; decide +kernel⟩, List.forall_mem_cons.2 ⟨⟨rfl, rfl, rfl, by decide +kernel, rfl, fun _ => rfl, rfl, rfl, rfl, fun _ => by unfold pnOk; decide +kernel⟩, List.forall_mem_cons.2 ⟨⟨rfl, rfl, rfl, by decide +kernel, rfl, fun _ => rfl, rfl, rfl, rfl, fun _ => by unfold pnOk; decide +kernel⟩, List.forall_mem_cons.2 ⟨⟨rfl, rfl, rfl, by decide +kernel, rfl, fun _ => rfl, rfl, rfl, rfl, fun _ => by unfold pnOk; decide +kernel⟩, List.forall_mem_cons.2 ⟨⟨rfl, rfl, rfl, by decide +kernel, rfl, fun _ => rfl, rfl, rfl, rfl, fun _ => by unfold pnOk; decide +kernel⟩, List.forall_mem_cons.2 ⟨⟨rfl, rfl, rfl, by decide +kernel, rfl, fun _ => rfl, rfl, rfl, rfl, fun _ => by unfold pnOk; decide +kernel⟩, List.forall_mem_cons.2 ⟨⟨rfl, rfl, rfl, by decide +kernel, rfl, fun _ => rfl, rfl, rfl, rfl, fun _ => by unfold pnOk; decide +kernel⟩, List.forall_mem_cons.2 ⟨⟨rfl, rfl, rfl, by decide +kernel, rfl, fun _ => rfl, rfl, rfl, rfl, fun _ => by unfold pnOk; decide +kernel⟩, List.forall_mem_cons.2 ⟨⟨rfl, rfl, rfl, by decide +kernel, rfl, fun _ => rfl, rfl, rfl, rfl, fun _ => by unfold pnOk; decide +kernel⟩, List.forall_mem_cons.2 ⟨⟨rfl, rfl, rfl, by decide +kernel, rfl, fun _ => rfl, rfl, rfl, rfl, fun _ => by unfold pnOk; decide +kernel⟩, List.forall_mem_cons.2 ⟨⟨rfl, rfl, rfl, by decide +kernel, rfl, fun _ => rfl, rfl, rfl, rfl, fun _ => by unfold pnOk; decide +kernel⟩, List.forall_mem_cons.2 ⟨⟨rfl, rfl, rfl, by decide +kernel, rfl, fun _ => rfl, rfl, rfl, rfl, fun _ => by unfold pnOk; decide +kernel⟩, List.forall_mem_cons.2 ⟨⟨rfl, rfl, rfl, by decide +kernel, rfl, fun _ => rfl, rfl, rfl, rfl, fun _ => by unfold pnOk; decide +kernel⟩, List.forall_mem_cons.2 ⟨⟨rfl, rfl, rfl, by decide +kernel, rfl, fun _ => rfl, rfl, rfl, rfl, fun _ => by unfold pnOk; decide +kernel⟩, List.forall_mem_cons.2 ⟨⟨rfl, rfl, rfl, by decide +kernel, rfl, fun _ => rfl, rfl, rfl, rfl, fun _ => by unfold pnOk; decide +kernel⟩, List.forall_mem_cons.2 ⟨⟨rfl, rfl, rfl, by decide +kernel, rfl, fun _ => rfl, rfl, rfl, rfl, fun _ => by unfold pnOk; decide +kernel⟩, List.forall_mem_cons.2 ⟨⟨rfl, rfl, rfl, by decide +kernel, rfl, fun _ => rfl, rfl, rfl, rfl, fun _ => by unfold pnOk; decide +kernel⟩, List.forall_mem_cons.2 ⟨⟨rfl, rfl, rfl, by decide +kernel, rfl, fun h => absurd rfl h, rfl, rfl, rfl, fun h => absurd rfl h⟩, List.forall_mem_nil _⟩⟩⟩⟩⟩⟩⟩⟩⟩⟩⟩⟩⟩⟩⟩⟩⟩⟩⟩⟩⟩⟩⟩⟩⟩⟩⟩⟩⟩⟩⟩⟩⟩⟩⟩⟩, rfl, rfl⟩
end PfLaw
set_option Elab.async false
set_option linter.all false
set_option maxRecDepth 100000
set_option maxHeartbeats 0
namespace PfLaw
open PySem PySem.Spec PyProof.Rows L2 Pf
def loose0 : List PySem.Str := [("__name__" : PySem.Str), ("HallError" : PySem.Str), ("InvalidText" : PySem.Str), ("InvalidHall" : PySem.Str), ("InvalidCell" : PySem.Str), ("InvalidLot" : PySem.Str), ("InvalidWays" : PySem.Str), ("InvalidWay" : PySem.Str), ("InvalidTies" : PySem.Str), ("InvalidBlocks" : PySem.Str), ("InvalidRobots" : PySem.Str), ("InvalidPlan" : PySem.Str), ("InvalidTask" : PySem.Str), ("InvalidOrders" : PySem.Str), ("InvalidStanding" : PySem.Str), ("InvalidHolds" : PySem.Str), ("InvalidLetter" : PySem.Str), ("InvalidBook" : PySem.Str), ("InvalidScript" : PySem.Str), ("InvalidStretches" : PySem.Str), ("InvalidTable" : PySem.Str), ("InvalidGoods" : PySem.Str), ("InvalidStock" : PySem.Str), ("InvalidDeeds" : PySem.Str), ("InvalidWants" : PySem.Str), ("InvalidComings" : PySem.Str), ("InvalidLots" : PySem.Str), ("InvalidLines" : PySem.Str), ("InvalidHomes" : PySem.Str), ("InvalidLanes" : PySem.Str), ("InvalidPrices" : PySem.Str), ("InvalidRoutes" : PySem.Str), ("InvalidPicture" : PySem.Str), ("InvalidIndex" : PySem.Str), ("Refused" : PySem.Str), ("InvalidSize" : PySem.Str), ("NoRobot" : PySem.Str), ("InvalidCommand" : PySem.Str), ("_law_box" : PySem.Str), ("_law_take" : PySem.Str)]
def loose1 : List PySem.Str := [("_law_pick" : PySem.Str), ("_law_raise_a" : PySem.Str), ("_law_raise_b" : PySem.Str), ("_law_raise_c" : PySem.Str), ("_law_raise" : PySem.Str), ("_law_caught_a" : PySem.Str), ("_law_caught_b" : PySem.Str), ("_law_caught_c" : PySem.Str), ("_law_is_base" : PySem.Str)]
def loose : List PySem.Str := loose0 ++ loose1
abbrev OR : PySem.W.OpenRow := PySem.W.OpenLaw.row PySem.Challenge.rw_nobodymeets_k00_whole_errors_and_what_th
theorem hrun (w : World) : HandSHeadRun.RunEq OR (PySem.W.view OR.prog [50]) (hookP hd) (obP hd) 14000 loose w := by
  intro os
  kernel_rfl
end PfLaw
set_option Elab.async false
set_option linter.all false
set_option maxRecDepth 100000
set_option maxHeartbeats 0
namespace PfLaw
open PySem PySem.Spec PyProof.Rows L2 Pf
theorem lawFacts {w : World} {K : PySem.W.Frag} {h : Heap} {mg : Str → Option Value} {f : Addr} (X : K.In h) (G : h.Ns mainGlobals mg) (hfa : mg ("law" : Str) = some (.ref f)) (c : SaysP hd K) :
    ∃ fd : FuncData, (∀ (s : Shared) (v : Value), BindsTo s fd ⟨[v], []⟩ [("_law_script", v)]) ∧ ∀ base : Heap, K.In base → base.Ns mainGlobals mg → FnOk PySem.Challenge.rw_nobodymeets_k00_whole_errors_and_what_th.prog w K mg base (CXU PySem.Challenge.rw_nobodymeets_k00_whole_errors_and_what_th.prog) 34 f fd ["_law_script"] (spLaw K fun ns => ns.length ≤ 63) :=
  law_facts (dl := d_law) (li := 11) (turns := 1000) (j := 29) c hdOk dfsOk X G rfl rfl rfl hfa (fun _ _ _ _ _ _ us hl => match us, hl with | [_], _ => rfl) rfl fs_law ok_law rfl rfl (fun ns h => Nat.le_trans h (by decide)) runAll
end PfLaw
open PySem PySem.W PySem.Calls PyProof.Rows
theorem PySem.Challenge.cw_nobodymeets_k00_whole_errors_and_what_th_holds : PySem.Challenge.rw_nobodymeets_k00_whole_errors_and_what_th.Holds := by
  w_on; o_law
  refine HandSHeadRun.head_any (r := OpenLaw.row PySem.Challenge.rw_nobodymeets_k00_whole_errors_and_what_th) (q := view (OpenLaw.row PySem.Challenge.rw_nobodymeets_k00_whole_errors_and_what_th).prog [50]) (H := Pf.hookP PfLaw.hd) (ob := Pf.obP PfLaw.hd) (M := 14000) (loose := PfLaw.loose) (d := HandSHeadRun.topDef (OpenLaw.row PySem.Challenge.rw_nobodymeets_k00_whole_errors_and_what_th).prog 50) (kwd := []) (Pf.obP_eq PfLaw.hd)
    (by kernel_rfl) (fun s => by kernel_rfl) PfLaw.hrun (by kernel_rfl) (by kernel_rfl) (by kernel_rfl) (by rfl) (by first | assumption | decide +kernel) (by decide +kernel) ⟨rfl, rfl, rfl, rfl, rfl, by decide +kernel⟩ ?hw ?hc
  case hw => w_witness2
  case hc =>
    refine L2.walk_ofE (l := PySem.Challenge.rw_nobodymeets_k00_whole_errors_and_what_th) (n := 63) (k := 34) (x := "_law_script") (CX := Pf.CXU PySem.Challenge.rw_nobodymeets_k00_whole_errors_and_what_th.prog) rfl (by decide) (by kernel_rfl) ⟨rfl, by decide, by decide⟩ ?F Pf.cxu_no
    intro w mg fa h Y G hmg0
    obtain ⟨K, KX, c⟩ := Y
    have hmg : mg ("law" : PySem.Str) = some (.ref fa) := by
      have e : (HandSHeadRun.topDef (OpenLaw.row PySem.Challenge.rw_nobodymeets_k00_whole_errors_and_what_th).prog 50).name = ("law" : PySem.Str) := by kernel_rfl
      rw [← e]
      exact hmg0
    obtain ⟨fd, hb, hF⟩ := PfLaw.lawFacts (w := w) KX G hmg c
    exact ⟨K, fd, _, KX, hb, fun H a ns hl _ hS => ⟨a, ns, rfl, hS, hl, fun _ => rfl⟩, hF⟩
