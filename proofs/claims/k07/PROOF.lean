import PyProof.Rows.All
import Wide.All
import OpenK.AllK
import Wide.FinOn
import HandS.ForMost
import HandS.Walk
import HandS.TupAny
import HandS.IsInst
import KE.SortData
import KE.DatumOrd
import KE.DataCmp
import HandS.Style
import PyProof.CollectStr
import HandS.RaiseMore
import KE.GoesNew
import HandS.Zip
import HandS.Head0
import HandS.Head1
import HandS.Head2
import HandS.HeadEnd
import HandS.HeadHook1
import HandS.HeadHook2
import HandS.Words
import HandS.Codes
import PySem.Challenge.RW_shownagain_k07_whole_texts_of_heaps
set_option Elab.async false
set_option linter.all false
set_option maxRecDepth 100000
set_option autoImplicit false
/-! Z0: the data D, the small language E, S, and what it computes -/
namespace Z
open PySem

/-- data: what the small language computes with -/
inductive D where
  | non | bl (b : Bool) | int (i : Int) | str (s : Str) | tup (xs : List D) | lst (xs : List D) | loc (n : Nat) | scr (xs : List D)
  deriving Inhabited
mutual
def D.py : D → PyData
  | .non => .none
  | .bl b => .bool b
  | .int i => .int i
  | .str s => .str s
  | .tup xs => .tuple (D.pys xs)
  | .lst xs => .list (D.pys xs)
  | .loc _ => .none
  | .scr _ => .none
def D.pys : List D → List PyData
  | [] => []
  | x :: xs => D.py x :: D.pys xs
end
mutual
/-- no place of the store in it -/
def D.dat : D → Bool
  | .tup xs => D.dats xs
  | .lst xs => D.dats xs
  | .loc _ => false
  | .scr _ => false
  | _ => true
def D.dats : List D → Bool
  | [] => true
  | x :: xs => D.dat x && D.dats xs
end
mutual
/-- nothing in it that is read alone -/
def D.cln : D → Bool
  | .tup xs => D.clns xs
  | .lst xs => D.clns xs
  | .scr _ => false
  | _ => true
def D.clns : List D → Bool
  | [] => true
  | x :: xs => D.cln x && D.clns xs
end
mutual
def D.dep : D → Nat
  | .tup xs => D.deps xs + 1
  | .lst xs => D.deps xs + 1
  | _ => 0
def D.deps : List D → Nat
  | [] => 0
  | x :: xs => max (D.dep x) (D.deps xs)
end

/-- a thing of the store -/
inductive SO where
  | lst (xs : List D)
  deriving Inhabited
abbrev Store := List SO
/-- an exception: its class, its fields -/
structure Ex where
  cls : Nat
  flds : List (Str × D)
inductive Res (α : Type) where
  | ok (a : α) (S : Store)
  | exc (x : Ex) (S : Store)
  | stuck
abbrev M (α : Type) := Store → Res α
def M.ret {α : Type} (a : α) : M α := fun S => .ok a S
def M.stk {α : Type} : M α := fun _ => .stuck
def M.bind {α β : Type} (m : M α) (f : α → M β) : M β := fun S => match m S with
  | .ok a S' => f a S'
  | .exc x S' => .exc x S'
  | .stuck => .stuck
instance : Monad M where
  pure := M.ret
  bind := M.bind

/-! ### heads -/
inductive BI where
  | len | all | any | sum | sorted | tuple | list | int | abs | min | max | str
  deriving DecidableEq, Repr, Inhabited
def BI.nm : BI → Str
  | .len => "len" | .all => "all" | .any => "any" | .sum => "sum" | .sorted => "sorted" | .tuple => "tuple" | .list => "list" | .int => "int" | .abs => "abs" | .min => "min" | .max => "max" | .str => "str"
inductive BT where
  | int | bool | str | tuple | list
  deriving DecidableEq, Repr, Inhabited
def BT.nm : BT → Str
  | .int => "int" | .bool => "bool" | .str => "str" | .tuple => "tuple" | .list => "list"
inductive MT where
  | join
  deriving DecidableEq, Repr, Inhabited
def MT.nm : MT → Str
  | .join => "join"
inductive Hd where
  | bin (op : Operator) | cmp (op : CmpOp) | neg | ix | slice (lo hi : Bool) | rev | bi (b : BI) | isi (t : BT) | isis (ts : List BT) | meth (m : MT) | tup | lst
  deriving DecidableEq, Repr, Inhabited
/-- what is walked -/
inductive SK where
  | val | range1 | range2 | enum | zip
  deriving DecidableEq, Repr, Inhabited
inductive Tg where
  | name (i : Nat)
  | tup (ts : List Tg)
  deriving Inhabited
inductive E where
  | const (d : D)
  | var (i : Nat)
  | glob (g : Nat)
  | op (h : Hd) (es : List E)
  | alloc (es : List E)
  | call (f : Nat) (es : List E)
  | callK (f n : Nat) (ks : List Str) (perm : List Nat) (es kes : List E)
  | chain (o1 o2 : CmpOp) (a b c : E)
  | not (a : E)
  | bool (conj : Bool) (es : List E)
  | ife (t a b : E)
  | comp (own : List Nat) (elt : E) (tg : Tg) (k : SK) (es : List E) (ifs : List E)
  deriving Inhabited
/-- a statement; m: read with the frame's own lists in view -/
inductive Cmd where
  | asg (m : Bool) (tg : Tg) (e : E)
  | own (i : Nat) (es : List E)
  | app (m : Bool) (i : Nat) (e : E)
  | setIx (o i v : E)
  | putIx (m : Bool) (i : Nat) (j v : E)
  | par (m : Bool) (is : List Nat) (es : List E)
  | ifs (m : Bool) (t : E) (a b : List Cmd)
  | for_ (tg : Tg) (k : SK) (es : List E) (body : List Cmd)
  | ret (m : Bool) (e : E)
  | expr (m : Bool) (e : E)
  | frz (i : Nat)
  | brk | cnt
  | pass
  | dead
  | whl (n : Nat) (m : Bool) (t : E) (body : List Cmd)
  deriving Inhabited

/-! ### operations on data -/
def okB (b : Bool) : M D := M.ret (.bl b)
def many : Nat := 200
/-- == of data -/
def dEq (a b : D) : Option Bool := if a.dat && b.dat && decide (min a.dep b.dep ≤ many) then some (PyData.eqv a.py b.py) else none
def alk (a b : D) : Bool := PySem.W.alike a.py b.py && (match a with | .non => false | _ => true)
def dLt (a b : D) : Option Bool := if a.dat && b.dat && alk a b && decide (min a.dep b.dep ≤ many) then some (PySem.W.dataLt a.py b.py) else none
def seqOf (S : Store) : D → Option (List D)
  | .tup xs => some xs
  | .lst xs => some xs
  | .scr xs => some xs
  | .loc n => match S[n]? with
    | some (.lst xs) => some xs
    | _ => none
  | _ => none
/-- a <= b -/
def dLe (a b : D) : Option Bool := if a.dat && b.dat && alk a b && decide (min a.dep b.dep ≤ many) then some (!PySem.W.dataLt b.py a.py) else none
def toB (o : Option Bool) : M D := match o with
  | some b => okB b
  | none => M.stk
def signs (z : Str) : List D := z.cps.toList.map fun c => .str ⟨#[c]⟩
def binSem : Operator → D → D → M D
  | .Add, .int a, .int b => M.ret (.int (a + b))
  | .Add, .str a, .str b => if a.length + b.length ≤ sizeLine then M.ret (.str (a ++ b)) else M.stk
  | .Add, .tup a, .tup b => if a.length + b.length ≤ sizeLine then M.ret (.tup (a ++ b)) else M.stk
  | .Add, .lst a, .lst b => if a.length + b.length ≤ sizeLine then M.ret (.lst (a ++ b)) else M.stk
  | .Sub, .int a, .int b => M.ret (.int (a - b))
  | .Mult, .int a, .int b => if a.natAbs < 2 ^ 64 ∨ b.natAbs < 2 ^ 64 then M.ret (.int (a * b)) else M.stk
  | .Mod, .int a, .int b => if 0 < b then M.ret (.int (a % b)) else M.stk
  | .FloorDiv, .int a, .int b => if 0 < b ∧ b < 1073741824 then M.ret (.int (a / b)) else M.stk
  | .Pow, .int a, .int b => if 0 ≤ b ∧ b ≤ 1000 ∧ a.natAbs < 2 ^ 64 then M.ret (.int (a ^ b.toNat)) else M.stk
  | _, _, _ => M.stk
def cmpSem : CmpOp → D → D → M D
  | .Eq, a, b => toB (dEq a b)
  | .NotEq, a, b => toB ((dEq a b).map (!·))
  | .Lt, .int a, .int b => okB (decide (a < b))
  | .LtE, .int a, .int b => okB (decide (a ≤ b))
  | .Gt, .int a, .int b => okB (decide (b < a))
  | .GtE, .int a, .int b => okB (decide (b ≤ a))
  | .Lt, a, b => toB (dLt a b)
  | .LtE, a, b => toB (dLe a b)
  | .Is, .bl a, .bl b => okB (decide (a = b))
  | .Is, a, .non => okB (match a with | .non => true | _ => false)
  | .IsNot, a, .non => okB (match a with | .non => false | _ => true)
  | .In, .str a, .str z => (match a.cps.toList with
    | [c] => okB (decide (c ∈ z.cps.toList))
    | _ => M.stk)
  | .In, a, .lst xs => if a.dat && D.dats xs && decide (a.dep ≤ many) then okB (xs.any fun x => PyData.eqv x.py a.py) else M.stk
  | .In, a, .tup xs => if a.dat && D.dats xs && decide (a.dep ≤ many) then okB (xs.any fun x => PyData.eqv x.py a.py) else M.stk
  | .NotIn, a, .lst xs => if a.dat && D.dats xs && decide (a.dep ≤ many) then okB (!xs.any fun x => PyData.eqv x.py a.py) else M.stk
  | .NotIn, a, .tup xs => if a.dat && D.dats xs && decide (a.dep ≤ many) then okB (!xs.any fun x => PyData.eqv x.py a.py) else M.stk
  | _, _, _ => M.stk
def at? (xs : List D) (i : Int) : M D := match L2.atI xs i with
  | some d => M.ret d
  | none => M.stk
def ixSem (a i : D) : M D := fun S => match i with
  | .int i => (match a with
    | .str z => (match L2.atI z.cps.toList i with
      | some c => .ok (.str ⟨#[c]⟩) S
      | none => .stuck)
    | _ => (match seqOf S a with
      | some xs => at? xs i S
      | none => .stuck))
  | _ => .stuck
def cut {α : Type} (xs : List α) (lo hi : Option Int) : List α := (xs.drop (HT.sIx xs.length 0 lo)).take (HT.sIx xs.length xs.length hi - HT.sIx xs.length 0 lo)
def sliceSem (a : D) (lo hi : Option Int) : M D := match a with
  | .tup xs => M.ret (.tup (cut xs lo hi))
  | .lst xs => M.ret (.lst (cut xs lo hi))
  | .scr xs => M.ret (.lst (cut xs lo hi))
  | .str z => M.ret (.str (L2.cutS z lo hi))
  | _ => M.stk
def isT (S : Store) : BT → D → Bool
  | .int, .int _ => true
  | .int, .bl _ => true
  | .bool, .bl _ => true
  | .str, .str _ => true
  | .tuple, .tup _ => true
  | .list, .lst _ => true
  | .list, .scr _ => true
  | .list, .loc n => (match S[n]? with
    | some (.lst _) => true
    | _ => false)
  | _, _ => false
/-- a thing of a known kind -/
def okT (S : Store) : D → Bool
  | .loc n => (match S[n]? with
    | some (.lst _) => true
    | _ => false)
  | _ => true
def allB : List D → Option (List Bool)
  | [] => some []
  | .bl b :: r => (allB r).map (b :: ·)
  | _ :: _ => none
def allI : List D → Option (List Int)
  | [] => some []
  | .int b :: r => (allI r).map (b :: ·)
  | _ :: _ => none
def allS : List D → Option (List Str)
  | [] => some []
  | .str b :: r => (allS r).map (b :: ·)
  | _ :: _ => none
abbrev leD : D → D → Bool := PySem.W.dataLe false D.py
def sortD (xs : List D) : List D := xs.mergeSort leD
def alikeD (xs : List D) : Bool := xs.all fun x => xs.all fun y => PySem.W.alike x.py y.py
/-- what the sort's look at the first items takes: tuples with an item, or neither None nor tuples -/
def sortable (xs : List D) : Bool := (xs.all fun x => match x with
  | .tup (_ :: _) => true
  | _ => false) || xs.all fun x => match x with
  | .non => false
  | .loc _ => false
  | .scr _ => false
  | .tup _ => false
  | _ => true
def sortOk (xs : List D) : Bool := D.dats xs && (alikeD xs && (sortable xs && decide (D.deps xs ≤ many)))
def strI (i : Int) : Str := toString i
def biSem : BI → List D → M D
  | .len, [a] => fun S => (match a with
    | .str z => .ok (.int z.length) S
    | _ => (match seqOf S a with
      | some xs => .ok (.int xs.length) S
      | none => .stuck))
  | .all, [.lst xs] => (match allB xs with
    | some bs => okB (bs.all id)
    | none => M.stk)
  | .any, [.lst xs] => (match allB xs with
    | some bs => okB (bs.any id)
    | none => M.stk)
  | .sum, [.lst xs] => (match allI xs with
    | some ns => M.ret (.int ns.sum)
    | none => M.stk)
  | .sorted, [a] => (match a with
    | .str z => M.ret (.lst (sortD (signs z)))
    | .lst xs => if sortOk xs = true then M.ret (.lst (sortD xs)) else M.stk
    | .tup xs => if sortOk xs = true then M.ret (.lst (sortD xs)) else M.stk
    | _ => M.stk)
  | .tuple, [a] => (match a with
    | .tup xs => M.ret (.tup xs)
    | .lst xs => M.ret (.tup xs)
    | _ => M.stk)
  | .list, [a] => (match a with
    | .tup xs => M.ret (.lst xs)
    | .lst xs => M.ret (.lst xs)
    | _ => M.stk)
  | .int, [.int i] => M.ret (.int i)
  | .int, [.str z] => (match PySem.intText? z with
    | some n => if z.length ≤ 640 then M.ret (.int n) else M.stk
    | none => M.stk)
  | .str, [.int i] => if i.natAbs.log2 < 1920 ∧ (strI i).length ≤ sizeLine ∧ PySem.PyData.strOk (strI i) = true then M.ret (.str (strI i)) else M.stk
  | .str, [.str z] => M.ret (.str z)
  | .max, [.int i, .int j] => M.ret (.int (if j > i then j else i))
  | .min, [.int i, .int j] => M.ret (.int (if j < i then j else i))
  | .abs, [.int i] => M.ret (.int (if i < 0 then -i else i))
  | _, _ => M.stk
def joinSem (sep : Str) (xs : List D) : M D := match allS xs with
  | some ys => if (ys.map (·.length)).sum + ys.length * sep.length ≤ sizeLine then M.ret (.str (PySem.Txt.join sep ys)) else M.stk
  | none => M.stk
def opSem : Hd → List D → M D
  | .bin o, [a, b] => binSem o a b
  | .cmp o, [a, b] => cmpSem o a b
  | .neg, [.int i] => M.ret (.int (-i))
  | .ix, [a, i] => ixSem a i
  | .slice true true, [a, .int lo, .int hi] => sliceSem a (some lo) (some hi)
  | .slice true false, [a, .int lo] => sliceSem a (some lo) none
  | .slice false true, [a, .int hi] => sliceSem a none (some hi)
  | .slice false false, [a] => sliceSem a none none
  | .rev, [.tup xs] => M.ret (.tup xs.reverse)
  | .bi b, ds => biSem b ds
  | .isi t, [a] => fun S => if okT S a = true then .ok (.bl (isT S t a)) S else .stuck
  | .isis ts, [a] => fun S => if okT S a = true then .ok (.bl (ts.any fun t => isT S t a)) S else .stuck
  | .meth .join, [.str z, .lst xs] => joinSem z xs
  | .tup, ds => if ds.length ≤ sizeLine then M.ret (.tup ds) else M.stk
  | .lst, ds => if ds.length ≤ sizeLine then M.ret (.lst ds) else M.stk
  | _, _ => M.stk
def truth (d : D) : M Bool := fun S => match d with
  | .bl b => .ok b S
  | _ => .stuck
/-- what a zip may walk -/
def sideOf : D → Option (List D)
  | .str z => some (signs z)
  | .tup xs => some xs
  | .lst xs => some xs
  | .scr xs => some xs
  | _ => none
def srcItems : SK → List D → M (List D)
  | .val, [a] => (match a with
    | .str z => M.ret (signs z)
    | .tup xs => M.ret xs
    | .lst xs => M.ret xs
    | .scr xs => M.ret xs
    | _ => M.stk)
  | .range1, [.int n] => if -(2 ^ 62) ≤ n ∧ n ≤ 16777216 then M.ret ((List.range n.toNat).map fun i => D.int (i : Nat)) else M.stk
  | .range2, [.int a, .int b] => if -(2 ^ 62) ≤ a ∧ a < 2 ^ 62 ∧ -(2 ^ 62) ≤ b ∧ b < 2 ^ 62 ∧ b - a ≤ 16777216 then M.ret ((List.range (b - a).toNat).map fun i => D.int (a + (i : Nat))) else M.stk
  | .enum, [.lst xs] => M.ret (xs.mapIdx fun i x => .tup [.int i, x])
  | .zip, [a, b] => (match sideOf a, sideOf b with
    | some xs, some ys => M.ret ((xs.zip ys).map fun p => .tup [p.1, p.2])
    | _, _ => M.stk)
  | _, _ => M.stk

/-! ### what an expression computes -/
abbrev Env := List (Option D)
def wipe (env : Env) : List Nat → Env
  | [] => env
  | v :: vs => (wipe env vs).set v none
mutual
/-- what a target stores, from the left -/
def assigns : Tg → D → Option (List (Nat × D))
  | .name i, d => some [(i, d)]
  | .tup ts, .tup ds => if ts.length = ds.length then assignsAll ts ds else none
  | .tup _, _ => none
def assignsAll : List Tg → List D → Option (List (Nat × D))
  | [], _ => some []
  | t :: ts, d :: ds => (assigns t d).bind fun a => (assignsAll ts ds).map fun r => a ++ r
  | _ :: _, [] => none
end
def setAll {α : Type} (l : List α) (as : List (Nat × α)) : List α := as.foldl (fun l p => l.set p.1 p.2) l
def bindT (t : Tg) (d : D) (env : Env) : Option Env := (assigns t d).map fun as => setAll env (as.map fun p => (p.1, some p.2))
/-- a comprehension's loop: f tells what a turn adds -/
def compLoop (f : D → M (Option D)) : List D → M (List D)
  | [] => M.ret []
  | x :: xs => M.bind (f x) fun o => M.bind (compLoop f xs) fun ys => M.ret (match o with
    | some y => y :: ys
    | none => ys)
/-- a call with keywords: the n positional values, then the keywords' k values in the parameters' order -/
def plc {α : Type} (n k : Nat) (perm : List Nat) (us ws : List α) : List α := if us.length = n ∧ ws.length = k then us ++ perm.filterMap (fun i => ws[i]?) else []
section
variable (gl : Nat → Option D) (cal : Nat → List D → M D)
mutual
def evalE : E → Env → M D
  | .const d, _ => M.ret d
  | .var i, env => (match env[i]? with
    | some (some d) => M.ret d
    | _ => M.stk)
  | .glob g, _ => (match gl g with
    | some d => M.ret d
    | none => M.stk)
  | .op h es, env => M.bind (evalEs es env) (opSem h)
  | .alloc es, env => M.bind (evalEs es env) fun ds S => if ds.length ≤ sizeLine ∧ D.clns ds = true then .ok (.loc S.length) (S ++ [.lst ds]) else .stuck
  | .call f es, env => M.bind (evalEs es env) (cal f)
  | .callK f n ks perm es kes, env => M.bind (evalEs es env) fun us => M.bind (evalEs kes env) fun ws => cal f (plc n ks.length perm us ws)
  | .chain o1 o2 a b c, env => M.bind (evalE a env) fun x => M.bind (evalE b env) fun y => M.bind (cmpSem o1 x y) fun k => M.bind (truth k) fun k => if k = true then M.bind (evalE c env) (cmpSem o2 y) else okB false
  | .not a, env => M.bind (evalE a env) fun d => M.bind (truth d) fun b => okB (!b)
  | .bool conj es, env => evalBool conj es env
  | .ife t a b, env => M.bind (evalE t env) fun d => M.bind (truth d) fun c => if c = true then evalE a env else evalE b env
  | .comp own elt tg k es ifs, env => M.bind (evalEs es env) fun ds => M.bind (srcItems k ds) fun items => M.bind (compLoop (fun x => match bindT tg x (wipe env own) with
    | some env' => M.bind (evalIfs ifs env') fun c => if c = true then M.bind (evalE elt env') fun y => M.ret (some y) else M.ret none
    | none => M.stk) items) fun ys => M.ret (.lst ys)
def evalEs : List E → Env → M (List D)
  | [], _ => M.ret []
  | e :: es, env => M.bind (evalE e env) fun d => M.bind (evalEs es env) fun ds => M.ret (d :: ds)
def evalBool : Bool → List E → Env → M D
  | _, [], _ => M.stk
  | _, [e], env => M.bind (evalE e env) fun d => M.bind (truth d) fun b => okB b
  | conj, e :: e2 :: es, env => M.bind (evalE e env) fun d => M.bind (truth d) fun b => if b = conj then evalBool conj (e2 :: es) env else okB b
def evalIfs : List E → Env → M Bool
  | [], _ => M.ret true
  | e :: es, env => M.bind (evalE e env) fun d => M.bind (truth d) fun b => if b = true then evalIfs es env else M.ret false
end
end

/-! ### what a statement does -/
inductive Slot where
  | no | val (d : D) | own (xs : List D)
  deriving Inhabited
abbrev Fr := List Slot
def Slot.str : Slot → Option D
  | .val d => some d
  | _ => none
def Slot.brw : Slot → Option D
  | .val d => some d
  | .own xs => some (.scr xs)
  | .no => none
def Fr.env (m : Bool) (fr : Fr) : Env := fr.map (if m then Slot.brw else Slot.str)
/-- what is read with the own lists in view does not keep them -/
def fitM (m : Bool) (d : D) : M D := if m = true ∧ d.cln = false then M.stk else M.ret d
def storeT (t : Tg) (d : D) (fr : Fr) : Option Fr := (assigns t d).map fun as => setAll fr (as.map fun p => (p.1, Slot.val p.2))
inductive Out where
  | nx (fr : Fr) | ret (d : D) | bk (fr : Fr) | ct (fr : Fr)
def forLoop (f : D → Fr → M Out) : List D → Fr → M Out
  | [], fr => M.ret (.nx fr)
  | x :: xs, fr => M.bind (f x fr) fun o => match o with
    | .nx fr' => forLoop f xs fr'
    | .ct fr' => forLoop f xs fr'
    | .bk fr' => M.ret (.nx fr')
    | .ret d => M.ret (.ret d)
/-- a while, at most n turns -/
def whileLoop (t : Fr → M Bool) (f : Fr → M Out) : Nat → Fr → M Out
  | 0, _ => M.stk
  | n + 1, fr => M.bind (t fr) fun c => if c = true then M.bind (f fr) fun o => (match o with
    | .nx fr' => whileLoop t f n fr'
    | .ct fr' => whileLoop t f n fr'
    | .bk fr' => M.ret (.nx fr')
    | .ret d => M.ret (.ret d)) else M.ret (.nx fr)
section
variable (gl : Nat → Option D) (cal : Nat → List D → M D)
def readE (m : Bool) (e : E) (fr : Fr) : M D := M.bind (evalE gl cal e (fr.env m)) (fitM m)
def readEs (m : Bool) (es : List E) (fr : Fr) : M (List D) := M.bind (evalEs gl cal es (fr.env m)) fun ds => if m = true ∧ D.clns ds = false then M.stk else M.ret ds
mutual
def exec : Cmd → Fr → M Out
  | .asg m tg e, fr => M.bind (readE gl cal m e fr) fun d => match storeT tg d fr with
    | some fr' => M.ret (.nx fr')
    | none => M.stk
  | .own i es, fr => M.bind (readEs gl cal true es fr) fun ds => if ds.length ≤ sizeLine then M.ret (.nx (fr.set i (.own ds))) else M.stk
  | .app m i e, fr => M.bind (readE gl cal m e fr) fun d => match fr[i]? with
    | some (.own xs) => if xs.length < sizeLine then M.ret (.nx (fr.set i (.own (xs ++ [d])))) else M.stk
    | _ => M.stk
  | .setIx o i v, fr => M.bind (readE gl cal true v fr) fun d => M.bind (readE gl cal true o fr) fun a => M.bind (readE gl cal true i fr) fun j S => match a, j with
    | .loc n, .int j => (match S[n]? with
      | some (.lst xs) => (match L2.ixN xs.length j with
        | some q => .ok (.nx fr) (S.set n (.lst (xs.set q d)))
        | none => .stuck)
      | _ => .stuck)
    | _, _ => .stuck
  | .putIx m i j v, fr => M.bind (readE gl cal m v fr) fun d => M.bind (readE gl cal true j fr) fun j => match fr[i]?, j with
    | some (.own xs), .int j => (match L2.ixN xs.length j with
      | some q => M.ret (.nx (fr.set i (.own (xs.set q d))))
      | none => M.stk)
    | _, _ => M.stk
  | .par m is es, fr => M.bind (readEs gl cal m es fr) fun ds => if ds.length = is.length then M.ret (.nx (setAll fr (is.zip (ds.map Slot.val)))) else M.stk
  | .ifs m t a b, fr => M.bind (readE gl cal m t fr) fun d => M.bind (truth d) fun c => if c = true then execs a fr else execs b fr
  | .for_ tg k es body, fr => M.bind (evalEs gl cal es (fr.env false)) fun ds => M.bind (srcItems k ds) fun items => forLoop (fun x fr => match storeT tg x fr with
    | some fr' => execs body fr'
    | none => M.stk) items fr
  | .ret m e, fr => M.bind (readE gl cal m e fr) fun d => M.ret (.ret d)
  | .expr m e, fr => M.bind (readE gl cal m e fr) fun _ => M.ret (.nx fr)
  | .frz i, fr => (match fr[i]? with
    | some (.own xs) => M.ret (.nx (fr.set i (.val (.lst xs))))
    | _ => M.stk)
  | .brk, fr => M.ret (.bk fr)
  | .cnt, fr => M.ret (.ct fr)
  | .pass, fr => M.ret (.nx fr)
  | .dead, _ => M.stk
  | .whl n m t body, fr => whileLoop (fun fr => M.bind (readE gl cal m t fr) truth) (fun fr => execs body fr) n fr
def execs : List Cmd → Fr → M Out
  | [], fr => M.ret (.nx fr)
  | s :: ss, fr => M.bind (exec s fr) fun o => match o with
    | .nx fr' => execs ss fr'
    | o => M.ret o
end
end
/-- a def: how many parameters, how many slots, its body -/
structure Fn where
  np : Nat
  ns : Nat
  body : List Cmd
def startF (n : Nat) (ds : List D) : Fr := ds.map Slot.val ++ List.replicate (n - ds.length) Slot.no
/-- what a def gives, at most k calls deep -/
def run (gl : Nat → Option D) (prog : List Fn) : Nat → Nat → List D → M D
  | 0, _, _ => M.stk
  | k + 1, f, ds => match prog[f]? with
    | some fn => if ds.length = fn.np then M.bind (execs gl (run gl prog k) fn.body (startF fn.ns ds)) fun o => (match o with
      | .ret d => M.ret d
      | .nx _ => M.ret .non
      | _ => M.stk) else M.stk
    | none => M.stk
end Z

/-! Z1: how data lie in the tracked heap -/
namespace Z
open PySem PySem.Spec PyProof.Rows L2

/-- what others own: read by some -/
abbrev Fs := List (Addr × Bool)
def wrp (o : HO) : HO := .frz { cls := .none } o
/-- what one leans on: not the store's things; what others own is read at most -/
def del (H : Hp) (F : Fs) (ρ : List Addr) : Hp := fun a => if a ∈ ρ then none else match F.lookup a with
  | none => H a
  | some true => (H a).map wrp
  | some false => none
theorem lookup_mem : ∀ {F : Fs} {a : Addr} {b : Bool}, F.lookup a = some b → (a, b) ∈ F
  | [], _, _, h => by cases h
  | (c, k) :: F, a, b, h => by
    rw [List.lookup_cons] at h
    by_cases hc : (a == c) = true
    · rw [hc] at h
      cases h
      rw [eq_of_beq hc]
      exact List.mem_cons_self
    · rw [Bool.not_eq_true] at hc
      rw [hc] at h
      exact List.mem_cons_of_mem _ (lookup_mem h)
theorem lookup_none {F : Fs} {a : Addr} (h : ∀ p ∈ F, p.1 ≠ a) : F.lookup a = none := by
  cases q : F.lookup a with
  | none => rfl
  | some b => exact absurd rfl (h _ (lookup_mem q))
theorem del_at {H : Hp} {F : Fs} {ρ : List Addr} {a : Addr} (h1 : a ∉ ρ) (h2 : F.lookup a = none) : del H F ρ a = H a := by
  unfold del
  rw [if_neg h1, h2]
theorem del_cases {H : Hp} {F : Fs} {ρ : List Addr} {a : Addr} {o : HO} (h : del H F ρ a = some o) : a ∉ ρ ∧ ((F.lookup a = none ∧ H a = some o) ∨ (F.lookup a = some true ∧ ∃ u, H a = some u ∧ o = wrp u)) := by
  unfold del at h
  by_cases h1 : a ∈ ρ
  · rw [if_pos h1] at h; cases h
  · rw [if_neg h1] at h
    refine ⟨h1, ?_⟩
    split at h
    · rename_i q; exact .inl ⟨q, h⟩
    · rename_i q
      obtain ⟨u, e1, e2⟩ := Option.map_eq_some_iff.mp h
      exact .inr ⟨q, u, e1, e2.symm⟩
    · cases h
theorem del_ne {H : Hp} {F : Fs} {ρ : List Addr} {a : Addr} {o : HO} (h : del H F ρ a = some o) : H a ≠ none := by
  obtain ⟨_, h | ⟨_, u, h, _⟩⟩ := del_cases h
  · rw [h.2]; intro z; cases z
  · rw [h]; intro z; cases z
theorem del_lst {H : Hp} {F : Fs} {ρ : List Addr} {a : Addr} {xs : List V} (h : del H F ρ a = some (.lst xs)) : H a = some (.lst xs) := by
  obtain ⟨_, h | ⟨_, u, _, h⟩⟩ := del_cases h
  · exact h.2
  · cases h
/-- leaning by place: where neither changes, so stays what one leans on -/
theorem del_same {H H' : Hp} {F F' : Fs} {ρ ρ' : List Addr} {a : Addr} {o : HO} (h : del H F ρ a = some o) (e : a ∉ ρ → H a ≠ none → a ∉ ρ' ∧ F'.lookup a = F.lookup a ∧ H' a = H a) : del H' F' ρ' a = some o := by
  have n := (del_cases h).1
  obtain ⟨h1, h2, h3⟩ := e n (del_ne h)
  unfold del at h ⊢
  rw [if_neg n] at h
  rw [if_neg h1, h2, h3]
  exact h
abbrev Le (G G' : Hp) : Prop := ∀ a o, G a = some o → G' a = some o
/-- what is read as a list, a tuple -/
def RLe (G G' : Hp) : Prop := ∀ a, (∀ xs, Rd G a (.lst xs) → Rd G' a (.lst xs)) ∧ ∀ xs, Rd G a (.tup xs) → Rd G' a (.tup xs)
theorem Rd.le {G G' : Hp} {a : Addr} {u : HO} (h : Le G G') (r : Rd G a u) : Rd G' a u := by
  rcases r with r | ⟨o, r⟩
  · exact .inl (h _ _ r)
  · exact .inr ⟨o, h _ _ r⟩
theorem Le.r {G G' : Hp} (h : Le G G') : RLe G G' := fun _ => ⟨fun _ r => Rd.le h r, fun _ r => Rd.le h r⟩
theorem SqL.le {K : PySem.W.Frag} {G G' : Hp} {a : Addr} {xs : List V} (h : RLe G G') (r : SqL K G a xs) : SqL K G' a xs := by
  rcases r with r | r
  · exact .inl ((h a).1 _ r)
  · exact .inr r
theorem SqT.le {K : PySem.W.Frag} {G G' : Hp} {a : Addr} {xs : List V} (h : RLe G G') (r : SqT K G a xs) : SqT K G' a xs := by
  rcases r with r | r
  · exact .inl ((h a).2 _ r)
  · exact .inr r
theorem del_leH {H : Hp} {F : Fs} {ρ : List Addr} : RLe (del H F ρ) H := by
  have key : ∀ (a : Addr) (u : HO), (∀ o w, u ≠ .frz o w) → Rd (del H F ρ) a u → Rd H a u := fun a u hu r => by
    rcases r with r | ⟨o, r⟩
    · obtain ⟨_, r | ⟨_, w, _, e⟩⟩ := del_cases r
      · exact .inl r.2
      · exact absurd e (hu _ _)
    · obtain ⟨_, r | ⟨_, w, r, e⟩⟩ := del_cases r
      · exact .inr ⟨o, r.2⟩
      · cases e
        exact .inl r
  exact fun a => ⟨fun xs => key a _ (fun o w e => by cases e), fun xs => key a _ (fun o w e => by cases e)⟩
mutual
/-- v holds d: G, what may not change; ρ, where the store's things stand -/
inductive Rep (K : PySem.W.Frag) (G : Hp) (ρ : List Addr) : V → D → Prop
  | non : Rep K G ρ .non .non
  | bl (b : Bool) : Rep K G ρ (.bl b) (.bl b)
  | int (i : Int) : Rep K G ρ (.int i) (.int i)
  | str {s : Str} : s.length ≤ sizeLine → PySem.PyData.strOk s = true → Rep K G ρ (.str s) (.str s)
  | tup {a : Addr} {vs : List V} {ds : List D} : SqT K G a vs → RepA K G ρ vs ds → ds.length ≤ sizeLine → Rep K G ρ (.ref a) (.tup ds)
  | lst {a : Addr} {vs : List V} {ds : List D} : G a = some (.lst vs) → RepA K G ρ vs ds → ds.length ≤ sizeLine → Rep K G ρ (.ref a) (.lst ds)
  | loc {a : Addr} {n : Nat} : ρ[n]? = some a → Rep K G ρ (.ref a) (.loc n)
  | scr {a : Addr} {vs : List V} {ds : List D} : SqL K G a vs → RepA K G ρ vs ds → ds.length ≤ sizeLine → Rep K G ρ (.ref a) (.scr ds)
inductive RepA (K : PySem.W.Frag) (G : Hp) (ρ : List Addr) : List V → List D → Prop
  | nil : RepA K G ρ [] []
  | cons {v : V} {vs : List V} {d : D} {ds : List D} : Rep K G ρ v d → RepA K G ρ vs ds → RepA K G ρ (v :: vs) (d :: ds)
end
section
variable {K : PySem.W.Frag} {G G' : Hp} {ρ ρ' : List Addr}
mutual
theorem Rep.le (h : Le G G') (p : ρ <+: ρ') : ∀ (d : D) (v : V), Rep K G ρ v d → Rep K G' ρ' v d
  | .non, _, r => by cases r; exact .non
  | .bl b, _, r => by cases r; exact .bl b
  | .int i, _, r => by cases r; exact .int i
  | .str s, _, r => by
    cases r with
    | str z z' => exact .str z z'
  | .tup ds, _, r => by
    cases r with
    | tup a b z => exact .tup (SqT.le (Le.r h) a) (RepA.le h p ds _ b) z
  | .lst ds, _, r => by
    cases r with
    | lst a b z => exact .lst (h _ _ a) (RepA.le h p ds _ b) z
  | .scr ds, _, r => by
    cases r with
    | scr a b z => exact .scr (SqL.le (Le.r h) a) (RepA.le h p ds _ b) z
  | .loc n, _, r => by
    cases r with
    | loc e =>
      obtain ⟨t, rfl⟩ := p
      refine .loc ?_
      rw [List.getElem?_append_left (List.getElem?_eq_some_iff.mp e).1]
      exact e
theorem RepA.le (h : Le G G') (p : ρ <+: ρ') : ∀ (ds : List D) (vs : List V), RepA K G ρ vs ds → RepA K G' ρ' vs ds
  | [], _, r => by cases r; exact .nil
  | d :: ds, _, r => by
    cases r with
    | cons a b => exact .cons (Rep.le h p d _ a) (RepA.le h p ds _ b)
end
mutual
/-- what is not read alone leans on nothing that is only read -/
theorem Rep.cln (hl : ∀ a vs, G a = some (.lst vs) → G' a = some (.lst vs)) (ht : ∀ a vs, SqT K G a vs → SqT K G' a vs) : ∀ (d : D) (v : V), d.cln = true → Rep K G ρ v d → Rep K G' ρ v d
  | .non, _, _, r => by cases r; exact .non
  | .bl b, _, _, r => by cases r; exact .bl b
  | .int i, _, _, r => by cases r; exact .int i
  | .str s, _, _, r => by
    cases r with
    | str z z' => exact .str z z'
  | .tup ds, _, f, r => by
    cases r with
    | tup a b z => exact .tup (ht _ _ a) (RepA.cln hl ht ds _ (by simpa [D.cln] using f) b) z
  | .lst ds, _, f, r => by
    cases r with
    | lst a b z => exact .lst (hl _ _ a) (RepA.cln hl ht ds _ (by simpa [D.cln] using f) b) z
  | .scr ds, _, f, _ => by simp [D.cln] at f
  | .loc n, _, _, r => by
    cases r with
    | loc e => exact .loc e
theorem RepA.cln (hl : ∀ a vs, G a = some (.lst vs) → G' a = some (.lst vs)) (ht : ∀ a vs, SqT K G a vs → SqT K G' a vs) : ∀ (ds : List D) (vs : List V), D.clns ds = true → RepA K G ρ vs ds → RepA K G' ρ vs ds
  | [], _, _, r => by cases r; exact .nil
  | d :: ds, _, f, r => by
    cases r with
    | cons a b =>
      have f2 : d.cln = true ∧ D.clns ds = true := by simpa [D.clns] using f
      exact .cons (Rep.cln hl ht d _ f2.1 a) (RepA.cln hl ht ds _ f2.2 b)
end
mutual
theorem Rep.dp : ∀ (d : D) (v : V), d.dat = true → Rep K G ρ v d → Dp K G v d.py
  | .non, _, _, r => by cases r; exact .non
  | .bl b, _, _, r => by cases r; exact .bl b
  | .int i, _, _, r => by cases r; exact .int i
  | .str s, _, _, r => by cases r; exact .str s
  | .tup ds, _, f, r => by
    cases r with
    | tup a b z => exact .tup a (RepA.dp ds _ (by simpa [D.dat] using f) b)
  | .lst ds, _, f, r => by
    cases r with
    | lst a b z => exact .lst (.inl (.inl a)) (RepA.dp ds _ (by simpa [D.dat] using f) b)
  | .loc n, _, f, _ => by simp [D.dat] at f
  | .scr n, _, f, _ => by simp [D.dat] at f
theorem RepA.dp : ∀ (ds : List D) (vs : List V), D.dats ds = true → RepA K G ρ vs ds → DpAll K G vs (D.pys ds)
  | [], _, _, r => by cases r; exact .nil
  | d :: ds, _, f, r => by
    cases r with
    | cons a b =>
      have f2 : d.dat = true ∧ D.dats ds = true := by simpa [D.dats] using f
      exact .cons (Rep.dp d _ f2.1 a) (RepA.dp ds _ f2.2 b)
end
mutual
theorem Dp.le (h : RLe G G') : ∀ (d : PyData) (v : V), Dp K G v d → Dp K G' v d
  | .none, _, r => by cases r; exact .non
  | .bool b, _, r => by cases r; exact .bl b
  | .int i, _, r => by cases r; exact .int i
  | .str s, _, r => by cases r; exact .str s
  | .tuple ds, _, r => by
    cases r with
    | tup a b => exact .tup (SqT.le h a) (DpAll.le h ds _ b)
  | .list ds, _, r => by
    cases r with
    | lst a b => exact .lst (SqL.le h a) (DpAll.le h ds _ b)
  | .dict _, _, r => by cases r
theorem DpAll.le (h : RLe G G') : ∀ (ds : List PyData) (vs : List V), DpAll K G vs ds → DpAll K G' vs ds
  | [], _, r => by cases r; exact .nil
  | d :: ds, _, r => by
    cases r with
    | cons a b => exact .cons (Dp.le h d _ a) (DpAll.le h ds _ b)
end
theorem RepA.length : ∀ {vs : List V} {ds : List D}, RepA K G ρ vs ds → vs.length = ds.length
  | [], [], _ => rfl
  | [], _ :: _, r => nomatch r
  | _ :: _, [], r => nomatch r
  | _ :: _, _ :: _, r => by
    cases r with
    | cons a b => rw [List.length_cons, List.length_cons, RepA.length b]
theorem RepA.append : ∀ {vs ws : List V} {ds es : List D}, RepA K G ρ vs ds → RepA K G ρ ws es → RepA K G ρ (vs ++ ws) (ds ++ es)
  | [], _, [], _, _, q => q
  | [], _, _ :: _, _, r, _ => nomatch r
  | _ :: _, _, [], _, r, _ => nomatch r
  | _ :: _, _, _ :: _, _, r, q => by
    cases r with
    | cons a b => exact .cons a (RepA.append b q)
theorem RepA.get : ∀ {vs : List V} {ds : List D} {i : Nat} {d : D}, RepA K G ρ vs ds → ds[i]? = some d → ∃ v, vs[i]? = some v ∧ Rep K G ρ v d
  | [], [], i, d, _, h => by simp at h
  | [], _ :: _, _, _, r, _ => nomatch r
  | _ :: _, [], _, _, r, _ => nomatch r
  | v :: vs, e :: ds, i, d, r, h => by
    cases r with
    | cons a b =>
      cases i with
      | zero =>
        have e1 : e = d := Option.some.inj h
        subst e1
        exact ⟨v, rfl, a⟩
      | succ i => exact RepA.get (i := i) b (by simpa using h)
theorem RepA.get' : ∀ {vs : List V} {ds : List D} {i : Nat} {v : V}, RepA K G ρ vs ds → vs[i]? = some v → ∃ d, ds[i]? = some d ∧ Rep K G ρ v d
  | [], [], i, d, _, h => by simp at h
  | [], _ :: _, _, _, r, _ => nomatch r
  | _ :: _, [], _, _, r, _ => nomatch r
  | w :: vs, e :: ds, i, v, r, h => by
    cases r with
    | cons a b =>
      cases i with
      | zero =>
        have e1 : w = v := Option.some.inj h
        subst e1
        exact ⟨e, rfl, a⟩
      | succ i => exact RepA.get' (i := i) b (by simpa using h)
theorem RepA.take : ∀ {vs : List V} {ds : List D}, RepA K G ρ vs ds → ∀ n : Nat, RepA K G ρ (vs.take n) (ds.take n)
  | _, _, _, 0 => .nil
  | [], [], _, _ + 1 => .nil
  | [], _ :: _, r, _ => nomatch r
  | _ :: _, [], r, _ => nomatch r
  | _ :: _, _ :: _, r, n + 1 => by
    cases r with
    | cons a b => exact .cons a (RepA.take b n)
theorem RepA.drop : ∀ {vs : List V} {ds : List D}, RepA K G ρ vs ds → ∀ n : Nat, RepA K G ρ (vs.drop n) (ds.drop n)
  | _, _, r, 0 => r
  | [], [], _, _ + 1 => .nil
  | [], _ :: _, r, _ => nomatch r
  | _ :: _, [], r, _ => nomatch r
  | _ :: _, _ :: _, r, n + 1 => by
    cases r with
    | cons a b => exact RepA.drop b n
theorem RepA.set : ∀ {vs : List V} {ds : List D} {v : V} {d : D}, RepA K G ρ vs ds → Rep K G ρ v d → ∀ n : Nat, RepA K G ρ (vs.set n v) (ds.set n d)
  | [], [], _, _, r, _, _ => r
  | [], _ :: _, _, _, r, _, _ => nomatch r
  | _ :: _, [], _, _, r, _, _ => nomatch r
  | _ :: _, _ :: _, _, _, r, q, 0 => by
    cases r with
    | cons a b => exact .cons q b
  | _ :: _, _ :: _, _, _, r, q, n + 1 => by
    cases r with
    | cons a b => exact .cons a (RepA.set b q n)
theorem RepA.reverse : ∀ {vs : List V} {ds : List D}, RepA K G ρ vs ds → RepA K G ρ vs.reverse ds.reverse
  | [], [], r => r
  | [], _ :: _, r => nomatch r
  | _ :: _, [], r => nomatch r
  | _ :: _, _ :: _, r => by
    cases r with
    | cons a b =>
      rw [List.reverse_cons, List.reverse_cons]
      exact RepA.append (RepA.reverse b) (.cons a .nil)
theorem RepA.of {vs : List V} {ds : List D} (hl : vs.length = ds.length) (h : ∀ (i : Nat) v d, vs[i]? = some v → ds[i]? = some d → Rep K G ρ v d) : RepA K G ρ vs ds := by
  induction vs generalizing ds with
  | nil =>
    cases ds with
    | nil => exact .nil
    | cons _ _ => cases hl
  | cons v vs ih =>
    cases ds with
    | nil => cases hl
    | cons d ds => exact .cons (h 0 v d rfl rfl) (ih (by simpa using hl) fun i w e hw he => h (i + 1) w e (by simpa using hw) (by simpa using he))
end

/-! ### the store -/
def OB (K : PySem.W.Frag) (G : Hp) (ρ : List Addr) (H : Hp) (a : Addr) : SO → Prop
  | .lst xs => ∃ vs, H a = some (.lst vs) ∧ RepA K G ρ vs xs ∧ xs.length ≤ sizeLine ∧ D.clns xs = true
/-- the store S lies in H at ρ; F: what others own -/
structure Wf (K : PySem.W.Frag) (H : Hp) (F : Fs) (ρ : List Addr) (S : Store) : Prop where
  len : ρ.length = S.length
  nd : ρ.Nodup
  at_ : ∀ (n : Nat) (a : Addr) (o : SO), ρ[n]? = some a → S[n]? = some o → OB K (del H F ρ) ρ H a o
  fd : ∀ p ∈ F, H p.1 ≠ none ∧ p.1 ∉ ρ
/-- what has happened -/
structure Stp (K : PySem.W.Frag) (F : Fs) (H : Hp) (ρ : List Addr) (H' : Hp) (ρ' : List Addr) (S' : Store) : Prop where
  same : ∀ a o, H a = some o → a ∉ ρ → H' a = some o
  pre : ρ <+: ρ'
  fresh : ∀ a ∈ ρ', a ∈ ρ ∨ H a = none
  wf : Wf K H' F ρ' S'
section
variable {K : PySem.W.Frag} {H H' H1 H2 : Hp} {F : Fs} {ρ ρ' ρ1 ρ2 : List Addr} {S S' S1 S2 : Store}
theorem OB.le {G G' : Hp} {a : Addr} {o : SO} (h : Le G G') (p : ρ <+: ρ') (e : H a = H' a) (x : OB K G ρ H a o) : OB K G' ρ' H' a o := by
  cases o with
  | lst xs =>
    obtain ⟨vs, h1, h2, h3⟩ := x
    exact ⟨vs, e ▸ h1, RepA.le h p _ _ h2, h3⟩
theorem Wf.tr (w : Wf K H F ρ S) : ∀ a ∈ ρ, H a ≠ none := fun a ha => by
  obtain ⟨n, hn⟩ := List.getElem?_of_mem ha
  have hl : n < S.length := by rw [← w.len]; exact (List.getElem?_eq_some_iff.mp hn).1
  have q := w.at_ n a S[n] hn (List.getElem?_eq_getElem hl)
  revert q
  cases S[n] with
  | lst xs =>
    rintro ⟨vs, h1, _⟩ z
    rw [z] at h1
    cases h1
theorem Wf.nF (w : Wf K H F ρ S) {p : Addr} (h : H p = none) : F.lookup p = none := lookup_none fun q m e => (w.fd q m).1 (e ▸ h)
theorem Wf.nR (w : Wf K H F ρ S) {p : Addr} (h : H p = none) : p ∉ ρ := fun m => w.tr p m h
theorem Stp.refl (w : Wf K H F ρ S) : Stp K F H ρ H ρ S := ⟨fun _ _ e _ => e, List.prefix_rfl, fun _ h => .inl h, w⟩
theorem Stp.trans (a : Stp K F H ρ H1 ρ1 S1) (b : Stp K F H1 ρ1 H2 ρ2 S2) : Stp K F H ρ H2 ρ2 S2 where
  same := fun c o e n => b.same c o (a.same c o e n) fun m => (a.fresh c m).elim n fun z => by rw [z] at e; cases e
  pre := a.pre.trans b.pre
  fresh := fun c m => (b.fresh c m).elim (fun m => a.fresh c m) fun z => by
    cases q : H c with
    | none => exact .inr rfl
    | some o =>
      by_cases hc : c ∈ ρ
      · exact .inl hc
      · rw [a.same c o q hc] at z
        cases z
  wf := b.wf
theorem Stp.keep (a : Stp K F H ρ H1 ρ1 S1) {c : Addr} (n : c ∉ ρ) (e : H c ≠ none) : c ∉ ρ1 ∧ H1 c = H c := by
  cases q : H c with
  | none => exact absurd q e
  | some o => exact ⟨fun m => (a.fresh c m).elim n e, a.same c o q n⟩
theorem Stp.le (a : Stp K F H ρ H1 ρ1 S1) : Le (del H F ρ) (del H1 F ρ1) := fun c o e => del_same e fun n h => ⟨(a.keep n h).1, rfl, (a.keep n h).2⟩
theorem Stp.rep (a : Stp K F H ρ H1 ρ1 S1) {v : V} {d : D} (r : Rep K (del H F ρ) ρ v d) : Rep K (del H1 F ρ1) ρ1 v d := Rep.le a.le a.pre _ _ r
theorem Stp.repA (a : Stp K F H ρ H1 ρ1 S1) {v : List V} {d : List D} (r : RepA K (del H F ρ) ρ v d) : RepA K (del H1 F ρ1) ρ1 v d := RepA.le a.le a.pre _ _ r
/-- a new object -/
theorem Wf.laid (w : Wf K H F ρ S) {p : Addr} (h : H p = none) (o : HO) : Stp K F H ρ (upd H p o) ρ S := by
  have le : Le (del H F ρ) (del (upd H p o) F ρ) := fun c u e => del_same e fun n z => ⟨n, rfl, upd_ne fun q => z (q ▸ h)⟩
  refine ⟨fun a u e _ => by rw [upd_ne (ne_of_none e h)]; exact e, List.prefix_rfl, fun _ m => .inl m, w.len, w.nd, fun n a u e1 e2 => ?_, fun a m => ?_⟩
  · have na : a ≠ p := fun z => w.nR h (z ▸ List.mem_of_getElem? e1)
    exact OB.le le List.prefix_rfl (by rw [upd_ne na]) (w.at_ n a u e1 e2)
  · have na : a.1 ≠ p := fun z => (w.fd a m).1 (z ▸ h)
    rw [upd_ne na]
    exact w.fd a m
theorem Wf.newTup (w : Wf K H F ρ S) {p : Addr} (h : H p = none) {vs : List V} {ds : List D} (r : RepA K (del H F ρ) ρ vs ds) (z : ds.length ≤ sizeLine) :
    Rep K (del (upd H p (.tup vs)) F ρ) ρ (.ref p) (.tup ds) :=
  .tup (.inl (.inl (by rw [del_at (w.nR h) (w.nF h)]; exact upd_same))) ((w.laid h _).repA r) z
theorem Wf.newLst (w : Wf K H F ρ S) {p : Addr} (h : H p = none) {vs : List V} {ds : List D} (r : RepA K (del H F ρ) ρ vs ds) (z : ds.length ≤ sizeLine) :
    Rep K (del (upd H p (.lst vs)) F ρ) ρ (.ref p) (.lst ds) :=
  .lst (by rw [del_at (w.nR h) (w.nF h)]; exact upd_same) ((w.laid h _).repA r) z
/-- a new thing of the store -/
theorem Wf.alloc (w : Wf K H F ρ S) {p : Addr} (h : H p = none) {vs : List V} {ds : List D} (r : RepA K (del H F ρ) ρ vs ds) (z : ds.length ≤ sizeLine) (hc : D.clns ds = true) :
    Stp K F H ρ (upd H p (.lst vs)) (ρ ++ [p]) (S ++ [.lst ds]) := by
  have le : Le (del H F ρ) (del (upd H p (.lst vs)) F (ρ ++ [p])) := fun c u e => del_same e fun n z => by
    have nc : c ≠ p := fun q => z (q ▸ h)
    refine ⟨fun m => ?_, rfl, upd_ne nc⟩
    rcases List.mem_append.mp m with m | m
    · exact n m
    · exact nc (by simpa using m)
  have pre : ρ <+: ρ ++ [p] := List.prefix_append _ _
  refine ⟨fun a u e _ => by rw [upd_ne (ne_of_none e h)]; exact e, pre, fun a m => ?_, by simp [w.len], ?_, fun n a u e1 e2 => ?_, fun a m => ?_⟩
  · rcases List.mem_append.mp m with m | m
    · exact .inl m
    · exact .inr (by have e : a = p := by simpa using m
                     rw [e]; exact h)
  · refine List.nodup_append.mpr ⟨w.nd, by simp, fun a ha b hb => ?_⟩
    have e : b = p := by simpa using hb
    subst e
    rintro rfl
    exact w.nR h ha
  · by_cases hn : n < ρ.length
    · rw [List.getElem?_append_left hn] at e1
      rw [List.getElem?_append_left (by rw [← w.len]; exact hn)] at e2
      have na : a ≠ p := fun z => w.nR h (z ▸ List.mem_of_getElem? e1)
      exact OB.le le pre (by rw [upd_ne na]) (w.at_ n a u e1 e2)
    · have hn' : n = ρ.length := by
        have := (List.getElem?_eq_some_iff.mp e1).1
        simp at this
        omega
      subst hn'
      have ea : p = a := by simpa using e1
      have eu : SO.lst ds = u := by simpa [w.len] using e2
      subst ea eu
      exact ⟨vs, upd_same, RepA.le le pre _ _ r, z, hc⟩
  · have na : a.1 ≠ p := fun z => (w.fd a m).1 (z ▸ h)
    rw [upd_ne na]
    refine ⟨(w.fd a m).1, fun m' => ?_⟩
    rcases List.mem_append.mp m' with m' | m'
    · exact (w.fd a m).2 m'
    · exact na (by simpa using m')
/-- a list of the store is written -/
theorem Wf.write (w : Wf K H F ρ S) {p : Addr} {n : Nat} (h : ρ[n]? = some p) {vs : List V} {ds : List D} (r : RepA K (del H F ρ) ρ vs ds) (z : ds.length ≤ sizeLine) (hc : D.clns ds = true) :
    Stp K F H ρ (upd H p (.lst vs)) ρ (S.set n (.lst ds)) := by
  have mp : p ∈ ρ := List.mem_of_getElem? h
  have le : Le (del H F ρ) (del (upd H p (.lst vs)) F ρ) := fun c u e => del_same e fun n _ => ⟨n, rfl, upd_ne fun z => n (z ▸ mp)⟩
  refine ⟨fun a u e na => by rw [upd_ne (fun z : a = p => na (z ▸ mp))]; exact e, List.prefix_rfl, fun a m => .inl m, by simp [w.len], w.nd, fun m a u e1 e2 => ?_, fun a m => ?_⟩
  · by_cases hm : m = n
    · subst hm
      have ea : p = a := Option.some.inj (h.symm.trans e1)
      subst ea
      have hl : m < S.length := by rw [← w.len]; exact (List.getElem?_eq_some_iff.mp h).1
      rw [List.getElem?_set_self hl] at e2
      cases e2
      exact ⟨vs, upd_same, RepA.le le List.prefix_rfl _ _ r, z, hc⟩
    · rw [List.getElem?_set_ne (fun z => hm z.symm)] at e2
      have na : a ≠ p := fun z => hm (nodup_ix' w.nd e1 (z ▸ h))
      exact OB.le le List.prefix_rfl (by rw [upd_ne na]) (w.at_ m a u e1 e2)
  · have na : a.1 ≠ p := fun z => (w.fd a m).2 (z ▸ mp)
    rw [upd_ne na]
    exact w.fd a m
where
  nodup_ix' {N : List Addr} (hN : N.Nodup) {i j : Nat} {x : Addr} (a : N[i]? = some x) (b : N[j]? = some x) : i = j := by
    obtain ⟨h1, e1⟩ := List.getElem?_eq_some_iff.mp a
    obtain ⟨h2, e2⟩ := List.getElem?_eq_some_iff.mp b
    exact (List.getElem_inj hN).mp (e1.trans e2.symm)
end

/-! ### readings -/
def Post (K : PySem.W.Frag) (F : Fs) (H : Hp) (ρ : List Addr) (Q : VK) : Res D → Prop
  | .ok d S' => ∀ v H' ρ', Stp K F H ρ H' ρ' S' → Rep K (del H' F ρ') ρ' v d → Q v H'
  | .exc _ _ => False
  | .stuck => False
def PostA (K : PySem.W.Frag) (F : Fs) (H : Hp) (ρ : List Addr) (Q : List V → Hp → Prop) : Res (List D) → Prop
  | .ok d S' => ∀ v H' ρ', Stp K F H ρ H' ρ' S' → RepA K (del H' F ρ') ρ' v d → Q v H'
  | .exc _ _ => False
  | .stuck => False
def PostB (K : PySem.W.Frag) (F : Fs) (H : Hp) (ρ : List Addr) (Q : Bool → Hp → Prop) : Res Bool → Prop
  | .ok d S' => ∀ H' ρ', Stp K F H ρ H' ρ' S' → Q d H'
  | .exc _ _ => False
  | .stuck => False
def EnvOk (K : PySem.W.Frag) (G : Hp) (ρ : List Addr) (env : Env) (σ : L2.St) : Prop := env.length ≤ σ.length ∧ ∀ (i : Nat) (d : D), env[i]? = some (some d) → ∃ v : V, σ[i]? = some (some v) ∧ Rep K G ρ v d
theorem EnvOk.le {K : PySem.W.Frag} {G G' : Hp} {ρ ρ' : List Addr} {env : Env} {σ : L2.St} (h : Le G G') (p : ρ <+: ρ') (e : EnvOk K G ρ env σ) : EnvOk K G' ρ' env σ := ⟨e.1, fun i d q => by
  obtain ⟨v, h1, h2⟩ := e.2 i d q
  exact ⟨v, h1, Rep.le h p _ _ h2⟩⟩
def tE (K : PySem.W.Frag) (f : Env → M D) : TE := fun σ H Q => ∃ F ρ S env, Wf K H F ρ S ∧ EnvOk K (del H F ρ) ρ env σ ∧ Post K F H ρ Q (f env S)
def tA (K : PySem.W.Frag) (f : Env → M (List D)) : TA := fun σ H Q => ∃ F ρ S env, Wf K H F ρ S ∧ EnvOk K (del H F ρ) ρ env σ ∧ PostA K F H ρ Q (f env S)
def tB (K : PySem.W.Frag) (f : Env → M Bool) : TT := fun σ H Q => ∃ F ρ S env, Wf K H F ρ S ∧ EnvOk K (del H F ρ) ρ env σ ∧ PostB K F H ρ Q (f env S)
/-- what is asked of values that hold data -/
def r1 (K : PySem.W.Frag) (g : D → M D) : V → Hp → VK → Prop := fun x H Q => ∃ F ρ S d, Wf K H F ρ S ∧ Rep K (del H F ρ) ρ x d ∧ Post K F H ρ Q (g d S)
def r2 (K : PySem.W.Frag) (g : D → D → M D) : R2 := fun x y H Q => ∃ F ρ S d e, Wf K H F ρ S ∧ Rep K (del H F ρ) ρ x d ∧ Rep K (del H F ρ) ρ y e ∧ Post K F H ρ Q (g d e S)
def rA (K : PySem.W.Frag) (g : List D → M D) : List V → Hp → VK → Prop := fun xs H Q => ∃ F ρ S ds, Wf K H F ρ S ∧ RepA K (del H F ρ) ρ xs ds ∧ Post K F H ρ Q (g ds S)
section
variable {K : PySem.W.Frag} {H H' H1 H2 : Hp} {F : Fs} {ρ ρ' ρ1 ρ2 : List Addr} {S S' S1 S2 : Store} {Q : VK}
theorem Post.from (s : Stp K F H ρ H1 ρ1 S1) {r : Res D} (h : Post K F H ρ Q r) : Post K F H1 ρ1 Q r := by
  cases r with
  | ok d S' => exact fun v H' ρ' t q => h v H' ρ' (s.trans t) q
  | exc _ _ => exact h
  | stuck => exact h
theorem PostA.from {Q : List V → Hp → Prop} (s : Stp K F H ρ H1 ρ1 S1) {r : Res (List D)} (h : PostA K F H ρ Q r) : PostA K F H1 ρ1 Q r := by
  cases r with
  | ok d S' => exact fun v H' ρ' t q => h v H' ρ' (s.trans t) q
  | exc _ _ => exact h
  | stuck => exact h
theorem PostB.from {Q : Bool → Hp → Prop} (s : Stp K F H ρ H1 ρ1 S1) {r : Res Bool} (h : PostB K F H ρ Q r) : PostB K F H1 ρ1 Q r := by
  cases r with
  | ok d S' => exact fun H' ρ' t => h H' ρ' (s.trans t)
  | exc _ _ => exact h
  | stuck => exact h
theorem Post.ok {d : D} {v : V} (w : Wf K H F ρ S) (r : Rep K (del H F ρ) ρ v d) (h : Post K F H ρ Q (.ok d S)) : Q v H := h v H ρ (Stp.refl w) r

theorem Post.bind {m : M D} {g : D → M D} (h : Post K F H ρ Q (M.bind m g S)) :
    Post K F H ρ (fun v H1 => ∃ ρ1 S1 d, Stp K F H ρ H1 ρ1 S1 ∧ Rep K (del H1 F ρ1) ρ1 v d ∧ Post K F H1 ρ1 Q (g d S1)) (m S) := by
  have p := h
  unfold M.bind at p
  cases q : m S with
  | ok d S1 =>
    rw [q] at p
    exact fun v H1 ρ1 s r => ⟨ρ1, S1, d, s, r, p.from s⟩
  | exc _ _ => rw [q] at p; exact p
  | stuck => rw [q] at p; exact p
theorem Post.bindA {m : M (List D)} {g : List D → M D} (h : Post K F H ρ Q (M.bind m g S)) :
    PostA K F H ρ (fun v H1 => ∃ ρ1 S1 d, Stp K F H ρ H1 ρ1 S1 ∧ RepA K (del H1 F ρ1) ρ1 v d ∧ Post K F H1 ρ1 Q (g d S1)) (m S) := by
  have p := h
  unfold M.bind at p
  cases q : m S with
  | ok d S1 =>
    rw [q] at p
    exact fun v H1 ρ1 s r => ⟨ρ1, S1, d, s, r, p.from s⟩
  | exc _ _ => rw [q] at p; exact p
  | stuck => rw [q] at p; exact p
theorem Post.bindB {m : M Bool} {g : Bool → M D} (h : Post K F H ρ Q (M.bind m g S)) :
    PostB K F H ρ (fun d H1 => ∃ ρ1 S1, Stp K F H ρ H1 ρ1 S1 ∧ Post K F H1 ρ1 Q (g d S1)) (m S) := by
  have p := h
  unfold M.bind at p
  cases q : m S with
  | ok d S1 =>
    rw [q] at p
    exact fun H1 ρ1 s => ⟨ρ1, S1, s, p.from s⟩
  | exc _ _ => rw [q] at p; exact p
  | stuck => rw [q] at p; exact p
theorem PostA.bind {m : M D} {g : D → M (List D)} {Q : List V → Hp → Prop} (h : PostA K F H ρ Q (M.bind m g S)) :
    Post K F H ρ (fun v H1 => ∃ ρ1 S1 d, Stp K F H ρ H1 ρ1 S1 ∧ Rep K (del H1 F ρ1) ρ1 v d ∧ PostA K F H1 ρ1 Q (g d S1)) (m S) := by
  have p := h
  unfold M.bind at p
  cases q : m S with
  | ok d S1 =>
    rw [q] at p
    exact fun v H1 ρ1 s r => ⟨ρ1, S1, d, s, r, p.from s⟩
  | exc _ _ => rw [q] at p; exact p
  | stuck => rw [q] at p; exact p
theorem PostA.bindA {m : M (List D)} {g : List D → M (List D)} {Q : List V → Hp → Prop} (h : PostA K F H ρ Q (M.bind m g S)) :
    PostA K F H ρ (fun v H1 => ∃ ρ1 S1 d, Stp K F H ρ H1 ρ1 S1 ∧ RepA K (del H1 F ρ1) ρ1 v d ∧ PostA K F H1 ρ1 Q (g d S1)) (m S) := by
  have p := h
  unfold M.bind at p
  cases q : m S with
  | ok d S1 =>
    rw [q] at p
    exact fun v H1 ρ1 s r => ⟨ρ1, S1, d, s, r, p.from s⟩
  | exc _ _ => rw [q] at p; exact p
  | stuck => rw [q] at p; exact p
theorem PostB.bind {m : M D} {g : D → M Bool} {Q : Bool → Hp → Prop} (h : PostB K F H ρ Q (M.bind m g S)) :
    Post K F H ρ (fun v H1 => ∃ ρ1 S1 d, Stp K F H ρ H1 ρ1 S1 ∧ Rep K (del H1 F ρ1) ρ1 v d ∧ PostB K F H1 ρ1 Q (g d S1)) (m S) := by
  have p := h
  unfold M.bind at p
  cases q : m S with
  | ok d S1 =>
    rw [q] at p
    exact fun v H1 ρ1 s r => ⟨ρ1, S1, d, s, r, p.from s⟩
  | exc _ _ => rw [q] at p; exact p
  | stuck => rw [q] at p; exact p
theorem Post.imp {Q' : VK} {r : Res D} (h : Post K F H ρ Q r) (i : ∀ v H', Q v H' → Q' v H') : Post K F H ρ Q' r := by
  cases r with
  | ok d S' => exact fun v H' ρ' t q => i _ _ (h v H' ρ' t q)
  | exc _ _ => exact h
  | stuck => exact h
theorem PostA.imp {Q Q' : List V → Hp → Prop} {r : Res (List D)} (h : PostA K F H ρ Q r) (i : ∀ v H', Q v H' → Q' v H') : PostA K F H ρ Q' r := by
  cases r with
  | ok d S' => exact fun v H' ρ' t q => i _ _ (h v H' ρ' t q)
  | exc _ _ => exact h
  | stuck => exact h
theorem PostB.imp {Q Q' : Bool → Hp → Prop} {r : Res Bool} (h : PostB K F H ρ Q r) (i : ∀ v H', Q v H' → Q' v H') : PostB K F H ρ Q' r := by
  cases r with
  | ok d S' => exact fun H' ρ' t => i _ _ (h H' ρ' t)
  | exc _ _ => exact h
  | stuck => exact h
/-- two expressions in a row -/
theorem tE_two {f1 f2 : Env → M D} {g : D → D → M D} {σ : L2.St} (h : tE K (fun env => M.bind (f1 env) fun x => M.bind (f2 env) (g x)) σ H Q) :
    tE K f1 σ H fun v H1 => tE K f2 σ H1 fun u H2 => r2 K g v u H2 Q := by
  obtain ⟨F, ρ, S, env, w, e, p⟩ := h
  refine ⟨F, ρ, S, env, w, e, (Post.bind p).imp ?_⟩
  rintro v H1 ⟨ρ1, S1, d, s, r, p1⟩
  refine ⟨F, ρ1, S1, env, s.wf, e.le s.le s.pre, (Post.bind p1).imp ?_⟩
  rintro u H2 ⟨ρ2, S2, d2, s2, r', p2⟩
  exact ⟨F, ρ2, S2, d, d2, s2.wf, s2.rep r, r', p2⟩
theorem tE_one {f1 : Env → M D} {g : D → M D} {σ : L2.St} (h : tE K (fun env => M.bind (f1 env) g) σ H Q) :
    tE K f1 σ H fun v H1 => r1 K g v H1 Q := by
  obtain ⟨F, ρ, S, env, w, e, p⟩ := h
  refine ⟨F, ρ, S, env, w, e, (Post.bind p).imp ?_⟩
  rintro v H1 ⟨ρ1, S1, d, s, r, p1⟩
  exact ⟨F, ρ1, S1, d, s.wf, r, p1⟩
theorem tE_args {f1 : Env → M (List D)} {g : List D → M D} {σ : L2.St} (h : tE K (fun env => M.bind (f1 env) g) σ H Q) :
    tA K f1 σ H fun v H1 => rA K g v H1 Q := by
  obtain ⟨F, ρ, S, env, w, e, p⟩ := h
  refine ⟨F, ρ, S, env, w, e, (Post.bindA p).imp ?_⟩
  rintro v H1 ⟨ρ1, S1, d, s, r, p1⟩
  exact ⟨F, ρ1, S1, d, s.wf, r, p1⟩
end
end Z

/-! Z2: each operation is what the machine does -/
namespace Z
open PySem PySem.Spec PyProof.Rows L2

/-! ### data as the library's data -/
mutual
theorem py_depth : ∀ d : D, d.py.depth = d.dep
  | .non => rfl
  | .bl _ => rfl
  | .int _ => rfl
  | .str _ => rfl
  | .tup xs => by simp only [D.py, D.dep, PyData.depth, pys_depth xs]
  | .lst xs => by simp only [D.py, D.dep, PyData.depth, pys_depth xs]
  | .loc _ => rfl
  | .scr _ => rfl
theorem pys_depth : ∀ ds : List D, PyData.depthAll (D.pys ds) = D.deps ds
  | [] => rfl
  | d :: ds => by simp only [D.pys, D.deps, PyData.depthAll, py_depth d, pys_depth ds]
end
theorem pys_map : ∀ ds : List D, D.pys ds = ds.map D.py
  | [] => rfl
  | d :: ds => by simp only [D.pys, List.map_cons, pys_map ds]
section
variable {K : PySem.W.Frag} {G : Hp} {ρ : List Addr}
mutual
theorem Rep.lay : ∀ (d : D) (v : V), Rep K G ρ v d → d.py.canLay0 = true
  | .non, _, _ => rfl
  | .bl _, _, _ => rfl
  | .int _, _, _ => rfl
  | .str _, _, r => by
    cases r with
    | str z z' => simpa only [D.py, PyData.canLay0] using z'
  | .tup ds, _, r => by
    cases r with
    | tup a b z => simpa only [D.py, PyData.canLay0] using RepA.lay ds _ b
  | .lst ds, _, r => by
    cases r with
    | lst a b z => simpa only [D.py, PyData.canLay0] using RepA.lay ds _ b
  | .loc _, _, _ => rfl
  | .scr _, _, _ => rfl
theorem RepA.lay : ∀ (ds : List D) (vs : List V), RepA K G ρ vs ds → PyData.canLayAll0 (D.pys ds) = true
  | [], _, _ => rfl
  | d :: ds, _, r => by
    cases r with
    | cons a b =>
      simp only [D.pys, PyData.canLayAll0, Rep.lay d _ a, RepA.lay ds _ b, Bool.and_self]
end
end
theorem Rep.dpH {K : PySem.W.Frag} {H : Hp} {F : Fs} {ρ' ρ : List Addr} {v : V} {d : D} (r : Rep K (del H F ρ') ρ v d) (h : d.dat = true) : Dp K H v d.py := Dp.le del_leH _ _ (Rep.dp d v h r)

section
variable {X : Cx}
theorem opImp {f : Value → Value → Sem Value} {r r' : R2} (h : OpR X f r) (i : ∀ x y H Q, r' x y H Q → r x y H Q) : OpR X f r' :=
  fun pins s σ H x y v u Q I rx ry q => h pins s σ H x y v u Q I rx ry (i _ _ _ _ q)
theorem callImp {f : Value} {r r' : List V → Hp → VK → Prop} (h : CallR X f r) (i : ∀ xs H Q, r' xs H Q → r xs H Q) : CallR X f r' :=
  fun pins s σ H xs us Q I rs q => h pins s σ H xs us Q I rs (i _ _ _ q)
theorem unImp {f : Value → Sem Value} {r r' : V → Hp → VK → Prop} (h : UnR X f r) (i : ∀ x H Q, r' x H Q → r x H Q) : UnR X f r' :=
  fun pins s σ H x v Q I rx q => h pins s σ H x v Q I rx (i _ _ _ q)
theorem opNone {f : Value → Value → Sem Value} {r : R2} (h : ∀ x y H Q, ¬ r x y H Q) : OpR X f r := fun pins s σ H x y v u Q I rx ry q => absurd q (h _ _ _ _)
theorem callNone {f : Value} {r : List V → Hp → VK → Prop} (h : ∀ xs H Q, ¬ r xs H Q) : CallR X f r := fun pins s σ H xs us Q I rs q => absurd q (h _ _ _)

/-! ### arithmetic -/
theorem post_stk {K : PySem.W.Frag} {F : Fs} {ρ : List Addr} {H : Hp} {Q : VK} {S : Store} (h : Post K F H ρ Q (M.stk S)) : False := h
theorem post_ret {K : PySem.W.Frag} {F : Fs} {ρ : List Addr} {H : Hp} {Q : VK} {S : Store} {d : D} (h : Post K F H ρ Q (M.ret d S)) : Post K F H ρ Q (.ok d S) := h
theorem size_append {a b : Str} : (a ++ b).length = a.length + b.length := by
  show (a.cps ++ b.cps).size = _
  rw [Array.size_append]
  rfl
theorem strOk_append {a b : Str} (ha : PyData.strOk a = true) (hb : PyData.strOk b = true) : PyData.strOk (a ++ b) = true := by
  show (a.cps ++ b.cps).all _ = true
  rw [Array.all_append]
  exact Bool.and_eq_true_iff.mpr ⟨ha, hb⟩

/-- a value that holds what may be walked, by its kind -/
theorem bin_add : OpR X (binaryOp .Add) (r2 X.K (binSem .Add)) := by
  refine opImp (OpR.or op_add (OpR.or op_add_str (OpR.or op_catA op_cat))) ?_
  rintro x y H Q ⟨F, ρ, S, d, e, w, rd, re, p⟩
  cases rd with
  | int i =>
    cases re with
    | int j => exact .inl ⟨i, j, rfl, rfl, p.ok w (.int _)⟩
    | _ => exact p.elim
  | @str s1 z1 o1 =>
    cases re with
    | @str s2 z2 o2 =>
      by_cases hz : s1.length + s2.length ≤ sizeLine
      · simp only [binSem, if_pos hz] at p
        exact .inr (.inl ⟨s1, s2, rfl, rfl, hz, p.ok w (.str (by rw [size_append]; exact hz) (strOk_append o1 o2))⟩)
      · simp only [binSem, if_neg hz] at p
        exact p.elim
    | _ => exact p.elim
  | @tup a vs ds h1 h2 h3 =>
    cases re with
    | @tup b us es k1 k2 k3 =>
      by_cases hz : ds.length + es.length ≤ sizeLine
      · simp only [binSem, if_pos hz] at p
        have l1 := h2.length
        have l2 := k2.length
        refine .inr (.inr (.inl ⟨a, b, vs, us, rfl, rfl, SqT.le del_leH h1, SqT.le del_leH k1, by omega, fun e => ?_, fun _ e => ?_, fun _ _ q hq => ?_⟩))
        · subst e
          have e0 : ds = [] := List.eq_nil_of_length_eq_zero (by rw [← l1]; rfl)
          subst e0
          exact p.ok w (.tup k1 k2 k3)
        · subst e
          have e0 : es = [] := List.eq_nil_of_length_eq_zero (by rw [← l2]; rfl)
          subst e0
          rw [List.append_nil] at p
          exact p.ok w (.tup h1 h2 h3)
        · exact p _ _ _ (w.laid hq _) (w.newTup hq (h2.append k2) (by rw [List.length_append]; exact hz))
      · simp only [binSem, if_neg hz] at p
        exact p.elim
    | _ => exact p.elim
  | @lst a vs ds h1 h2 h3 =>
    cases re with
    | @lst b us es k1 k2 k3 =>
      by_cases hz : ds.length + es.length ≤ sizeLine
      · simp only [binSem, if_pos hz] at p
        have l1 := h2.length
        have l2 := k2.length
        refine .inr (.inr (.inr ⟨a, b, vs, us, rfl, rfl, del_lst h1, del_lst k1, by omega, fun q hq => ?_⟩))
        exact p _ _ _ (w.laid hq _) (w.newLst hq (h2.append k2) (by rw [List.length_append]; exact hz))
      · simp only [binSem, if_neg hz] at p
        exact p.elim
    | _ => exact p.elim
  | _ => exact p.elim
/-- operators of ints alone -/
theorem bin_int {op : Operator} {C : Int → Int → Prop} {g : Int → Int → Int} (h : OpR X (binaryOp op) (rI C fun i j => .int (g i j)))
    (hs : ∀ i j S, (∃ c : Prop, ∃ _ : Decidable c, (c → C i j) ∧ binSem op (.int i) (.int j) S = (if c then M.ret (.int (g i j)) else M.stk) S)) (hn : ∀ d e S, (¬ ∃ i j, d = .int i ∧ e = .int j) → binSem op d e S = .stuck) : OpR X (binaryOp op) (r2 X.K (binSem op)) := by
  refine opImp h ?_
  rintro x y H Q ⟨F, ρ, S, d, e, w, rd, re, p⟩
  by_cases hd : ∃ i j, d = .int i ∧ e = .int j
  · obtain ⟨i, j, rfl, rfl⟩ := hd
    cases rd
    cases re
    obtain ⟨c, dc, hc, e⟩ := hs i j S
    rw [e] at p
    by_cases k : c
    · rw [if_pos k] at p
      exact ⟨i, j, rfl, rfl, hc k, p.ok w (.int _)⟩
    · rw [if_neg k] at p
      exact p.elim
  · rw [hn d e S hd] at p
    exact p.elim
theorem bin_sub : OpR X (binaryOp .Sub) (r2 X.K (binSem .Sub)) := by
  refine bin_int (C := fun _ _ => True) (opImp op_sub ?_) (fun i j S => ⟨True, inferInstance, fun _ => trivial, rfl⟩) fun d e S h => ?_
  · rintro x y H Q ⟨i, j, a, b, _, q⟩
    exact ⟨i, j, a, b, q⟩
  · cases d <;> cases e <;> first | rfl | exact absurd ⟨_, _, rfl, rfl⟩ h
theorem bin_mul : OpR X (binaryOp .Mult) (r2 X.K (binSem .Mult)) := by
  refine bin_int op_mul (fun i j S => ⟨i.natAbs < 2 ^ 64 ∨ j.natAbs < 2 ^ 64, inferInstance, fun h => ?_, rfl⟩) fun d e S h => ?_
  · unfold CMul
    omega
  · cases d <;> cases e <;> first | rfl | exact absurd ⟨_, _, rfl, rfl⟩ h
theorem bin_mod : OpR X (binaryOp .Mod) (r2 X.K (binSem .Mod)) := by
  refine bin_int op_mod (fun i j S => ⟨0 < j, inferInstance, fun h => h, rfl⟩) fun d e S h => ?_
  cases d <;> cases e <;> first | rfl | exact absurd ⟨_, _, rfl, rfl⟩ h
theorem bin_fdiv : OpR X (binaryOp .FloorDiv) (r2 X.K (binSem .FloorDiv)) := by
  refine bin_int op_fdiv (fun i j S => ⟨0 < j ∧ j < 1073741824, inferInstance, fun h => h, rfl⟩) fun d e S h => ?_
  cases d <;> cases e <;> first | rfl | exact absurd ⟨_, _, rfl, rfl⟩ h
theorem bin_pow : OpR X (binaryOp .Pow) (r2 X.K (binSem .Pow)) := by
  refine bin_int op_pow (fun i j S => ⟨0 ≤ j ∧ j ≤ 1000 ∧ i.natAbs < 2 ^ 64, inferInstance, fun h => ?_, rfl⟩) fun d e S h => ?_
  · unfold CPow
    omega
  · cases d <;> cases e <;> first | rfl | exact absurd ⟨_, _, rfl, rfl⟩ h
theorem bin_all : ∀ op, OpR X (binaryOp op) (r2 X.K (binSem op))
  | .Add => bin_add
  | .Sub => bin_sub
  | .Mult => bin_mul
  | .Mod => bin_mod
  | .FloorDiv => bin_fdiv
  | .Pow => bin_pow
  | .MatMult => opNone fun x y H Q ⟨F, ρ, S, d, e, w, rd, re, p⟩ => by cases d <;> cases e <;> exact p
  | .Div => opNone fun x y H Q ⟨F, ρ, S, d, e, w, rd, re, p⟩ => by cases d <;> cases e <;> exact p
  | .LShift => opNone fun x y H Q ⟨F, ρ, S, d, e, w, rd, re, p⟩ => by cases d <;> cases e <;> exact p
  | .RShift => opNone fun x y H Q ⟨F, ρ, S, d, e, w, rd, re, p⟩ => by cases d <;> cases e <;> exact p
  | .BitOr => opNone fun x y H Q ⟨F, ρ, S, d, e, w, rd, re, p⟩ => by cases d <;> cases e <;> exact p
  | .BitXor => opNone fun x y H Q ⟨F, ρ, S, d, e, w, rd, re, p⟩ => by cases d <;> cases e <;> exact p
  | .BitAnd => opNone fun x y H Q ⟨F, ρ, S, d, e, w, rd, re, p⟩ => by cases d <;> cases e <;> exact p
end
end Z

/-! Z3: comparisons -/
namespace Z
open PySem PySem.Spec PyProof.Rows L2
section
variable {X : Cx}
/-- two data -/
def rDD (K : PySem.W.Frag) (ok : PyData → PyData → Prop) (g : PyData → PyData → Bool) : R2 := fun x y H Q => ∃ d e, Dp K H x d ∧ Dp K H y e ∧ d.canLay0 = true ∧ e.canLay0 = true ∧ min d.depth e.depth ≤ many ∧ ok d e ∧ Q (.bl (g d e)) H
theorem op_dd {op : CmpOp} {ok : PyData → PyData → Prop} {g : PyData → PyData → Bool} (hu : X.A.units + many + 5 < cLine)
    (h : ∀ (s : Shared) (v u : Value) (d e : PyData) (as bs : List Addr) (Q : Value → Shared → Prop), Reads s.heap v d as → Reads s.heap u e bs → d.canLay0 = true → e.canLay0 = true → ok d e → X.A.units + min d.depth e.depth < cLine → Q (.bool (g d e)) s → wpAny (model X.prog X.w) X.A (compareOp op v u) Q X.xe s) :
    OpR X (compareOp op) (rDD X.K ok g) := by
  intro pins s σ H x y v u Q I rx ry q
  obtain ⟨d, e, hd, he, ld, le, hm, hok, q⟩ := q
  obtain ⟨as, r1⟩ := Dp.reads I d x v hd rx
  obtain ⟨bs, r2⟩ := Dp.reads I e y u he ry
  exact h s v u d e as bs _ r1 r2 ld le hok (by omega) ⟨.bl _, H, I, rfl, q⟩
theorem op_eqZ (hu : X.A.units + many + 5 < cLine) : OpR X (compareOp .Eq) (rDD X.K (fun _ _ => True) PyData.eqv) :=
  op_dd hu fun s v u d e as bs Q r1 r2 l1 l2 _ hr q => SeqAt.compareEq_reads r1 r2 l1 l2 hr q
theorem op_neZ (hu : X.A.units + many + 5 < cLine) : OpR X (compareOp .NotEq) (rDD X.K (fun _ _ => True) fun d e => !PyData.eqv d e) :=
  op_dd hu fun s v u d e as bs Q r1 r2 l1 l2 _ hr q => SeqAt.compareNe_reads r1 r2 l1 l2 hr q
theorem op_ltZ (hu : X.A.units + many + 5 < cLine) : OpR X (compareOp .Lt) (rDD X.K (fun d e => PySem.W.alike d e = true ∧ d ≠ .none) PySem.W.dataLt) :=
  op_dd hu fun s v u d e as bs Q r1 r2 l1 l2 h hr q => PySem.W.lt_data r1 r2 h.1 h.2 hr q
theorem op_leZ (hu : X.A.units + many + 5 < cLine) : OpR X (compareOp .LtE) (rDD X.K (fun d e => PySem.W.alike d e = true ∧ d ≠ .none) fun d e => !PySem.W.dataLt e d) :=
  op_dd hu fun s v u d e as bs Q r1 r2 l1 l2 h hr q => PySem.W.le_data r1 r2 h.1 h.2 hr q

theorem rdd_of {K : PySem.W.Frag} {ok : PyData → PyData → Prop} {g : PyData → PyData → Bool} {H : Hp} {F : Fs} {ρ : List Addr} {S : Store} {x y : V} {d e : D} {Q : VK} {b : Bool} (w : Wf K H F ρ S) (rd : Rep K (del H F ρ) ρ x d) (re : Rep K (del H F ρ) ρ y e)
    (h : d.dat = true) (h' : e.dat = true) (hm : min d.dep e.dep ≤ many) (hok : ok d.py e.py) (hb : g d.py e.py = b) (p : Post K F H ρ Q (okB b S)) : rDD K ok g x y H Q :=
  ⟨d.py, e.py, rd.dpH h, re.dpH h', rd.lay, re.lay, by rw [py_depth, py_depth]; exact hm, hok, by rw [hb]; exact Post.ok w (.bl b) p⟩
theorem cmp_eq (hu : X.A.units + many + 5 < cLine) : OpR X (compareOp .Eq) (r2 X.K (cmpSem .Eq)) := by
  refine opImp (op_eqZ hu) ?_
  rintro x y H Q ⟨F, ρ, S, d, e, w, rd, re, p⟩
  simp only [cmpSem, dEq] at p
  by_cases h : (d.dat && e.dat && decide (min d.dep e.dep ≤ many)) = true
  · rw [if_pos h] at p
    simp only [Bool.and_eq_true, decide_eq_true_eq] at h
    exact rdd_of w rd re h.1.1 h.1.2 h.2 trivial rfl p
  · rw [if_neg h] at p
    exact p.elim
theorem cmp_ne (hu : X.A.units + many + 5 < cLine) : OpR X (compareOp .NotEq) (r2 X.K (cmpSem .NotEq)) := by
  refine opImp (op_neZ hu) ?_
  rintro x y H Q ⟨F, ρ, S, d, e, w, rd, re, p⟩
  simp only [cmpSem, dEq] at p
  by_cases h : (d.dat && e.dat && decide (min d.dep e.dep ≤ many)) = true
  · rw [if_pos h] at p
    simp only [Bool.and_eq_true, decide_eq_true_eq] at h
    exact rdd_of w rd re h.1.1 h.1.2 h.2 trivial rfl p
  · rw [if_neg h] at p
    exact p.elim
theorem alk_iff {d e : D} (h : alk d e = true) (hd : d.dat = true) : PySem.W.alike d.py e.py = true ∧ d.py ≠ .none := by
  unfold alk at h
  cases d <;> simp_all [D.py, D.dat]
theorem cmp_lt (hu : X.A.units + many + 5 < cLine) : OpR X (compareOp .Lt) (r2 X.K (cmpSem .Lt)) := by
  refine opImp (OpR.or op_lt (op_ltZ hu)) ?_
  rintro x y H Q ⟨F, ρ, S, d, e, w, rd, re, p⟩
  by_cases hi : ∃ i j, d = .int i ∧ e = .int j
  · obtain ⟨i, j, rfl, rfl⟩ := hi
    cases rd
    cases re
    exact .inl ⟨i, j, rfl, rfl, p.ok w (.bl _)⟩
  · have e1 : cmpSem .Lt d e S = toB (dLt d e) S := by
      cases d <;> first | rfl | (cases e <;> first | rfl | exact absurd ⟨_, _, rfl, rfl⟩ hi)
    rw [e1] at p
    simp only [dLt] at p
    by_cases h : (d.dat && e.dat && alk d e && decide (min d.dep e.dep ≤ many)) = true
    · rw [if_pos h] at p
      simp only [Bool.and_eq_true, decide_eq_true_eq] at h
      exact .inr (rdd_of w rd re h.1.1.1 h.1.1.2 h.2 (alk_iff h.1.2 h.1.1.1) rfl p)
    · rw [if_neg h] at p
      exact p.elim
theorem cmp_le (hu : X.A.units + many + 5 < cLine) : OpR X (compareOp .LtE) (r2 X.K (cmpSem .LtE)) := by
  refine opImp (OpR.or op_le (op_leZ hu)) ?_
  rintro x y H Q ⟨F, ρ, S, d, e, w, rd, re, p⟩
  by_cases hi : ∃ i j, d = .int i ∧ e = .int j
  · obtain ⟨i, j, rfl, rfl⟩ := hi
    cases rd
    cases re
    exact .inl ⟨i, j, rfl, rfl, p.ok w (.bl _)⟩
  · have e1 : cmpSem .LtE d e S = toB (dLe d e) S := by
      cases d <;> first | rfl | (cases e <;> first | rfl | exact absurd ⟨_, _, rfl, rfl⟩ hi)
    rw [e1] at p
    simp only [dLe] at p
    by_cases h : (d.dat && e.dat && alk d e && decide (min d.dep e.dep ≤ many)) = true
    · rw [if_pos h] at p
      simp only [Bool.and_eq_true, decide_eq_true_eq] at h
      exact .inr (rdd_of w rd re h.1.1.1 h.1.1.2 h.2 (alk_iff h.1.2 h.1.1.1) rfl p)
    · rw [if_neg h] at p
      exact p.elim
theorem cmp_gt : OpR X (compareOp .Gt) (r2 X.K (cmpSem .Gt)) := by
  refine opImp op_gt ?_
  rintro x y H Q ⟨F, ρ, S, d, e, w, rd, re, p⟩
  cases rd with
  | int i =>
    cases re with
    | int j => exact ⟨i, j, rfl, rfl, p.ok w (.bl _)⟩
    | _ => exact p.elim
  | _ => cases re <;> exact p.elim
theorem cmp_ge : OpR X (compareOp .GtE) (r2 X.K (cmpSem .GtE)) := by
  refine opImp op_ge ?_
  rintro x y H Q ⟨F, ρ, S, d, e, w, rd, re, p⟩
  cases rd with
  | int i =>
    cases re with
    | int j => exact ⟨i, j, rfl, rfl, p.ok w (.bl _)⟩
    | _ => exact p.elim
  | _ => cases re <;> exact p.elim
theorem rep_non {K : PySem.W.Frag} {G : Hp} {ρ : List Addr} {x : V} {d : D} (r : Rep K G ρ x d) : decide (x = .non) = (match d with | .non => true | _ => false) := by
  cases r <;> simp
theorem cmp_is : OpR X (compareOp .Is) (r2 X.K (cmpSem .Is)) := by
  refine opImp (OpR.or op_isN op_isBl) ?_
  rintro x y H Q ⟨F, ρ, S, d, e, w, rd, re, p⟩
  cases re with
  | non =>
    refine .inl ⟨rfl, ?_⟩
    rw [rep_non rd]
    cases d <;> exact Post.ok w (.bl _) p
  | bl b =>
    cases rd with
    | bl a => exact .inr ⟨a, b, rfl, rfl, p.ok w (.bl _)⟩
    | _ => exact p.elim
  | _ => cases rd <;> exact p.elim
theorem cmp_isnot : OpR X (compareOp .IsNot) (r2 X.K (cmpSem .IsNot)) := by
  refine opImp op_notN ?_
  rintro x y H Q ⟨F, ρ, S, d, e, w, rd, re, p⟩
  cases re with
  | non =>
    refine ⟨rfl, ?_⟩
    rw [rep_non rd]
    cases d <;> exact Post.ok w (.bl _) p
  | _ => cases rd <;> exact p.elim
/-- in a list, a tuple, of data -/
def rIn (K : PySem.W.Frag) (g : Bool → Bool) : R2 := fun x y H Q => ∃ d ds, Dp K H x d ∧ (Dp K H y (.list ds) ∨ Dp K H y (.tuple ds)) ∧ d.canLay0 = true ∧ PyData.canLayAll0 ds = true ∧ d.depth ≤ many ∧ Q (.bl (g (ds.any fun z => PyData.eqv z d))) H
theorem op_inZ (hu : X.A.units + many + 5 < cLine) : OpR X (compareOp .In) (rIn X.K id) := by
  intro pins s σ H x y v u Q I rx ry h
  obtain ⟨d, ds, hd, he, ld, ls, hm, q⟩ := h
  obtain ⟨as, r1⟩ := Dp.reads I d x v hd rx
  rcases he with he | he
  · obtain ⟨bs, r2⟩ := Dp.reads I (.list ds) y u he ry
    exact SeqAt.in_list_reads r2 r1 ls ld (by omega) ⟨.bl _, H, I, rfl, q⟩
  · obtain ⟨bs, r2⟩ := Dp.reads I (.tuple ds) y u he ry
    exact SeqAt.in_tuple_reads r2 r1 ls ld (by omega) ⟨.bl _, H, I, rfl, q⟩
theorem op_notInZ (hu : X.A.units + many + 5 < cLine) : OpR X (compareOp .NotIn) (rIn X.K not) := by
  intro pins s σ H x y v u Q I rx ry h
  obtain ⟨d, ds, hd, he, ld, ls, hm, q⟩ := h
  obtain ⟨as, r1⟩ := Dp.reads I d x v hd rx
  rcases he with he | he
  · obtain ⟨bs, r2⟩ := Dp.reads I (.list ds) y u he ry
    exact SeqAt.notIn_list_reads r2 r1 ls ld (by omega) ⟨.bl _, H, I, rfl, q⟩
  · obtain ⟨bs, r2⟩ := Dp.reads I (.tuple ds) y u he ry
    exact SeqAt.notIn_tuple_reads r2 r1 ls ld (by omega) ⟨.bl _, H, I, rfl, q⟩
theorem any_py (xs : List D) (a : D) : ((D.pys xs).any fun z => PyData.eqv z a.py) = xs.any fun x => PyData.eqv x.py a.py := by
  rw [pys_map, List.any_map]
  rfl
theorem rIn_of {K : PySem.W.Frag} {g : Bool → Bool} {H : Hp} {F : Fs} {ρ : List Addr} {S : Store} {x y : V} {d : D} {xs : List D} {Q : VK} (w : Wf K H F ρ S) (rd : Rep K (del H F ρ) ρ x d) (re : Rep K (del H F ρ) ρ y (.lst xs) ∨ Rep K (del H F ρ) ρ y (.tup xs))
    (p : Post K F H ρ Q ((if d.dat && D.dats xs && decide (d.dep ≤ many) then okB (g (xs.any fun x => PyData.eqv x.py d.py)) else M.stk) S)) : rIn K g x y H Q := by
  by_cases h : (d.dat && D.dats xs && decide (d.dep ≤ many)) = true
  · rw [if_pos h] at p
    simp only [Bool.and_eq_true, decide_eq_true_eq] at h
    refine ⟨d.py, D.pys xs, rd.dpH h.1.1, ?_, rd.lay, ?_, by rw [py_depth]; exact h.2, by rw [any_py]; exact Post.ok w (.bl _) p⟩
    · rcases re with re | re
      · exact .inl (re.dpH (d := .lst xs) (by simpa only [D.dat] using h.1.2))
      · exact .inr (re.dpH (d := .tup xs) (by simpa only [D.dat] using h.1.2))
    · rcases re with re | re
      · cases re with
        | lst a b c => exact b.lay
      · cases re with
        | tup a b c => exact b.lay
  · rw [if_neg h] at p
    exact p.elim
theorem str_one {s : Str} {c : Nat} (h : s.cps.toList = [c]) : s = ⟨#[c]⟩ := by
  obtain ⟨cs⟩ := s
  have : cs = #[c] := Array.toList_inj.mp h
  rw [this]
theorem cmp_in (hu : X.A.units + many + 5 < cLine) : OpR X (compareOp .In) (r2 X.K (cmpSem .In)) := by
  refine opImp (OpR.or op_in_sign (op_inZ hu)) ?_
  rintro x y H Q ⟨F, ρ, S, d, e, w, rd, re, p⟩
  cases re with
  | @str z zz zo =>
    cases rd with
    | @str a za oa =>
      simp only [cmpSem] at p
      generalize hc : a.cps.toList = l at p
      match l, hc, p with
      | [c], hc, p => exact .inl ⟨c, _, by rw [str_one hc], rfl, p.ok w (.bl _)⟩
      | [], _, p => exact p.elim
      | _ :: _ :: _, _, p => exact p.elim
    | _ => exact p.elim
  | lst a b c => exact .inr (rIn_of w rd (.inl (.lst a b c)) (by cases d <;> exact p))
  | tup a b c => exact .inr (rIn_of w rd (.inr (.tup a b c)) (by cases d <;> exact p))
  | _ => cases rd <;> exact p.elim
theorem cmp_notin (hu : X.A.units + many + 5 < cLine) : OpR X (compareOp .NotIn) (r2 X.K (cmpSem .NotIn)) := by
  refine opImp (op_notInZ hu) ?_
  rintro x y H Q ⟨F, ρ, S, d, e, w, rd, re, p⟩
  cases re with
  | lst a b c => exact rIn_of w rd (.inl (.lst a b c)) (by cases d <;> exact p)
  | tup a b c => exact rIn_of w rd (.inr (.tup a b c)) (by cases d <;> exact p)
  | _ => cases rd <;> exact p.elim
theorem cmp_all (hu : X.A.units + many + 5 < cLine) : ∀ op, OpR X (compareOp op) (r2 X.K (cmpSem op))
  | .Eq => cmp_eq hu
  | .NotEq => cmp_ne hu
  | .Lt => cmp_lt hu
  | .LtE => cmp_le hu
  | .Gt => cmp_gt
  | .GtE => cmp_ge
  | .Is => cmp_is
  | .IsNot => cmp_isnot
  | .In => cmp_in hu
  | .NotIn => cmp_notin hu
end
end Z

/-! Z4: sorted of a list, a tuple, a text -/
namespace Z
open PySem PySem.Spec PyProof.Rows PySem.W PySem.Calls

section
variable {prog : Program} {w : World} {A : Around} {E : Value → Shared → Prop} {s : Shared}
/-- what sorted does with the items -/
theorem sorted_by {v : Value} {Q : Value → Shared → Prop}
    (col : wpAny (model prog w) A.in1 (collect v) (fun vs s1 => vs.length ≤ sizeLine ∧ ∀ E' : Value → Shared → Prop, wpAny (model prog w) A.in1.in1 (Builtin.«list.sort» ⟨[.ref s1.heap.objs.size], []⟩) (fun f s' => f = .done (.ret .none) ∧ Q (.ref s1.heap.objs.size) s') E' { s1 with heap := s1.heap.push (seqObj "list" vs.toArray 0) }) E s) :
    wpAny (model prog w) A (call (.builtin "sorted") [v]) Q E s := by
  refine call_function_entry kind_sorted plain_sorted entry_sorted (args_sorted1 _) ?_
  unfold Builtin.«sorted»
  refine wpAny_bind (m := checkCount "sorted" 1 1 _) (wpAny_pure ?_)
  refine wpAny_bind (wpAny_mono col (fun vs s1 h => ?_) fun _ _ e => e)
  obtain ⟨hL, body⟩ := h
  refine wpAny_bind (wpAny_newList ?_ hL)
  show wpAny _ _ _ _ _ { s1 with heap := s1.heap.push (seqObj "list" vs.toArray 0) }
  refine wpAny_bind (wpAny_holding (wpAny_call_entry_kw slot_list_sort ⟨_, Heap.get?_push_size _ rfl, rfl⟩ entry_list_sort ?body (args_list_sort _)))
  case body =>
    refine wpAny_mono (body _) (fun f s' hf => ?_) fun _ _ e => e
    obtain ⟨rfl, hq⟩ := hf
    exact ⟨_, rfl, wpAny_pure ⟨_, rfl, hq⟩⟩
theorem collect_tuple {l : Addr} {vs : List Value} {Q : List Value → Shared → Prop} (hl : IsTup s.heap l vs.toArray)
    (h : Q vs { s with heap := (s.heap.push (seqObj "list" #[] 0)).update s.heap.objs.size (Obj.mapSeq (· ++ vs.toArray)) }) (hsz : vs.length ≤ sizeLine) :
    wpAny (model prog w) A (collect (.ref l)) Q E s := by
  obtain ⟨o, ho, hc, n, hd⟩ := id hl
  unfold collect
  refine wpAny_bind (wpAny_runValue (codeAny_builtin entry_proto_collect' ?_))
  show wpAny _ _ (do again (.builtin "list.__iadd__" ⟨[← newList [], .ref l], []⟩)) _ _ s
  refine wpAny_bind (wpAny_newList (wpAny_pure ⟨Code.quiet_builtin _ (by decide +kernel), codeAny_builtin entry_list_iadd' ?_⟩))
  show wpAny _ _ (Builtin.List.listExtendWith (.ref s.heap.objs.size) (.ref l) (.ref s.heap.objs.size)) _ _ { s with heap := s.heap.push (seqObj "list" #[] 0) }
  unfold Builtin.List.listExtendWith
  have ho' : (s.heap.push (seqObj "list" #[] 0)).get? l = some o := Heap.get?_push_of_some _ ho
  refine wpAny_bind (wpAny_typeOf (T := "tuple") ⟨o, ho', hc⟩ ?_)
  have ht : (Value.type "tuple" == Value.type "tuple") = true := by rfl
  rw [if_pos (by rw [ht]; simp)]
  refine wpAny_bind (listItems_at ho' hd ?_)
  refine wpAny_bind (listItems_at (xs := #[]) (n := 0) (Heap.get?_push_size _ rfl) rfl ?_)
  rw [if_neg (by simp)]
  refine wpAny_bind (listUpdate_at (xs := #[]) (n := 0) (Heap.get?_push_size _ rfl) rfl ?_ (Nat.zero_le _) (by show (#[] ++ vs.toArray).size ≤ sizeLine + 1; simp only [Array.size_append, List.size_toArray, List.length_nil]; omega))
  refine wpAny_pure ?_
  show wpAny (model prog w) A (do
      let o ← load s.heap.objs.size
      match o.data with
      | .seq xs _ => pure xs.toList
      | _ => unsupported "internal:collect") Q E { s with heap := (s.heap.push (seqObj "list" #[] 0)).update s.heap.objs.size (Obj.mapSeq (· ++ vs.toArray)) }
  refine wpAny_bind (wpAny_load (get?_update_seq (Heap.get?_push_size _ rfl) _) ?_)
  show wpAny _ _ (pure ((#[] : Array Value) ++ vs.toArray).toList) Q E _
  rw [show ((#[] : Array Value) ++ vs.toArray).toList = vs by simp]
  exact wpAny_pure h
/-- the new list behind list.sort: the sorted items; the heap keeps what stood -/
theorem sort_new {β : Type} {enc : β → PyData} {R : Value → β → Prop} {vs : List Value} {bs : List β} {s1 : Shared} {Q : Value → Shared → Prop} (e : EachIs R vs bs) (er : EachIs (fun v b => ∃ as, Reads s1.heap v (enc b) as) vs bs) (hal : AllAlike (bs.map enc)) (hk : Sortable (bs.map enc)) (hL : bs.length ≤ sizeLine)
    (hu : ∀ b, b ∈ bs → A.units + 2 + (enc b).depth < cLine)
    (h : ∀ (out : List Value) (h' : Heap), out.length = bs.length → EachIs R out (bs.mergeSort (dataLe false enc)) → (∀ b o, s1.heap.get? b = some o → h'.get? b = some o) → s1.heap.objs.size < h'.objs.size →
      (∃ n, h'.get? s1.heap.objs.size = some { cls := .type "list", data := .seq out.toArray n }) → Q (.ref s1.heap.objs.size) { s1 with heap := h' }) :
    ∀ E' : Value → Shared → Prop, wpAny (model prog w) A.in1.in1 (Builtin.«list.sort» ⟨[.ref s1.heap.objs.size], []⟩) (fun f s' => f = .done (.ret .none) ∧ Q (.ref s1.heap.objs.size) s') E' { s1 with heap := s1.heap.push (seqObj "list" vs.toArray 0) } := by
  intro E'
  have hob : (s1.heap.push (seqObj "list" vs.toArray 0)).get? s1.heap.objs.size = some (seqObj "list" vs.toArray 0) := Heap.get?_push_size _ rfl
  have old : ∀ b o, s1.heap.get? b = some o → (sortingHeap (s1.heap.push (seqObj "list" vs.toArray 0)) s1.heap.objs.size vs).get? b = some o := fun b o q =>
    sortingHeap_old (Nat.ne_of_lt (Heap.lt_size q)) (Heap.get?_push_of_some _ q)
  have er' : EachIs (fun v b => ∃ as, Reads (sortingHeap (s1.heap.push (seqObj "list" vs.toArray 0)) s1.heap.objs.size vs) v (enc b) as) vs bs := er.mono fun _ _ ⟨as, r⟩ => ⟨as, PyProof.Rows.Reads.keeps old r⟩
  have el := e.length
  refine list_sort_vals (s := { s1 with heap := s1.heap.push (seqObj "list" vs.toArray 0) }) hob (SortsAt.data (A := A.in1.in1) (s := { s1 with heap := sortingHeap (s1.heap.push (seqObj "list" vs.toArray 0)) s1.heap.objs.size vs }) (each_map (R := fun v d => ∃ as, Reads (sortingHeap (s1.heap.push (seqObj "list" vs.toArray 0)) s1.heap.objs.size vs) v d as) enc er') hal hk (bound_map hu)) (by rw [el]; exact hL) ⟨rfl, ?_⟩
  refine h _ _ (by rw [sortVals_length false rfl]; exact el) (sortVals_data false e er' hal) (fun b o q => ?_) ?_ ?_
  · unfold sortedHeap
    rw [Heap.get?_update_other _ _ (Nat.ne_of_gt (Heap.lt_size q))]
    exact old b o q
  · unfold sortedHeap
    rw [Heap.size_update, Heap.size_push, Heap.size_push, Heap.size_update, Heap.size_push]
    omega
  · have q1 : ((s1.heap.push (seqObj "list" vs.toArray 0)).update s1.heap.objs.size (Obj.mapSeq fun _ => #[])).get? s1.heap.objs.size = some (Obj.mapSeq (fun _ => #[]) (seqObj "list" vs.toArray 0)) := get?_update_seq (Heap.get?_push_size _ rfl) _
    have q2 := Heap.get?_push_of_some (seqObj "tuple" vs.toArray 0) q1
    have q3 := Heap.get?_push_of_some (seqObj "list" #[] 0) q2
    obtain ⟨n, q⟩ : ∃ n, Obj.mapSeq (fun _ => #[]) (seqObj "list" vs.toArray 0) = seqObj "list" #[] n := ⟨_, rfl⟩
    rw [q] at q3
    unfold sortedHeap
    exact ⟨_, get?_update_seq q3 _⟩
end
end Z

namespace Z
open PySem PySem.Spec PyProof.Rows L2
section
variable {X : Cx}
theorem each_repA {K : PySem.W.Frag} {G : Hp} {ρ : List Addr} : ∀ {vs : List V} {us : List Value} {ds : List D}, Vals vs us → RepA K G ρ vs ds → PySem.W.EachIs (fun u d => ∃ v, RelV v u ∧ Rep K G ρ v d) us ds
  | [], [], [], _, _ => .nil
  | [], [], _ :: _, _, r => nomatch r
  | _ :: _, _, [], _, r => nomatch r
  | [], _ :: _, _, q, _ => nomatch q
  | _ :: _, [], _, q, _ => nomatch q
  | v :: vs, u :: us, d :: ds, q, r => by
    cases q with
    | cons q1 q2 =>
      cases r with
      | cons r1 r2 => exact .cons ⟨v, q1, r1⟩ (each_repA q2 r2)
theorem repA_each {K : PySem.W.Frag} {G : Hp} {ρ : List Addr} : ∀ {us : List Value} {ds : List D}, PySem.W.EachIs (fun u d => ∃ v, RelV v u ∧ Rep K G ρ v d) us ds → ∃ vs, Vals vs us ∧ RepA K G ρ vs ds
  | [], [], _ => ⟨[], .nil, .nil⟩
  | [], _ :: _, r => nomatch r
  | _ :: _, [], r => nomatch r
  | u :: us, d :: ds, r => by
    cases r with
    | cons r1 r2 =>
      obtain ⟨v, q1, q2⟩ := r1
      obtain ⟨vs, q3, q4⟩ := repA_each r2
      exact ⟨v :: vs, .cons q1 q3, .cons q2 q4⟩
theorem each_reads {pins : List (Addr × Obj)} {σ : L2.St} {H : Hp} {s : Shared} {F : Fs} {ρ : List Addr} (I : L2.Inv X pins σ H s) : ∀ {us : List Value} {ds : List D}, D.dats ds = true → PySem.W.EachIs (fun u d => ∃ v, RelV v u ∧ Rep X.K (del H F ρ) ρ v d) us ds → PySem.W.EachIs (fun u d => ∃ as, Reads s.heap u d.py as) us ds
  | [], [], _, _ => .nil
  | [], _ :: _, _, r => nomatch r
  | _ :: _, [], _, r => nomatch r
  | u :: us, d :: ds, f, r => by
    have f2 : d.dat = true ∧ D.dats ds = true := by simpa [D.dats] using f
    cases r with
    | cons r1 r2 =>
      obtain ⟨v, q1, q2⟩ := r1
      exact .cons (Dp.reads I d.py v u (q2.dpH f2.1) q1) (each_reads I f2.2 r2)
theorem deps_mem : ∀ {ds : List D} {d : D}, d ∈ ds → d.dep ≤ D.deps ds
  | e :: ds, d, h => by
    simp only [D.deps]
    rcases List.mem_cons.mp h with rfl | h
    · omega
    · have := deps_mem h
      omega
theorem sortOk_al {xs : List D} (h : alikeD xs = true) : PySem.W.AllAlike (xs.map D.py) := by
  intro d hd d' hd'
  obtain ⟨b, hb, rfl⟩ := List.mem_map.mp hd
  obtain ⟨b', hb', rfl⟩ := List.mem_map.mp hd'
  exact List.all_eq_true.mp (List.all_eq_true.mp h b hb) b' hb'
theorem sortOk_st {xs : List D} (h : sortable xs = true) : PySem.W.Sortable (xs.map D.py) := by
  unfold sortable at h
  rcases Bool.or_eq_true_iff.mp h with h | h
  · refine .inl fun d hd => ?_
    obtain ⟨b, hb, rfl⟩ := List.mem_map.mp hd
    have q := List.all_eq_true.mp h b hb
    match b, q with
    | .tup (x :: r), _ => exact ⟨x.py, D.pys r, by simp only [D.py, D.pys]⟩
  · refine .inr fun d hd => ?_
    obtain ⟨b, hb, rfl⟩ := List.mem_map.mp hd
    have q := List.all_eq_true.mp h b hb
    cases b with
    | non => cases q
    | loc _ => cases q
    | scr _ => cases q
    | tup _ => cases q
    | bl _ => exact ⟨(fun z => nomatch z), (fun xs z => nomatch z)⟩
    | int _ => exact ⟨(fun z => nomatch z), (fun xs z => nomatch z)⟩
    | str _ => exact ⟨(fun z => nomatch z), (fun xs z => nomatch z)⟩
    | lst _ => exact ⟨(fun z => nomatch z), (fun xs z => nomatch z)⟩
/-- sorted of values that hold data: a new list -/
def rSort (K : PySem.W.Frag) : List V → Hp → VK → Prop := fun vs H Q => ∃ (a : Addr) (ys : List V) (F : Fs) (ρ : List Addr) (ds : List D), vs = [.ref a] ∧ (SqL K H a ys ∨ SqT K H a ys) ∧ RepA K (del H F ρ) ρ ys ds ∧ sortOk ds = true ∧ ds.length ≤ sizeLine ∧
  ∀ (p : Addr) (zs : List V), H p = none → RepA K (del H F ρ) ρ zs (sortD ds) → Q (.ref p) (upd H p (.lst zs))
theorem cr_sort (hu : X.A.units + many + 5 < cLine) : CallR X (.builtin "sorted") (rSort X.K) := by
  intro pins s σ H vs us Q I r h
  obtain ⟨a, ys, F, ρ, ds, rfl, hs, hr, hok, hz, q⟩ := h
  obtain ⟨u, rfl, ru⟩ := vals1 r
  cases ru
  unfold sortOk at hok
  obtain ⟨ok1, hok⟩ := Bool.and_eq_true_iff.mp hok
  obtain ⟨ok2, hok⟩ := Bool.and_eq_true_iff.mp hok
  obtain ⟨ok3, ok4⟩ := Bool.and_eq_true_iff.mp hok
  have ok4 : D.deps ds ≤ many := of_decide_eq_true ok4
  have fin : ∀ (its : List Value), Vals ys its → ∀ (h1 : Heap), (∀ b o, s.heap.get? b = some o → h1.get? b = some o) → its.length ≤ sizeLine ∧ ∀ E' : Value → Shared → Prop, wpAny (model X.prog X.w) X.A.in1.in1 (Builtin.«list.sort» ⟨[.ref h1.objs.size], []⟩)
      (fun f s' => f = .done (.ret .none) ∧ EP X pins σ Q (.ref h1.objs.size) s') E' { s with heap := h1.push (PyProof.Rows.seqObj "list" its.toArray 0) } := by
    intro its rv h1 kp
    have e := each_repA rv hr
    have el := e.length
    refine ⟨by rw [el]; exact hz, ?_⟩
    have I1 : L2.Inv X pins σ H { s with heap := h1 } := I.kept (t' := s.toks) kp
    refine sort_new (s1 := { s with heap := h1 }) (enc := D.py) e (each_reads I1 ok1 e) (sortOk_al ok2) (sortOk_st ok3) hz (fun b hb => ?_) fun out h' ho eo kp' hlt hat => ?_
    · rw [py_depth]
      have := deps_mem hb
      omega
    · obtain ⟨zs, rz, rr⟩ := repA_each eo
      obtain ⟨n, hat⟩ := hat
      have zl2 : zs.length = ds.length := by rw [rr.length]; exact List.length_mergeSort _
      refine ⟨.ref h1.objs.size, _, I1.laid (t' := s.toks) (o := .lst zs) kp' (Nat.le_refl _) (show ObjOk X.prog X.w _ h' _ (.lst zs) from ⟨by omega, out, n, rz, hat⟩), rfl, q _ zs (I1.hok.fresh (Nat.le_refl _)) rr⟩
  rcases hs with hs | hs
  · obtain ⟨its, rv, pl, _⟩ := I.list hs
    refine sorted_by (PyProof.Rows.collect_list pl.isList ?_ ?_)
    · have kp : ∀ b o, s.heap.get? b = some o → ((s.heap.push (PyProof.Rows.seqObj "list" #[] 0)).update s.heap.objs.size (Obj.mapSeq (· ++ its.toArray))).get? b = some o := fun b o e => by
        rw [Heap.get?_update_other _ _ (Nat.ne_of_gt (Heap.lt_size e))]
        exact Heap.get?_push_of_some _ e
      exact fin its rv _ kp
    · rw [(each_repA rv hr).length]; exact hz
  · obtain ⟨its, rv, pl, _⟩ := I.tuple hs
    refine sorted_by (collect_tuple pl ?_ ?_)
    · have kp : ∀ b o, s.heap.get? b = some o → ((s.heap.push (PyProof.Rows.seqObj "list" #[] 0)).update s.heap.objs.size (Obj.mapSeq (· ++ its.toArray))).get? b = some o := fun b o e => by
        rw [Heap.get?_update_other _ _ (Nat.ne_of_gt (Heap.lt_size e))]
        exact Heap.get?_push_of_some _ e
      exact fin its rv _ kp
    · rw [(each_repA rv hr).length]; exact hz
end
end Z

/-! Z5: built-in functions, subscripts, slices, join, isinstance -/
namespace Z
open PySem PySem.Spec PyProof.Rows L2
section
variable {X : Cx}
theorem allB_rep {K : PySem.W.Frag} {G : Hp} {ρ : List Addr} : ∀ {ds : List D} {vs : List V} {bs : List Bool}, RepA K G ρ vs ds → allB ds = some bs → vs = bs.map V.bl
  | [], _, bs, r, h => by
    cases r
    have e : [] = bs := Option.some.inj h
    subst e
    rfl
  | d :: ds, _, bs, r, h => by
    cases r with
    | cons a b =>
      cases a with
      | bl x =>
        simp only [allB] at h
        obtain ⟨cs, h1, h2⟩ := Option.map_eq_some_iff.mp h
        subst h2
        rw [allB_rep b h1]
        rfl
      | _ => cases h
theorem allI_rep {K : PySem.W.Frag} {G : Hp} {ρ : List Addr} : ∀ {ds : List D} {vs : List V} {bs : List Int}, RepA K G ρ vs ds → allI ds = some bs → vs = bs.map V.int
  | [], _, bs, r, h => by
    cases r
    have e : [] = bs := Option.some.inj h
    subst e
    rfl
  | d :: ds, _, bs, r, h => by
    cases r with
    | cons a b =>
      cases a with
      | int x =>
        simp only [allI] at h
        obtain ⟨cs, h1, h2⟩ := Option.map_eq_some_iff.mp h
        subst h2
        rw [allI_rep b h1]
        rfl
      | _ => cases h
theorem allS_rep {K : PySem.W.Frag} {G : Hp} {ρ : List Addr} : ∀ {ds : List D} {vs : List V} {bs : List Str}, RepA K G ρ vs ds → allS ds = some bs → vs = bs.map V.str ∧ ∀ x ∈ bs, PyData.strOk x = true
  | [], _, bs, r, h => by
    cases r
    have e : [] = bs := Option.some.inj h
    subst e
    exact ⟨rfl, fun x m => nomatch m⟩
  | d :: ds, _, bs, r, h => by
    cases r with
    | cons a b =>
      cases a with
      | @str x z o =>
        simp only [allS] at h
        obtain ⟨cs, h1, h2⟩ := Option.map_eq_some_iff.mp h
        subst h2
        obtain ⟨q1, q2⟩ := allS_rep b h1
        rw [q1]
        refine ⟨rfl, fun y m => ?_⟩
        rcases List.mem_cons.mp m with rfl | m
        · exact o
        · exact q2 y m
      | _ => cases h
/-- a thing of the store, read -/
theorem Wf.seq {K : PySem.W.Frag} {H : Hp} {F : Fs} {ρ : List Addr} {S : Store} {n : Nat} {a : Addr} {xs : List D} (w : Wf K H F ρ S) (e : ρ[n]? = some a) (h : S[n]? = some (.lst xs)) : ∃ vs, H a = some (.lst vs) ∧ RepA K (del H F ρ) ρ vs xs ∧ xs.length ≤ sizeLine := by
  obtain ⟨vs, h1, h2, h3, _⟩ := w.at_ n a _ e h
  exact ⟨vs, h1, h2, h3⟩
theorem seqOf_rep {K : PySem.W.Frag} {H : Hp} {F : Fs} {ρ : List Addr} {S : Store} {v : V} {d : D} {xs : List D} (w : Wf K H F ρ S) (r : Rep K (del H F ρ) ρ v d) (h : seqOf S d = some xs) :
    ∃ a vs, v = .ref a ∧ (SqL K H a vs ∨ SqT K H a vs) ∧ RepA K (del H F ρ) ρ vs xs ∧ xs.length ≤ sizeLine := by
  cases r with
  | tup a b c =>
    have e := Option.some.inj h
    subst e
    exact ⟨_, _, rfl, .inr (SqT.le del_leH a), b, c⟩
  | lst a b c =>
    have e := Option.some.inj h
    subst e
    exact ⟨_, _, rfl, .inl (.inl (.inl (del_lst a))), b, c⟩
  | scr a b c =>
    have e := Option.some.inj h
    subst e
    exact ⟨_, _, rfl, .inl (SqL.le del_leH a), b, c⟩
  | @loc a n e =>
    simp only [seqOf] at h
    cases q : S[n]? with
    | none => rw [q] at h; cases h
    | some o =>
      cases o with
      | lst ys =>
        rw [q] at h
        have e2 := Option.some.inj h
        subst e2
        obtain ⟨vs, h1, h2, h3⟩ := w.seq e q
        exact ⟨a, vs, rfl, .inl (.inl (.inl h1)), h2, h3⟩
  | _ => cases h
theorem sizeLine_one : (1 : Nat) ≤ sizeLine := by rw [sizeLine_eq]; decide
theorem sign_rep {K : PySem.W.Frag} {G : Hp} {ρ : List Addr} {z : Str} (o : PyData.strOk z = true) {c : Nat} (h : c ∈ z.cps.toList) : Rep K G ρ (.str ⟨#[c]⟩) (.str ⟨#[c]⟩) := by
  refine .str sizeLine_one ?_
  have q : z.cps.all (· < 0x110000) = true := o
  rw [← Array.all_toList] at q
  have q2 := List.all_eq_true.mp q c h
  show (#[c] : Array Nat).all (· < 0x110000) = true
  simpa using q2
theorem signs_rep {K : PySem.W.Frag} {G : Hp} {ρ : List Addr} {z : Str} (o : PyData.strOk z = true) : RepA K G ρ (z.cps.toList.map fun c => V.str ⟨#[c]⟩) (signs z) := by
  refine RepA.of (by simp [signs]) fun i v d hv hd => ?_
  unfold signs at hd
  rw [List.getElem?_map] at hv hd
  cases e : z.cps.toList[i]? with
  | none => rw [e] at hv; cases hv
  | some c =>
    rw [e] at hv hd
    have e1 := Option.some.inj hv
    have e2 := Option.some.inj hd
    subst e1 e2
    exact sign_rep o (List.mem_of_getElem? e)

/-! ### len, all, any, sum, tuple, list, int, abs -/
theorem bi_len : CallR X (.builtin "len") (rA X.K (biSem .len)) := by
  refine callImp call_len ?_
  rintro xs H Q ⟨F, ρ, S, ds, w, rd, p⟩
  cases rd with
  | nil => exact p.elim
  | @cons v vs d ds r rr =>
    cases rr with
    | cons _ _ => exact p.elim
    | nil =>
      cases h : seqOf S d with
      | some ys =>
        obtain ⟨a, us, rfl, hs, hr, hz⟩ := seqOf_rep w r h
        refine ⟨_, ys.length, rfl, ?_, ?_⟩
        · rw [← hr.length]
          rcases hs with hs | hs
          · exact .inl ⟨us, hs, rfl⟩
          · exact .inr ⟨us, hs, rfl⟩
        · have p' : Post X.K F H ρ Q (biSem .len [d] S) := p
          cases r with
          | tup a b c =>
            have e := Option.some.inj h
            subst e
            exact p'.ok w (.int _)
          | lst a b c =>
            have e := Option.some.inj h
            subst e
            exact p'.ok w (.int _)
          | scr a b c =>
            have e := Option.some.inj h
            subst e
            exact p'.ok w (.int _)
          | loc e =>
            simp only [biSem, h] at p'
            exact p'.ok w (.int _)
      | none =>
        cases r with
        | @str z zz zo => exact ⟨.str z, z.length, rfl, ⟨zz, rfl⟩, Post.ok w (.int _) p⟩
        | tup _ _ _ => cases h
        | lst _ _ _ => cases h
        | scr _ _ _ => cases h
        | non => exact p.elim
        | bl _ => exact p.elim
        | int _ => exact p.elim
        | loc e =>
          have p' : Post X.K F H ρ Q (biSem .len [.loc _] S) := p
          simp only [biSem, h] at p'
          exact p'.elim
theorem bi_all (hc : X.calm = true) : CallR X (.builtin "all") (rA X.K (biSem .all)) := by
  refine callImp (cr_all hc) ?_
  rintro xs H Q ⟨F, ρ, S, ds, w, rd, p⟩
  cases rd with
  | nil => exact p.elim
  | @cons v vs d ds r rr =>
    cases rr with
    | cons _ _ => cases r <;> exact p.elim
    | nil =>
      cases r with
      | @lst a us es h1 h2 h3 =>
        have p' : Post X.K F H ρ Q (biSem .all [.lst es] S) := p
        simp only [biSem] at p'
        cases e : allB es with
        | none => rw [e] at p'; exact p'.elim
        | some bs =>
          rw [e] at p'
          refine ⟨a, bs, rfl, ?_, p'.ok w (.bl _)⟩
          rw [← allB_rep h2 e]
          exact .inl (.inl (del_lst h1))
      | _ => exact p.elim
theorem bi_any (hc : X.calm = true) : CallR X (.builtin "any") (rA X.K (biSem .any)) := by
  refine callImp (cr_any hc) ?_
  rintro xs H Q ⟨F, ρ, S, ds, w, rd, p⟩
  cases rd with
  | nil => exact p.elim
  | @cons v vs d ds r rr =>
    cases rr with
    | cons _ _ => cases r <;> exact p.elim
    | nil =>
      cases r with
      | @lst a us es h1 h2 h3 =>
        have p' : Post X.K F H ρ Q (biSem .any [.lst es] S) := p
        simp only [biSem] at p'
        cases e : allB es with
        | none => rw [e] at p'; exact p'.elim
        | some bs =>
          rw [e] at p'
          refine ⟨a, bs, rfl, ?_, p'.ok w (.bl _)⟩
          rw [← allB_rep h2 e]
          exact .inl (.inl (del_lst h1))
      | _ => exact p.elim
theorem bi_sum (hc : X.calm = true) : CallR X (.builtin "sum") (rA X.K (biSem .sum)) := by
  refine callImp (cr_sum hc) ?_
  rintro xs H Q ⟨F, ρ, S, ds, w, rd, p⟩
  cases rd with
  | nil => exact p.elim
  | @cons v vs d ds r rr =>
    cases rr with
    | cons _ _ => cases r <;> exact p.elim
    | nil =>
      cases r with
      | @lst a us es h1 h2 h3 =>
        have p' : Post X.K F H ρ Q (biSem .sum [.lst es] S) := p
        simp only [biSem] at p'
        cases e : allI es with
        | none => rw [e] at p'; exact p'.elim
        | some bs =>
          rw [e] at p'
          refine ⟨a, bs, rfl, ?_, p'.ok w (.int _)⟩
          rw [← allI_rep h2 e]
          exact .inl (.inl (del_lst h1))
      | _ => exact p.elim
theorem bi_tuple : CallR X (.type "tuple") (rA X.K (biSem .tuple)) := by
  refine callImp call_tuple_of ?_
  rintro xs H Q ⟨F, ρ, S, ds, w, rd, p⟩
  cases rd with
  | nil => exact p.elim
  | @cons v vs d ds r rr =>
    cases rr with
    | cons _ _ => exact p.elim
    | nil =>
      cases r with
      | @lst a us es h1 h2 h3 => exact ⟨a, us, rfl, .inl ⟨.inl (.inl (del_lst h1)), fun l hl => p _ _ _ (w.laid hl _) (w.newTup hl h2 h3)⟩⟩
      | @tup a us es h1 h2 h3 => exact ⟨a, us, rfl, .inr ⟨SqT.le del_leH h1, Post.ok w (.tup h1 h2 h3) p⟩⟩
      | _ => exact p.elim
theorem bi_list : CallR X (.type "list") (rA X.K (biSem .list)) := by
  refine callImp call_list_of ?_
  rintro xs H Q ⟨F, ρ, S, ds, w, rd, p⟩
  cases rd with
  | nil => exact p.elim
  | @cons v vs d ds r rr =>
    cases rr with
    | cons _ _ => exact p.elim
    | nil =>
      cases r with
      | @lst a us es h1 h2 h3 => exact ⟨a, us, rfl, .inl (.inl (.inl (del_lst h1))), fun l hl => p _ _ _ (w.laid hl _) (w.newLst hl h2 h3)⟩
      | @tup a us es h1 h2 h3 => exact ⟨a, us, rfl, .inr (SqT.le del_leH h1), fun l hl => p _ _ _ (w.laid hl _) (w.newLst hl h2 h3)⟩
      | _ => exact p.elim
theorem bi_int : CallR X (.type "int") (rA X.K (biSem .int)) := by
  refine callImp (CallR.or call_int1 call_int_str) ?_
  rintro xs H Q ⟨F, ρ, S, ds, w, rd, p⟩
  cases rd with
  | nil => exact p.elim
  | @cons v vs d ds r rr =>
    cases rr with
    | cons _ _ => cases r <;> exact p.elim
    | nil =>
      cases r with
      | int i => exact .inl (.inl ⟨i, rfl, Post.ok w (.int i) p⟩)
      | @str z zz zo =>
        have p' : Post X.K F H ρ Q ((match PySem.intText? z with
          | some n => if z.length ≤ 640 then M.ret (D.int n) else M.stk
          | none => M.stk) S) := p
        cases hz : PySem.intText? z with
        | none => rw [hz] at p'; exact p'.elim
        | some n =>
          rw [hz] at p'
          have p' : Post X.K F H ρ Q ((if z.length ≤ 640 then M.ret (D.int n) else M.stk) S) := p'
          by_cases hl : z.length ≤ 640
          · rw [if_pos hl] at p'
            exact .inr ⟨z, n, rfl, hz, hl, Post.ok w (.int n) p'⟩
          · rw [if_neg hl] at p'
            exact p'.elim
      | _ => exact p.elim
theorem bi_str : CallR X (.type "str") (rA X.K (biSem .str)) := by
  refine callImp (CallR.or call_str_int SkE.call_str_str) ?_
  rintro xs H Q ⟨F, ρ, S, ds, w, rd, p⟩
  cases rd with
  | nil => exact p.elim
  | @cons v vs d ds r rr =>
    cases rr with
    | cons _ _ => cases r <;> exact p.elim
    | nil =>
      cases r with
      | int i =>
        have p' : Post X.K F H ρ Q ((if i.natAbs.log2 < 1920 ∧ (strI i).length ≤ sizeLine ∧ PySem.PyData.strOk (strI i) = true then M.ret (.str (strI i)) else M.stk) S) := p
        by_cases hl : i.natAbs.log2 < 1920 ∧ (strI i).length ≤ sizeLine ∧ PySem.PyData.strOk (strI i) = true
        · rw [if_pos hl] at p'
          exact .inl ⟨i, rfl, hl.1, Post.ok w (.str hl.2.1 hl.2.2) p'⟩
        · rw [if_neg hl] at p'
          exact p'.elim
      | @str z zz zo => exact .inr ⟨z, rfl, Post.ok w (.str zz zo) p⟩
      | _ => exact p.elim
theorem bi_max (hc : X.calm = true) : CallR X (.builtin "max") (rA X.K (biSem .max)) := by
  refine callImp (call_max2 hc) ?_
  rintro xs H Q ⟨F, ρ, S, ds, w, rd, p⟩
  cases rd with
  | nil => exact p.elim
  | @cons v vs d ds r rr =>
    cases rr with
    | nil => cases r <;> exact p.elim
    | @cons v2 vs2 d2 ds2 r2 rr =>
      cases rr with
      | cons _ _ => cases r <;> cases r2 <;> exact p.elim
      | nil =>
        cases r with
        | int i =>
          cases r2 with
          | int j => exact ⟨i, j, rfl, Post.ok w (.int _) p⟩
          | _ => exact p.elim
        | _ => cases r2 <;> exact p.elim
theorem bi_min (hc : X.calm = true) : CallR X (.builtin "min") (rA X.K (biSem .min)) := by
  refine callImp (call_min2 hc) ?_
  rintro xs H Q ⟨F, ρ, S, ds, w, rd, p⟩
  cases rd with
  | nil => exact p.elim
  | @cons v vs d ds r rr =>
    cases rr with
    | nil => cases r <;> exact p.elim
    | @cons v2 vs2 d2 ds2 r2 rr =>
      cases rr with
      | cons _ _ => cases r <;> cases r2 <;> exact p.elim
      | nil =>
        cases r with
        | int i =>
          cases r2 with
          | int j => exact ⟨i, j, rfl, Post.ok w (.int _) p⟩
          | _ => exact p.elim
        | _ => cases r2 <;> exact p.elim
theorem bi_abs : CallR X (.builtin "abs") (rA X.K (biSem .abs)) := by
  refine callImp call_abs ?_
  rintro xs H Q ⟨F, ρ, S, ds, w, rd, p⟩
  cases rd with
  | nil => exact p.elim
  | @cons v vs d ds r rr =>
    cases rr with
    | cons _ _ => cases r <;> exact p.elim
    | nil =>
      cases r with
      | int i => exact ⟨i, rfl, Post.ok w (.int _) p⟩
      | _ => exact p.elim
/-! ### sorted -/
theorem signs_ok (z : Str) : sortOk (signs z) = true := by
  have h1 : ∀ l : List Nat, D.dats (l.map fun c => D.str ⟨#[c]⟩) = true := by
    intro l
    induction l with
    | nil => rfl
    | cons c l ih => simp only [List.map_cons, D.dats, D.dat, ih, Bool.and_self]
  have h2 : ∀ l : List Nat, D.deps (l.map fun c => D.str ⟨#[c]⟩) = 0 := by
    intro l
    induction l with
    | nil => rfl
    | cons c l ih => simp only [List.map_cons, D.deps, D.dep, ih, Nat.max_self]
  unfold sortOk
  rw [show D.dats (signs z) = true from h1 _, show D.deps (signs z) = 0 from h2 _]
  have h3 : alikeD (signs z) = true := by
    refine List.all_eq_true.mpr fun x hx => List.all_eq_true.mpr fun y hy => ?_
    obtain ⟨c, _, rfl⟩ := List.mem_map.mp hx
    obtain ⟨c', _, rfl⟩ := List.mem_map.mp hy
    simp only [D.py, PySem.W.alike]
  have h4 : sortable (signs z) = true := by
    unfold sortable
    refine Bool.or_eq_true_iff.mpr (.inr (List.all_eq_true.mpr fun x hx => ?_))
    obtain ⟨c, _, rfl⟩ := List.mem_map.mp hx
    rfl
  rw [h3, h4]
  rfl
/-- sorted of a text -/
def rSortS (K : PySem.W.Frag) : List V → Hp → VK → Prop := fun vs H Q => ∃ (z : Str) (F : Fs) (ρ : List Addr), vs = [.str z] ∧ z.length ≤ sizeLine ∧ PyData.strOk z = true ∧
  ∀ (p : Addr) (zs : List V), H p = none → RepA K (del H F ρ) ρ zs (sortD (signs z)) → Q (.ref p) (upd H p (.lst zs))
theorem cr_sortS (hu : X.A.units + many + 5 < cLine) (hc : X.calm = true) : CallR X (.builtin "sorted") (rSortS X.K) := by
  intro pins s σ H vs us Q I r h
  obtain ⟨z, F, ρ, rfl, hz, ho, q⟩ := h
  obtain ⟨u, rfl, t, rfl⟩ := vals1 r
  have hok := signs_ok z
  unfold sortOk at hok
  obtain ⟨ok1, hok⟩ := Bool.and_eq_true_iff.mp hok
  obtain ⟨ok2, hok⟩ := Bool.and_eq_true_iff.mp hok
  obtain ⟨ok3, ok4⟩ := Bool.and_eq_true_iff.mp hok
  have ok4 : D.deps (signs z) ≤ many := of_decide_eq_true ok4
  have sl : (signs z).length = z.length := by
    unfold signs
    rw [List.length_map, Array.length_toList]
    rfl
  refine sorted_by (wpAny_collect_str (A := X.A.in1) (I.ok.hd hc) z t (fun s1 acc kp hg hd hos hacc => ?_) hz)
  have I1 : L2.Inv X pins σ H s1 := by
    have I0 : L2.Inv X pins σ H { s with heap := s1.heap, toks := s1.toks } := I.kept (t' := s1.toks) kp
    obtain ⟨h1, g1, d1, t1, o1⟩ := s1
    simp only at hg hd hos
    subst hg hd hos
    exact I0
  obtain ⟨hsz, hat⟩ := hacc
  have rv : Vals (z.cps.toList.map fun c => V.str ⟨#[c]⟩) acc.toList := by
    have gen : ∀ (l : List Nat) (m : List Value), m.length = l.length → (∀ (j : Nat) v, m[j]? = some v → ∃ c u, l[j]? = some c ∧ v = Value.str ⟨#[c]⟩ u) → Vals (l.map fun c => V.str ⟨#[c]⟩) m := by
      intro l
      induction l with
      | nil =>
        intro m hm _
        have : m = [] := List.eq_nil_of_length_eq_zero hm
        subst this
        exact .nil
      | cons c l ih =>
        intro m hm hh
        cases m with
        | nil => cases hm
        | cons v m =>
          obtain ⟨c', u, e1, e2⟩ := hh 0 v rfl
          have e1 : c = c' := Option.some.inj e1
          subst e1
          exact .cons ⟨u, e2⟩ (ih m (by simpa using hm) fun j v hv => hh (j + 1) v (by simpa using hv))
    refine gen _ _ (by rw [Array.length_toList, Array.length_toList]; exact hsz) fun j v hv => ?_
    rw [Array.getElem?_toList] at hv
    obtain ⟨c, u, e1, e2⟩ := hat j v hv
    exact ⟨c, u, by rw [Array.getElem?_toList]; exact e1, e2⟩
  have hr : RepA X.K (del H F ρ) ρ (z.cps.toList.map fun c => V.str ⟨#[c]⟩) (signs z) := signs_rep ho
  have e := each_repA rv hr
  have el := e.length
  refine ⟨by rw [el, sl]; exact hz, ?_⟩
  refine sort_new (s1 := s1) (enc := D.py) e (each_reads I1 ok1 e) (sortOk_al ok2) (sortOk_st ok3) (by rw [sl]; exact hz) (fun b hb => ?_) fun out h' ho eo kp' hlt hat => ?_
  · rw [py_depth]
    have := deps_mem hb
    omega
  · obtain ⟨zs, rz, rr⟩ := repA_each eo
    obtain ⟨n, hat⟩ := hat
    have zl2 : zs.length = (signs z).length := by rw [rr.length]; exact List.length_mergeSort _
    refine ⟨.ref s1.heap.objs.size, _, I1.laid (t' := s1.toks) (o := .lst zs) kp' (Nat.le_refl _) (show ObjOk X.prog X.w _ h' _ (.lst zs) from ⟨by rw [zl2, sl]; exact hz, out, n, rz, hat⟩), rfl, q _ zs (I1.hok.fresh (Nat.le_refl _)) rr⟩
theorem sortD_length (ds : List D) : (sortD ds).length = ds.length := List.length_mergeSort _
theorem bi_sorted (hu : X.A.units + many + 5 < cLine) (hc : X.calm = true) : CallR X (.builtin "sorted") (rA X.K (biSem .sorted)) := by
  refine callImp (CallR.or (cr_sort hu) (cr_sortS hu hc)) ?_
  rintro xs H Q ⟨F, ρ, S, ds, w, rd, p⟩
  cases rd with
  | nil => exact p.elim
  | @cons v vs d ds r rr =>
    cases rr with
    | cons _ _ => exact p.elim
    | nil =>
      have p' : Post X.K F H ρ Q (biSem .sorted [d] S) := p
      cases r with
      | @lst a us es h1 h2 h3 =>
        simp only [biSem] at p'
        by_cases hk : sortOk es = true
        · rw [if_pos hk] at p'
          exact .inl ⟨a, us, F, ρ, es, rfl, .inl (.inl (.inl (del_lst h1))), h2, hk, h3, fun q zs hq rz => p' _ _ _ (w.laid hq _) (w.newLst hq rz (by rw [sortD_length]; exact h3))⟩
        · rw [if_neg hk] at p'
          exact p'.elim
      | @tup a us es h1 h2 h3 =>
        simp only [biSem] at p'
        by_cases hk : sortOk es = true
        · rw [if_pos hk] at p'
          exact .inl ⟨a, us, F, ρ, es, rfl, .inr (SqT.le del_leH h1), h2, hk, h3, fun q zs hq rz => p' _ _ _ (w.laid hq _) (w.newLst hq rz (by rw [sortD_length]; exact h3))⟩
        · rw [if_neg hk] at p'
          exact p'.elim
      | @str z zz zo =>
        refine .inr ⟨z, F, ρ, rfl, zz, zo, fun q zs hq rz => p' _ _ _ (w.laid hq _) (w.newLst hq rz ?_)⟩
        rw [sortD_length]
        unfold signs
        rw [List.length_map, Array.length_toList]
        exact zz
      | _ => exact p.elim
/-! ### subscripts, slices -/
theorem atI_get {α : Type} {xs : List α} {i : Int} {x : α} (h : atI xs i = some x) : ∃ j : Nat, ixN xs.length i = some j ∧ xs[j]? = some x := Option.bind_eq_some_iff.mp h
theorem atI_rep {K : PySem.W.Frag} {G : Hp} {ρ : List Addr} {vs : List V} {ds : List D} {i : Int} {d : D} (r : RepA K G ρ vs ds) (h : atI ds i = some d) : ∃ v, atI vs i = some v ∧ Rep K G ρ v d := by
  obtain ⟨j, h1, h2⟩ := atI_get h
  obtain ⟨v, e1, e2⟩ := r.get h2
  refine ⟨v, ?_, e2⟩
  unfold atI
  rw [r.length, h1]
  exact e1
theorem ix_all : IxR X (r2 X.K ixSem) := by
  have base := ix_seq (X := X)
  intro value slice pins s σ H x y v u Q I rx ry h hs
  refine base value slice pins s σ H x y v u Q I rx ry ?_ hs
  obtain ⟨F, ρ, S, d, e, w, rd, re, p⟩ := h
  cases re with
  | int i =>
    have p' : Post X.K F H ρ Q (ixSem d (.int i) S) := p
    have sq : ∀ ys, seqOf S d = some ys → Post X.K F H ρ Q (at? ys i S) → rIx X.K x (.int i) H Q := by
      intro ys hy p2
      obtain ⟨a, us, rfl, hq, hr, hz⟩ := seqOf_rep w rd hy
      unfold at? at p2
      cases e : atI ys i with
      | none => rw [e] at p2; exact p2.elim
      | some d' =>
        rw [e] at p2
        obtain ⟨v', e1, e2⟩ := atI_rep hr e
        rcases hq with hq | hq
        · exact .inl ⟨a, us, i, v', rfl, rfl, hq, e1, p2.ok w e2⟩
        · exact .inr (.inl ⟨a, us, i, v', rfl, rfl, hq, e1, p2.ok w e2⟩)
    cases rd with
    | @str z zz zo =>
      simp only [ixSem] at p'
      cases e : atI z.cps.toList i with
      | none => rw [e] at p'; exact p'.elim
      | some c =>
        rw [e] at p'
        obtain ⟨j, _, hj⟩ := atI_get e
        exact .inr (.inr ⟨z, i, c, rfl, rfl, zz, e, p'.ok w (sign_rep zo (List.mem_of_getElem? hj))⟩)
    | tup a b c => exact sq _ rfl p'
    | lst a b c => exact sq _ rfl p'
    | scr a b c => exact sq _ rfl p'
    | @loc a n e =>
      simp only [ixSem] at p'
      cases q : seqOf S (.loc n) with
      | none => rw [q] at p'; exact p'.elim
      | some ys =>
        rw [q] at p'
        exact sq ys q p'
    | _ => exact p.elim
  | _ => exact p.elim
theorem cut_rep {K : PySem.W.Frag} {G : Hp} {ρ : List Addr} {vs : List V} {ds : List D} (r : RepA K G ρ vs ds) (lo hi : Option Int) : RepA K G ρ (cutV vs lo hi) (cut ds lo hi) := by
  unfold cutV cut
  rw [r.length]
  exact (r.drop _).take _
theorem cut_length {α : Type} (xs : List α) (lo hi : Option Int) : (cut xs lo hi).length ≤ xs.length := by
  unfold cut
  rw [List.length_take, List.length_drop]
  omega
theorem strOk_cut {z : Str} (h : PyData.strOk z = true) (lo hi : Option Int) : PyData.strOk (cutS z lo hi) = true := by
  have q : z.cps.all (· < 0x110000) = true := h
  rw [← Array.all_toList] at q
  have q2 := List.all_eq_true.mp q
  show (cutS z lo hi).cps.all (· < 0x110000) = true
  rw [← Array.all_toList]
  refine List.all_eq_true.mpr fun c hc => q2 c ?_
  unfold cutS at hc
  simp only at hc
  exact List.mem_of_mem_drop (List.mem_of_mem_take (by simpa using hc))
def r1S (K : PySem.W.Frag) (g : D → Option Int → Option Int → M D) : V → Option Int → Option Int → Hp → VK → Prop := fun x lo hi H Q => ∃ F ρ S d, Wf K H F ρ S ∧ Rep K (del H F ρ) ρ x d ∧ Post K F H ρ Q (g d lo hi S)
theorem sl_all : SlR X (r1S X.K sliceSem) := by
  have base := SlR.or (sl_tupA (X := X)) (SlR.or (sl_list (X := X)) (sl_str (X := X)))
  intro pins s σ H x v vl vu lo hi sl Q I rx hs pl pu h
  refine base pins s σ H x v vl vu lo hi sl Q I rx hs pl pu ?_
  obtain ⟨F, ρ, S, d, w, rd, p⟩ := h
  cases rd with
  | @tup a us es h1 h2 h3 =>
    refine .inl ⟨a, us, rfl, SqT.le del_leH h1, fun hw => ?_, fun _ q hq => p _ _ _ (w.laid hq _) (w.newTup hq (cut_rep h2 lo hi) (Nat.le_trans (cut_length _ _ _) h3))⟩
    have e : cut es lo hi = es := by
      rw [h2.length] at hw
      unfold cut
      rw [hw.1, hw.2, List.drop_zero, Nat.sub_zero, List.take_length]
    have p' : Post X.K F H ρ Q (.ok (.tup (cut es lo hi)) S) := p
    rw [e] at p'
    exact p'.ok w (.tup h1 h2 h3)
  | @lst a us es h1 h2 h3 => exact .inr (.inl ⟨a, us, rfl, .inl (.inl (del_lst h1)), fun q hq => p _ _ _ (w.laid hq _) (w.newLst hq (cut_rep h2 lo hi) (Nat.le_trans (cut_length _ _ _) h3))⟩)
  | @scr a us es h1 h2 h3 => exact .inr (.inl ⟨a, us, rfl, SqL.le del_leH h1, fun q hq => p _ _ _ (w.laid hq _) (w.newLst hq (cut_rep h2 lo hi) (Nat.le_trans (cut_length _ _ _) h3))⟩)
  | @str z zz zo => exact .inr (.inr ⟨z, rfl, zz, Post.ok w (.str (Nat.le_trans (cutS_length _ _ _) zz) (strOk_cut zo lo hi)) p⟩)
  | _ => exact p.elim
end
end Z

/-! Z6: a tuple backwards; join; isinstance -/
namespace HT
open PySem PyProof.Rows
open PySem.SeqAt
open PySem.AutoSeq1 (wpAny_loadPart')
open PySem.MeetsSeq PySem.MeetsSeq2 PySem.MeetsSeq3
section
variable {prog : Program} {w : World} {A : Around} {E : Value → Shared → Prop} {s : Shared}
theorem sliceApplied_back {sl : Addr} {vs : Value} {n : Nat} {Q : Int × Int × Nat → Shared → Prop} (hs : s.heap.IsSliceOf sl .none .none vs) (ps : IsPart vs (some (-1)))
    (h : Q ((n : Int) - 1, -1, n) s) : wpAny (model prog w) A (Builtin.Slice.sliceApplied (.ref sl) (pure (n : Int))) Q E s := by
  obtain ⟨os, hos, hcs, hds⟩ := id hs
  unfold Builtin.Slice.sliceApplied Builtin.Slice.sliceFields
  refine wpAny_bind (wpAny_bind (wpAny_field hos hds (x := .none) rfl (wpAny_bind (wpAny_field hos hds (x := .none) rfl (wpAny_bind (wpAny_field hos hds (x := vs) rfl (wpAny_pure ?_)))))))
  refine wpAny_bind (slicePart_ ps ?_)
  show wpAny _ _ (if ((-1 : Int) == 0) = true then _ else _) _ _ s
  rw [if_neg (by decide)]
  refine wpAny_bind (slicePart_none (wpAny_bind (slicePart_none (wpAny_bind (wpAny_pure ?_)))))
  show wpAny _ _ (pure ((n : Int) - 1, (-1 : Int), Builtin.Slice.slicePlaces ((n : Int) - 1) (-1) (-1))) _ _ s
  have e : Builtin.Slice.slicePlaces ((n : Int) - 1) (-1) (-1) = n := by
    unfold Builtin.Slice.slicePlaces
    have h1 : ¬ ((-1 : Int) > 0) := by decide
    simp only [h1, if_false]
    by_cases h : (n : Int) - 1 > -1
    · simp only [h, if_true]
      have : ((n : Int) - 1 - -1 - 1) / (- -1) = (n : Int) - 1 := by
        rw [show (- -1 : Int) = 1 by decide, Int.ediv_one]
        omega
      rw [this]
      omega
    · simp only [h, if_false]
      omega
  rw [e]
  exact wpAny_pure h
theorem fm_congr {α β : Type} {f g : α → Option β} : ∀ {l : List α}, (∀ m ∈ l, f m = g m) → l.filterMap f = l.filterMap g
  | [], _ => rfl
  | a :: l, h => by
    rw [List.filterMap_cons, List.filterMap_cons, h a List.mem_cons_self, fm_congr fun m hm => h m (List.mem_cons_of_mem _ hm)]
theorem pick_back (xs : Array Value) : ((List.range xs.size).filterMap fun (m : Nat) => xs[(((xs.size : Int) - 1) + (m : Int) * (-1)).toNat]?).toArray = xs.toList.reverse.toArray := by
  have e : ∀ m ∈ List.range xs.size, (fun (m : Nat) => xs[(((xs.size : Int) - 1) + (m : Int) * (-1)).toNat]?) m = (fun k => xs[k]?) (xs.size - 1 - m) := fun m hm => by
    have := List.mem_range.mp hm
    have q : (((xs.size : Int) - 1) + (m : Int) * (-1)).toNat = xs.size - 1 - m := by omega
    show xs[(((xs.size : Int) - 1) + (m : Int) * (-1)).toNat]? = _
    rw [q]
  have e2 : (List.range xs.size).filterMap (fun (m : Nat) => xs[(((xs.size : Int) - 1) + (m : Int) * (-1)).toNat]?) = ((List.range xs.size).map fun k => xs.size - 1 - k).filterMap (fun k => xs[k]?) := by
    rw [List.filterMap_map]
    exact fm_congr e
  rw [e2, PySem.W.krv_range, List.filterMap_reverse, PySem.W.krv_all]
theorem getItem_tuple_back {t sl : Addr} {items : Array Value} {vs : Value} {Q : Value → Shared → Prop} (ht : IsTup s.heap t items) (hs : s.heap.IsSliceOf sl .none .none vs) (ps : IsPart vs (some (-1)))
    (h : Q (.ref s.heap.objs.size) { s with heap := s.heap.push { cls := .type "tuple", data := .seq items.toList.reverse.toArray } })
    (hsz : items.size ≤ sizeLine) : wpAny (model prog w) A (getItem (.ref t) (.ref sl)) Q E s := by
  have htake : sizeOk (.seq items.toList.reverse.toArray) := by
    show items.toList.reverse.toArray.size ≤ sizeLine
    rw [List.size_toArray, List.length_reverse, Array.length_toList]
    omega
  obtain ⟨os, hos, hcs, hds⟩ := id hs
  have hTs : s.TypeIs (.ref sl) "slice" := ⟨os, hos, hcs⟩
  unfold getItem
  try with_reducible refine wpAny_holding ?_
  first | refine wpAny_bind (wpAny_pure ?_) | skip
  refine wpAny_bind (wpAny_sequenceKey ht.typeIs (by decide) ?_)
  refine wpAny_bind (wpAny_callSpecial?_slot (name := Str.ofString "__getitem__") ht.typeIs PyProof.Rows.slot_tuple_getitem
    (wpAny_call_entry PyProof.Rows.slot_tuple_getitem ht.typeIs entry_tuple_getitem ?_ (args_tuple_getitem _ _)))
  show wpAny _ _ (Builtin.Tuple.tupleItemsOf (.ref t) >>= _) _ _ s
  refine wpAny_bind (tupleItemsOf_ ht ?_)
  refine wpAny_bind (wpAny_typeOf hTs ?_)
  rw [if_pos (by decide)]
  refine wpAny_bind (sliceApplied_back hs ps ?_)
  have hno : ¬ ((((items.size : Int) - 1) == 0 && (-1 : Int) == 1 && items.size == items.size) = true) := by
    intro q
    rw [Bool.and_eq_true, Bool.and_eq_true] at q
    exact absurd q.1.2 (by decide)
  show wpAny _ _ (if (((items.size : Int) - 1) == 0 && (-1 : Int) == 1 && items.size == items.size) = true then _ else _) _ _ s
  rw [if_neg hno, pick_back]
  first
    | exact wpAny_bind (m := Builtin.Tuple.tupleExact _) (wpAny_newObj_type (wpAny_pure ⟨_, rfl, wpAny_pure h⟩) htake)
    | exact wpAny_bind (m := Builtin.Tuple.tupleExact _) (wpAny_newObj_type (wpAny_bind (wpAny_pure (wpAny_pure ⟨_, rfl, wpAny_pure h⟩))) htake)
    | exact wpAny_bind (wpAny_bind (m := Builtin.Tuple.tupleExact _) (wpAny_newObj_type (wpAny_pure (wpAny_pure ⟨_, rfl, wpAny_pure h⟩)) htake))
    | exact wpAny_bind (wpAny_bind (m := Builtin.Tuple.tupleExact _) (wpAny_newObj_type (wpAny_pure ⟨_, rfl, wpAny_pure h⟩) htake))
end
end HT
namespace Z
open PySem PySem.Spec PyProof.Rows L2
section
variable {X : Cx}
def tRevT (K : PySem.W.Frag) (te : TE) : TE := fun σ H Q => te σ H fun x H1 => ∃ a xs, x = .ref a ∧ SqT K H1 a xs ∧ ∀ p, H1 p = none → Q (.ref p) (upd H1 p (.tup xs.reverse))
theorem pe_revT {e : Expr} {te : TE} {k : Nat} {p1 p2 p3 pos : Pos} (he : PE X e te) : PE X (.Subscript e (.Slice none none (some (.UnaryOp .USub (.Constant (.int 1) k p1) p2)) p3) pos) (tRevT X.K te) := by
  refine ⟨fun pins s σ H Q I h => ?_⟩
  refine Subscript_ (thn (he.run pins s σ H _ I h) fun v s1 ⟨x, H1, I1, r1, q1⟩ => ?_)
  obtain ⟨a, xs, ex, hx, q⟩ := q1
  subst ex
  cases r1
  have hst : PO X (some (.UnaryOp .USub (.Constant (.int 1) k p1) p2)) (tPart (tUn (rU fun i => .int (-i)) (tC (.int 1)))) := po_some (pe_un un_neg pe_int)
  refine wpAny_Slice (thn (po_none.run pins s1 σ H1 (fun o H2 => o = none ∧ H2 = H1) I1 ⟨rfl, rfl⟩) fun vl s2 ⟨l, H2, I2, pl, el, e2⟩ => ?_)
  subst el e2
  refine thn (po_none.run pins s2 σ H2 (fun o H3 => o = none ∧ H3 = H2) I2 ⟨rfl, rfl⟩) fun vu s3 ⟨u, H3, I3, pu, eu, e3⟩ => ?_
  subst eu e3
  refine thn (hst.run pins s3 σ H3 (fun o H4 => o = some (-1) ∧ H4 = H3) I3 ⟨1, rfl, -1, rfl, rfl, rfl⟩) fun vs s4 ⟨o, H4, I4, ps, eo, e4⟩ => ?_
  subst eo e4
  cases pl
  cases pu
  have I5 : L2.Inv X pins σ H4 { s4 with heap := s4.heap.push { cls := .type "slice", data := .fields #[.none, .none, vs] } } := I4.kept (t' := s4.toks) fun b ob q => Heap.get?_push_of_some _ q
  obtain ⟨its, r, ht, hz⟩ := I5.tuple hx
  have hlen := r.length
  show wpAny (model X.prog X.w) X.A (subscriptTail e (.Slice none none (some (.UnaryOp .USub (.Constant (.int 1) k p1) p2)) p3) (.ref a) (.ref s4.heap.objs.size)) (EP X pins σ Q) X.xe { s4 with heap := s4.heap.push { cls := .type "slice", data := .fields #[.none, .none, vs] } }
  refine tail_any (ops := [.ref a, .ref s4.heap.objs.size]) ht.typeIs (PyProof.Rows.slot_tuple_getitem.lookup) ?_ (by with_unfolding_all rfl)
  refine HT.getItem_tuple_back ht (Heap.IsSliceOf.new _ .none .none vs) ps ?_ (by rw [List.size_toArray]; omega)
  refine ⟨.ref _, _, I5.laid (t' := s4.toks) (o := .tup xs.reverse) (fun b ob q => Heap.get?_push_of_some _ q) (Nat.le_refl _) ?_, rfl, q _ (I5.hok.fresh (Nat.le_refl _))⟩
  exact ⟨by rw [List.length_reverse]; exact hz, _, r.reverse, IsTup.new _ _⟩

/-! ### join -/
theorem strOk_fold {sep : Str} (hs : PyData.strOk sep = true) : ∀ (ys : List Str) (acc : Array Nat), (∀ y ∈ ys, PyData.strOk y = true) → PyData.strOk ⟨acc⟩ = true → PyData.strOk ⟨ys.foldl (fun acc p => acc ++ sep.cps ++ p.cps) acc⟩ = true
  | [], _, _, h => h
  | y :: ys, acc, hy, h => strOk_fold hs ys _ (fun z m => hy z (List.mem_cons_of_mem _ m)) (strOk_append (a := ⟨acc ++ sep.cps⟩) (strOk_append (a := ⟨acc⟩) h hs) (hy y List.mem_cons_self))
theorem strOk_join {sep : Str} {ys : List Str} (hs : PyData.strOk sep = true) (hy : ∀ y ∈ ys, PyData.strOk y = true) : PyData.strOk (PySem.Txt.join sep ys) = true := by
  show PyData.strOk ⟨(ys.drop 1).foldl (fun acc p => acc ++ sep.cps ++ p.cps) (ys.headD Str.empty).cps⟩ = true
  refine strOk_fold hs _ _ (fun y m => hy y (List.mem_of_mem_drop m)) ?_
  cases ys with
  | nil => exact (by decide +kernel : PyData.strOk Str.empty = true)
  | cons y ys => exact hy y List.mem_cons_self
theorem join_len {sep : Str} (ys : List Str) : (PySem.Txt.join sep ys).length ≤ (ys.map (·.length)).sum + ys.length * sep.length := by
  show ((ys.drop 1).foldl (fun acc p => acc ++ sep.cps ++ p.cps) (ys.headD Str.empty).cps).size ≤ _
  rw [PySem.size_gluedFold]
  cases ys with
  | nil => exact Nat.le_refl _
  | cons y ys =>
    have e1 : ((y :: ys).headD Str.empty).cps.size = y.length := rfl
    simp only [List.drop_succ_cons, List.drop_zero, List.map_cons, List.sum_cons, List.length_cons, e1]
    rw [Nat.add_mul]
    omega
/-- a receiver that holds data, and the arguments -/
def rM (K : PySem.W.Frag) (g : List D → M D) : V → List V → Hp → VK → Prop := fun x xs H Q => rA K g (x :: xs) H Q
theorem mt_joinZ : MtR X "str.join" (rM X.K (opSem (.meth .join))) := by
  intro pins s σ H x xs v us Q I rx rs h
  refine mt_join pins s σ H x xs v us Q I rx rs ?_
  obtain ⟨F, ρ, S, ds, w, rd, p⟩ := h
  cases rd with
  | cons r rr =>
    cases rr with
    | nil => cases r <;> exact p.elim
    | cons r2 rr =>
      cases rr with
      | cons _ _ => cases r <;> cases r2 <;> exact p.elim
      | nil =>
        cases r with
        | @str z zz zo =>
          cases r2 with
          | @lst a us es h1 h2 h3 =>
            have p' : Post X.K F H ρ Q (joinSem z es S) := p
            unfold joinSem at p'
            cases e : allS es with
            | none => rw [e] at p'; exact p'.elim
            | some ys =>
              rw [e] at p'
              obtain ⟨e1, e2⟩ := allS_rep h2 e
              by_cases hk : (ys.map (·.length)).sum + ys.length * z.length ≤ sizeLine
              · simp only [if_pos hk] at p'
                refine ⟨z, a, ys, rfl, rfl, .inl (by rw [← e1]; exact .inl (.inl (del_lst h1))), by rw [sizeLine_eq] at hk; exact hk, p'.ok w (.str (Nat.le_trans (join_len ys) hk) (strOk_join zo e2))⟩
              · simp only [if_neg hk] at p'
                exact p'.elim
          | _ => exact p.elim
        | _ => cases r2 <;> exact p.elim
/-! ### isinstance -/
def BT.ty : BT → String
  | .int => "int" | .bool => "bool" | .str => "str" | .tuple => "tuple" | .list => "list"
theorem isT_rep {K : PySem.W.Frag} {H : Hp} {F : Fs} {ρ : List Addr} {S : Store} {v : V} {d : D} (w : Wf K H F ρ S) (r : Rep K (del H F ρ) ρ v d) (hd : okT S d = true) :
    ∃ ty, TyX K H v (.type ty) ∧ ∀ t : BT, PySem.W.kitOne K (.type ty) (.type t.ty) = some (isT S t d) := by
  have seq : ∀ (ty : String) (b : BT → Bool), TyX K H v (.type ty) → (∀ t : BT, kitB ty t.ty = some (b t)) → (∀ t, isT S t d = b t) → ∃ ty, TyX K H v (.type ty) ∧ ∀ t : BT, PySem.W.kitOne K (.type ty) (.type t.ty) = some (isT S t d) :=
    fun ty b h1 h2 h3 => ⟨ty, h1, fun t => by rw [h3]; exact kit_ty (h2 t)⟩
  cases r with
  | non => exact seq "NoneType" (fun _ => false) (.base .non) (by intro t; cases t <;> decide +kernel) (by intro t; cases t <;> rfl)
  | bl b => exact seq "bool" (fun t => match t with | .int => true | .bool => true | _ => false) (.base (.bl b)) (by intro t; cases t <;> decide +kernel) (by intro t; cases t <;> rfl)
  | int i => exact seq "int" (fun t => match t with | .int => true | _ => false) (.base (.int i)) (by intro t; cases t <;> decide +kernel) (by intro t; cases t <;> rfl)
  | @str s z o => exact seq "str" (fun t => match t with | .str => true | _ => false) (.base (.str s)) (by intro t; cases t <;> decide +kernel) (by intro t; cases t <;> rfl)
  | @tup a vs ds h1 h2 h3 =>
    have ty : TyX K H (.ref a) (.type "tuple") := by
      rcases SqT.le del_leH h1 with (h | ⟨o, h⟩) | ⟨o, its, n, h, hc, _⟩
      · exact .base (.tup h)
      · exact .fTuple h
      · exact .kTuple h hc
    exact seq "tuple" (fun t => match t with | .tuple => true | _ => false) ty (by intro t; cases t <;> decide +kernel) (by intro t; cases t <;> rfl)
  | @lst a vs ds h1 h2 h3 => exact seq "list" (fun t => match t with | .list => true | _ => false) (.base (.lst (del_lst h1))) (by intro t; cases t <;> decide +kernel) (by intro t; cases t <;> rfl)
  | @scr a vs ds h1 h2 h3 =>
    have ty : TyX K H (.ref a) (.type "list") := by
      rcases SqL.le del_leH h1 with (h | ⟨o, h⟩) | ⟨o, its, n, h, hc, _⟩
      · exact .base (.lst h)
      · exact .base (.frz h)
      · exact .kList h hc
    exact seq "list" (fun t => match t with | .list => true | _ => false) ty (by intro t; cases t <;> decide +kernel) (by intro t; cases t <;> rfl)
  | @loc a n e =>
    obtain ⟨xs, hx⟩ : ∃ xs, S[n]? = some (.lst xs) := by
      simp only [okT] at hd
      cases q : S[n]? with
      | none => rw [q] at hd; cases hd
      | some o =>
        cases o with
        | lst xs => exact ⟨xs, rfl⟩
    obtain ⟨vs, h1, _⟩ := w.seq e hx
    refine seq "list" (fun t => match t with | .list => true | _ => false) (.base (.lst h1)) (by intro t; cases t <;> decide +kernel) fun t => ?_
    cases t <;> simp [isT, hx]
end
end Z

/-! Z7: what is walked -/
namespace Z
open PySem PySem.Spec PyProof.Rows L2
/-- a side of a zip -/
inductive Sd where
  | l (a : Addr) (xs : List V)
  | t (a : Addr) (xs : List V)
  | s (z : Str) (k : Tok)
def Sd.len : Sd → Nat
  | .l _ xs => xs.length
  | .t _ xs => xs.length
  | .s z _ => z.cps.size
def Sd.at_ : Sd → Nat → Option V
  | .l _ xs, i => xs[i]?
  | .t _ xs, i => xs[i]?
  | .s z _, i => z.cps[i]?.map fun c => V.str ⟨#[c]⟩
def Sd.rd (K : PySem.W.Frag) (H : Hp) : Sd → Prop
  | .l a xs => SqL K H a xs
  | .t a xs => SqT K H a xs
  | .s _ _ => True
def Sd.val : Sd → Value
  | .l a _ => .ref a
  | .t a _ => .ref a
  | .s z k => .str z k
def Sd.obj : Sd → Obj
  | .l a _ => { cls := .type "list_iterator", data := .fields #[.ref a, .int 0 0] }
  | .t a _ => { cls := .type "tuple_iterator", data := .fields #[.ref a, .int 0 0] }
  | .s z k => { cls := .type (strIterType z), data := .fields #[.str z k, .int 0 0] }
def Sd.st (it : Addr) (i : Nat) (h : Heap) : Sd → Prop
  | .l a _ => h.IsListIter it a i
  | .t a _ => h.IsTupleIter it a i
  | .s z k => h.IsStrIter it (strIterType z) z k i
def Sd.lo (N : Nat) : Sd → Prop
  | .l a _ => a < N
  | .t a _ => a < N
  | .s _ _ => True
section
variable {X : Cx} {pins : List (Addr × Obj)} {σ : L2.St} {H : Hp} {s : Shared}
theorem Sd.begins (I : L2.Inv X pins σ H s) (d : Sd) (r : d.rd X.K H) : ∃ P : Heap → Prop, Begins d.val d.obj P ∧ P s.heap ∧ d.lo s.heap.objs.size := by
  cases d with
  | l a xs =>
    obtain ⟨its, rv, p, _⟩ := I.list (show SqL X.K H a xs from r)
    exact ⟨_, begins_list a its.toArray, p.isList, p.lt⟩
  | t a xs =>
    obtain ⟨its, rv, p, _⟩ := I.tuple (show SqT X.K H a xs from r)
    exact ⟨_, begins_tuple a its.toArray, p, p.lt⟩
  | s z k => exact ⟨_, begins_text z k, trivial, trivial⟩
theorem Sd.st0 (d : Sd) {it : Addr} {h : Heap} (e : h.get? it = some d.obj) : d.st it 0 h := by
  cases d with
  | l a xs => exact ⟨_, e, rfl, rfl⟩
  | t a xs => exact ⟨_, e, rfl, rfl⟩
  | s z k => exact ⟨_, e, rfl, rfl⟩
theorem Sd.st_at (d : Sd) {it : Addr} {i : Nat} {h h' : Heap} (st : d.st it i h) (k : ∀ o, h.get? it = some o → h'.get? it = some o) : d.st it i h' := by
  cases d with
  | l a xs => exact Heap.IsListIter.at st fun o e => k o e
  | t a xs => exact Heap.IsTupleIter.at st fun o e => k o e
  | s z k' =>
    obtain ⟨o, e, r⟩ := st
    exact ⟨o, k o e, r⟩
theorem Sd.there (d : Sd) {it : Addr} {i : Nat} {h : Heap} (st : d.st it i h) : ∃ o, h.get? it = some o ∧ ∀ v, o.data ≠ .cell v := by
  cases d with
  | l a xs =>
    obtain ⟨o, e, c, dd⟩ := st
    exact ⟨o, e, fun v z => by rw [dd] at z; cases z⟩
  | t a xs =>
    obtain ⟨o, e, c, dd⟩ := st
    exact ⟨o, e, fun v z => by rw [dd] at z; cases z⟩
  | s z k =>
    obtain ⟨o, e, c, dd⟩ := st
    exact ⟨o, e, fun v z => by rw [dd] at z; cases z⟩
/-- what a side draws, as things stand -/
theorem Sd.draws (hc : X.calm = true) (I : L2.Inv X pins σ H s) (d : Sd) (r : d.rd X.K H) (it : Addr) (hit : H it = none) {N : Nat} (hlo : d.lo N) (hN : N ≤ it) :
    ∃ (fp : List Addr) (P : Nat → Value → Prop) (St : Nat → Heap → Prop), (∀ b ∈ fp, b < N) ∧ Draws X.prog X.w X.A.in1 it (it :: fp) d.len P St ∧ (∀ i, d.st it i s.heap → St i s.heap) ∧ (∀ i h, St i h → d.st it i h) ∧ ∀ i u, P i u → ∃ x, d.at_ i = some x ∧ RelV x u := by
  cases d with
  | l a xs =>
    obtain ⟨its, rv, p, _⟩ := I.list (show SqL X.K H a xs from r)
    have hne : a ≠ it := Nat.ne_of_lt (Nat.lt_of_lt_of_le (show a < N from hlo) hN)
    have el : its.toArray.size = (Sd.l a xs).len := by
      rw [List.size_toArray]
      exact rv.length.symm
    have D : Draws X.prog X.w X.A.in1 it [it, a] (Sd.l a xs).len (fun i v => its.toArray[i]? = some v) (fun i h => h.IsListIter it a i ∧ h.IsList a its.toArray) := by
      rw [← el]
      exact Draws.list (prog := X.prog) (w := X.w) (A := X.A.in1) (I.ok.hd hc) it a hne its.toArray
    refine ⟨[a], _, _, fun b hb => ?_, D, fun i st => ⟨st, p.isList⟩, fun i h st => st.1, fun i u hu => ?_⟩
    · have e : b = a := by simpa using hb
      rw [e]; exact hlo
    · have hu' : its[i]? = some u := by simpa using hu
      cases q : xs[i]? with
      | none =>
        have := rv.none_of q
        rw [this] at hu'
        cases hu'
      | some x =>
        obtain ⟨u2, e2, r2⟩ := rv.get q
        rw [hu'] at e2
        cases e2
        exact ⟨x, q, r2⟩
  | t a xs =>
    obtain ⟨its, rv, p, _⟩ := I.tuple (show SqT X.K H a xs from r)
    have hne : a ≠ it := Nat.ne_of_lt (Nat.lt_of_lt_of_le (show a < N from hlo) hN)
    have el : its.toArray.size = (Sd.t a xs).len := by
      rw [List.size_toArray]
      exact rv.length.symm
    have D : Draws X.prog X.w X.A.in1 it [it, a] (Sd.t a xs).len (fun i v => its.toArray[i]? = some v) (fun i h => h.IsTupleIter it a i ∧ h.IsTuple a its.toArray) := by
      rw [← el]
      exact Draws.tuple (prog := X.prog) (w := X.w) (A := X.A.in1) (I.ok.hd hc) it a hne its.toArray
    refine ⟨[a], _, _, fun b hb => ?_, D, fun i st => ⟨st, p⟩, fun i h st => st.1, fun i u hu => ?_⟩
    · have e : b = a := by simpa using hb
      rw [e]; exact hlo
    · have hu' : its[i]? = some u := by simpa using hu
      cases q : xs[i]? with
      | none =>
        have := rv.none_of q
        rw [this] at hu'
        cases hu'
      | some x =>
        obtain ⟨u2, e2, r2⟩ := rv.get q
        rw [hu'] at e2
        cases e2
        exact ⟨x, q, r2⟩
  | s z k =>
    refine ⟨[], _, _, (fun b hb => nomatch hb), Draws.text (prog := X.prog) (w := X.w) (A := X.A.in1) (I.ok.hd hc) it z k, fun i st => st, fun i h st => st, fun i u hu => ?_⟩
    obtain ⟨c, u', e, rfl⟩ := hu
    exact ⟨.str ⟨#[c]⟩, by simp only [Sd.at_]; rw [e]; rfl, ⟨u', rfl⟩⟩
end
/-- zip of two sides -/
def ItZ (K : PySem.W.Frag) (d1 d2 : Sd) : It :=
  ⟨fun i H => d1.rd K H ∧ d2.rd K H ∧ i < min d1.len d2.len,
   fun i H v H' => ∃ T x y, v = .ref T ∧ H T = none ∧ H' = upd H T (.tup [x, y]) ∧ d1.at_ i = some x ∧ d2.at_ i = some y,
   fun i H => d1.rd K H ∧ d2.rd K H ∧ i = min d1.len d2.len⟩
theorem turn_Z {P : Program} {w : World} {K : PySem.W.Frag} {elts : List Expr} {kk : Nat} {tpos : Pos} {d1 d2 : Sd} {N : Nat} (l1 : d1.lo N) (l2 : d2.lo N) :
    Turn P w K (.Tuple elts kk tpos) (ItZ K d1 d2) [N + 4, N + 2, N + 3, N, N + 1] (N + 4) (fun i h => IsZip h (N + 4) (N + 2) (N + 3) .none ∧ IsTupOf2 h (N + 2) (.ref N) (.ref (N + 1)) ∧ (∃ x y, IsTupOf2 h (N + 3) x y) ∧ d1.st N i h ∧ d2.st (N + 1) i h) where
  mem := by simp
  obj := fun i h st c hc => by
    obtain ⟨hz, hTI, ⟨x, y, hTO⟩, h1, h2⟩ := st
    have e' : c = N + 4 ∨ c = N + 2 ∨ c = N + 3 ∨ c = N ∨ c = N + 1 := by simpa using hc
    rcases e' with q | q | q | q | q
    · rw [q]; exact ⟨_, hz, fun v q => nomatch q⟩
    · rw [q]; exact ⟨_, hTI, fun v q => nomatch q⟩
    · rw [q]; exact ⟨_, hTO, fun v q => nomatch q⟩
    · rw [q]; exact d1.there h1
    · rw [q]; exact d2.there h2
  keep := fun i h h' st k => by
    obtain ⟨hz, hTI, ⟨x, y, hTO⟩, h1, h2⟩ := st
    exact ⟨k (N + 4) (by simp) _ hz, k (N + 2) (by simp) _ hTI, ⟨x, y, k (N + 3) (by simp) _ hTO⟩, d1.st_at h1 fun o q => k N (by simp) o q, d2.st_at h2 fun o q => k (N + 1) (by simp) o q⟩
  item := by
    intro X hP hw hK hc i pins s σ H E I hf st hg
    subst hP hw hK
    obtain ⟨hz, hTI, hTO, h1, h2⟩ := st
    obtain ⟨r1, r2, hi⟩ := hg
    obtain ⟨fp1, P1, St1, f1, D1, a1, b1, c1⟩ := d1.draws hc I r1 N (hf N (by simp)).1 l1 (Nat.le_refl _)
    obtain ⟨fp2, P2, St2, f2, D2, a2, b2, c2⟩ := d2.draws hc I r2 (N + 1) (hf (N + 1) (by simp)).1 l2 (Nat.le_succ _)
    have G := GoesN.zip2 (elts := elts) (x1 := kk) (pos := tpos) (zip_sep2 f1 f2) D1 D2
    have hzl : N + 4 < s.heap.objs.size := Heap.lt_size hz
    refine G.goes i s _ _ hi ⟨hz, hTI, hTO, a1 i h1, a2 i h2⟩ fun v h' tk hY hS hk htk => ?_
    obtain ⟨T, u, u2, rfl, hT, p1, p2, hTT⟩ := hY
    obtain ⟨x, e1, rx⟩ := c1 i u p1
    obtain ⟨y, e2, ry⟩ := c2 i u2 p2
    have new : ObjOk X.prog X.w (upd H T (.tup [x, y])) h' T (.tup [x, y]) := ⟨by show 2 ≤ sizeLine; decide, [u, u2], .cons rx (.cons ry .nil), hTT⟩
    have I1 : L2.Inv X pins σ (upd H T (.tup [x, y])) { s with heap := h', toks := tk } :=
      I.turnedNew (t' := tk) (ch := [N + 4, N + 2, N + 3, N, N + 1]) (fun c o hb q => hk c o (fun m => hb (by simp at m ⊢; rcases m with m | m | m | m <;> simp [m])) q) hf hT new
    obtain ⟨z1, z2, z3, z4, z5⟩ := hS
    refine ⟨.ref T, _, I1, rfl, ⟨T, x, y, rfl, I.hok.fresh hT, rfl, e1, e2⟩, ⟨z1, z2, z3, b1 _ _ z4, b2 _ _ z5⟩, fun c hcm => ?_⟩
    have hlt : c < s.heap.objs.size := by
      have e' : c = N + 4 ∨ c = N + 2 ∨ c = N + 3 ∨ c = N ∨ c = N + 1 := by simpa using hcm
      rcases e' with q | q | q | q | q
      · rw [q]; exact hzl
      · rw [q]; exact Nat.lt_of_le_of_lt (Nat.add_le_add_left (by decide) _) hzl
      · rw [q]; exact Nat.lt_of_le_of_lt (Nat.add_le_add_left (by decide) _) hzl
      · rw [q]; exact Nat.lt_of_le_of_lt (Nat.le_add_right _ _) hzl
      · rw [q]; exact Nat.lt_of_le_of_lt (Nat.add_le_add_left (by decide) _) hzl
    rw [upd_ne (Nat.ne_of_lt (Nat.lt_of_lt_of_le hlt hT))]
    exact (hf c hcm).1
  done := by
    intro X hP hw hK hc i pins s σ H E I hf st hg
    subst hP hw hK
    obtain ⟨hz, hTI, hTO, h1, h2⟩ := st
    obtain ⟨r1, r2, hi⟩ := hg
    subst hi
    obtain ⟨fp1, P1, St1, f1, D1, a1, b1, c1⟩ := d1.draws hc I r1 N (hf N (by simp)).1 l1 (Nat.le_refl _)
    obtain ⟨fp2, P2, St2, f2, D2, a2, b2, c2⟩ := d2.draws hc I r2 (N + 1) (hf (N + 1) (by simp)).1 l2 (Nat.le_succ _)
    have G := GoesN.zip2 (elts := elts) (x1 := kk) (pos := tpos) (zip_sep2 f1 f2) D1 D2
    refine G.stops s _ _ ⟨hz, hTI, hTO, a1 _ h1, a2 _ h2⟩ fun h' tk hk htk => ?_
    exact I.turnedL (t' := tk) (ch := [N + 4, N + 2, N + 3, N, N + 1]) (fun c o hb q => hk c o (fun m => hb (by simp at m ⊢; rcases m with m | m | m | m <;> simp [m])) q) hf
  self := fun A i s Q E st h => wpAny_pyIter_zip st.1 h
/-- what may stand in a zip -/
def SdV (K : PySem.W.Frag) (H : Hp) (x : V) (d : Sd) : Prop := d.rd K H ∧ match d with
  | .l a _ => x = .ref a
  | .t a _ => x = .ref a
  | .s z _ => x = .str z
def iZ (K : PySem.W.Frag) (ta : TA) : TI := fun σ H R => ta σ H fun vs H1 => ∃ x y, vs = [x, y] ∧ ∀ k1 k2 : Tok, ∃ d1 d2 : Sd, SdV K H1 x d1 ∧ SdV K H1 y d2 ∧ (∀ z k, d1 = .s z k → k = k1) ∧ (∀ z k, d2 = .s z k → k = k2) ∧ R (ItZ K d1 d2) H1
theorem SdV.val {K : PySem.W.Frag} {H : Hp} {x : V} {d : Sd} {u : Value} {k1 : Tok} (h : SdV K H x d) (r : RelV x u) (hk : ∀ z k, d = .s z k → k = k1) (hu : ∀ z t, u = .str z t → t = k1) : u = d.val := by
  obtain ⟨_, h⟩ := h
  cases d with
  | l a xs =>
    cases h
    exact r
  | t a xs =>
    cases h
    exact r
  | s z k =>
    cases h
    obtain ⟨t, rfl⟩ := r
    have e1 := hk z k rfl
    have e2 := hu z t rfl
    rw [e1, e2]
    rfl
def tokOf : Value → Tok
  | .str _ t => t
  | _ => default
theorem pi_Z {X : Cx} {e e2 : Expr} {ta : TA} {p pos tpos : Pos} {elts : List Expr} {kk : Nat} (hg : Gl X "zip") (hm : X.mg "zip" = none) (ha : PA X [e, e2] ta)
    (hs : starEach [e, e2] X.env = (false, eval e X.env) :: starEach [e2] X.env) (hpl : (backTo pos (starEach [e2] X.env)).any (·.1) = false) :
    PI X (.Tuple elts kk tpos) (.Call (.Name "zip" p) [e, e2] [] pos) (iZ X.K ta) := by
  refine ⟨fun pins s σ H R I h => ?_⟩
  refine Call_ (ld_blt I hg hm PyProof.Rows.boot_zip (PyProof.Rows.callWith_type1 (thn (ha.run pos pins s σ H _ I h) fun us s1 ⟨vs, H1, I1, r1, q1⟩ => ?_) hs hpl))
  obtain ⟨x, y, ex, q1⟩ := q1
  subst ex
  obtain ⟨u, u', rfl, r, r'⟩ := vals2 r1
  · skip
    · skip
      obtain ⟨d1, d2, v1, v2, k1, k2, q⟩ := q1 (tokOf u) (tokOf u')
      have e1 : u = d1.val := v1.val r k1 fun z t e => by rw [e]; rfl
      have e2 : u' = d2.val := v2.val r' k2 fun z t e => by rw [e]; rfl
      subst e1 e2
      obtain ⟨P1, B1, p1, l1⟩ := d1.begins I1 v1.1
      obtain ⟨P2, B2, p2, l2⟩ := d2.begins I1 v2.1
      refine zip_begins2 B1 B2 p1 p2 fun h' hz hTI hTO h1 h2 hsz hk => wpAny_pyIter_zip hz ?_
      have I2 : L2.Inv X pins σ H1 { s1 with heap := h' } := I1.kept (t' := s1.toks) hk
      refine ⟨s1.heap.objs.size + 4, [s1.heap.objs.size + 4, s1.heap.objs.size + 2, s1.heap.objs.size + 3, s1.heap.objs.size, s1.heap.objs.size + 1], _, _, H1, rfl, I2, turn_Z l1 l2, ⟨hz, hTI, ⟨_, _, hTO⟩, d1.st0 h1, d2.st0 h2⟩, fun c hcm => ?_, q⟩
      have e' : c = s1.heap.objs.size + 4 ∨ c = s1.heap.objs.size + 2 ∨ c = s1.heap.objs.size + 3 ∨ c = s1.heap.objs.size ∨ c = s1.heap.objs.size + 1 := by simpa using hcm
      have hle : s1.heap.objs.size ≤ c := by
        rcases e' with z | z | z | z | z
        · rw [z]; exact Nat.le_add_right _ _
        · rw [z]; exact Nat.le_add_right _ _
        · rw [z]; exact Nat.le_add_right _ _
        · rw [z]; exact Nat.le_refl _
        · rw [z]; exact Nat.le_add_right _ _
      exact I1.fpOk hle (I1.hok.fresh hle)
/-- a value of any kind, walked -/
def iVal (K : PySem.W.Frag) (te : TE) : TI := fun σ H R => te σ H fun x H1 => (∃ a, x = .ref a ∧ (∃ xs, SqL K H1 a xs) ∧ R (Itl K a) H1) ∨ (∃ a, x = .ref a ∧ (∃ xs, SqT K H1 a xs) ∧ R (Itt K a) H1) ∨ ∃ z, x = .str z ∧ R (Its z) H1
theorem pi_val {X : Cx} {tg e : Expr} {te : TE} (he : PE X e te) : PI X tg e (iVal X.K te) := by
  refine ⟨fun pins s σ H R I h => ?_⟩
  refine thn (he.run pins s σ H _ I h) fun v s1 ⟨x, H1, I1, r1, q1⟩ => ?_
  rcases q1 with ⟨a, e, ⟨xs, hq⟩, q⟩ | ⟨a, e, ⟨xs, hq⟩, q⟩ | ⟨z, e, q⟩
  · subst e
    cases r1
    obtain ⟨its, rv, p, hz⟩ := I1.list hq
    refine wpAny_pyIter_list p.isList ?_
    exact pi_one (tk := s1.toks) I1 _ (turn_list a _) ⟨_, Heap.get?_push_size _ rfl, rfl, rfl⟩ q
  · subst e
    cases r1
    obtain ⟨its, rv, p, hz⟩ := I1.tuple hq
    refine wpAny_pyIter_tuple (show s1.heap.IsTuple a its.toArray from p) ?_
    exact pi_one (tk := s1.toks) I1 _ (turn_tuple a _) ⟨_, Heap.get?_push_size _ rfl, rfl, rfl⟩ q
  · subst e
    obtain ⟨t, rfl⟩ := r1
    cases ha : z.cps.all (· < 128)
    · exact wpAny_pyIter_wide ha (pi_one (tk := s1.toks) I1 _ (turn_str _ z t "str_iterator" (.inr rfl)) ⟨_, Heap.get?_push_size _ rfl, rfl, rfl⟩ q)
    · exact wpAny_pyIter_ascii ha (pi_one (tk := s1.toks) I1 _ (turn_str _ z t "str_ascii_iterator" (.inl rfl)) ⟨_, Heap.get?_push_size _ rfl, rfl, rfl⟩ q)
end Z

/-! Z8: what is walked holds data -/
namespace Z
open PySem PySem.Spec PyProof.Rows L2
/-- later, and what others own may be more -/
structure Nxt (K : PySem.W.Frag) (F0 : Fs) (H0 : Hp) (ρ0 : List Addr) (F : Fs) (H : Hp) (ρ : List Addr) (S : Store) : Prop where
  wf : Wf K H F ρ S
  le : Le (del H0 F0 ρ0) (del H F ρ)
  pre : ρ0 <+: ρ
theorem Nxt.repA {K : PySem.W.Frag} {F0 : Fs} {H0 : Hp} {F : Fs} {ρ0 : List Addr} {H : Hp} {ρ : List Addr} {S : Store} (a : Nxt K F0 H0 ρ0 F H ρ S) {v : List V} {d : List D} (r : RepA K (del H0 F0 ρ0) ρ0 v d) : RepA K (del H F ρ) ρ v d := RepA.le a.le a.pre _ _ r
theorem Stp.nxt {K : PySem.W.Frag} {F : Fs} {H : Hp} {ρ : List Addr} {H' : Hp} {ρ' : List Addr} {S' : Store} (s : Stp K F H ρ H' ρ' S') : Nxt K F H ρ F H' ρ' S' := ⟨s.wf, s.le, s.pre⟩
/-- an iterator that walks items, whatever happens besides -/
def ItsOk (K : PySem.W.Frag) (F : Fs) (J : It) (H1 : Hp) (ρ1 : List Addr) (items : List D) : Prop :=
  items.length ≤ sizeLine ∧ ∀ F' H ρ S, Nxt K F H1 ρ1 F' H ρ S → (∀ i, i < items.length → J.go i H) ∧ J.stop items.length H ∧
    ∀ i x H', i < items.length → J.yld i H x H' → ∃ d, items[i]? = some d ∧ Stp K F' H ρ H' ρ S ∧ Rep K (del H' F' ρ) ρ x d
def PostI (K : PySem.W.Frag) (F : Fs) (H : Hp) (ρ : List Addr) (R : It → Hp → Prop) : Res (List D) → Prop
  | .ok items S' => ∀ J H1 ρ1, Stp K F H ρ H1 ρ1 S' → ItsOk K F J H1 ρ1 items → R J H1
  | .exc _ _ => False
  | .stuck => False
def tI (K : PySem.W.Frag) (f : Env → M (List D)) : TI := fun σ H R => ∃ F ρ S env, Wf K H F ρ S ∧ EnvOk K (del H F ρ) ρ env σ ∧ PostI K F H ρ R (f env S)
section
variable {K : PySem.W.Frag} {H H' H1 H2 : Hp} {F : Fs} {ρ ρ' ρ1 ρ2 : List Addr} {S S' S1 S2 : Store}
theorem PostI.from {R : It → Hp → Prop} (s : Stp K F H ρ H1 ρ1 S1) {r : Res (List D)} (h : PostI K F H ρ R r) : PostI K F H1 ρ1 R r := by
  cases r with
  | ok d S' => exact fun J H' ρ' t q => h J H' ρ' (s.trans t) q
  | exc _ _ => exact h
  | stuck => exact h
theorem PostI.bindA {m : M (List D)} {g : List D → M (List D)} {R : It → Hp → Prop} (h : PostI K F H ρ R (M.bind m g S)) :
    PostA K F H ρ (fun v H1 => ∃ ρ1 S1 d, Stp K F H ρ H1 ρ1 S1 ∧ RepA K (del H1 F ρ1) ρ1 v d ∧ PostI K F H1 ρ1 R (g d S1)) (m S) := by
  have p := h
  unfold M.bind at p
  cases q : m S with
  | ok d S1 =>
    rw [q] at p
    exact fun v H1 ρ1 s r => ⟨ρ1, S1, d, s, r, p.from s⟩
  | exc _ _ => rw [q] at p; exact p
  | stuck => rw [q] at p; exact p
theorem PostI.bind {m : M D} {g : D → M (List D)} {R : It → Hp → Prop} (h : PostI K F H ρ R (M.bind m g S)) :
    Post K F H ρ (fun v H1 => ∃ ρ1 S1 d, Stp K F H ρ H1 ρ1 S1 ∧ Rep K (del H1 F ρ1) ρ1 v d ∧ PostI K F H1 ρ1 R (g d S1)) (m S) := by
  have p := h
  unfold M.bind at p
  cases q : m S with
  | ok d S1 =>
    rw [q] at p
    exact fun v H1 ρ1 s r => ⟨ρ1, S1, d, s, r, p.from s⟩
  | exc _ _ => rw [q] at p; exact p
  | stuck => rw [q] at p; exact p
theorem tI_args {f : Env → M (List D)} {g : List D → M (List D)} {σ : L2.St} {R : It → Hp → Prop} (h : tI K (fun env => M.bind (f env) g) σ H R) :
    tA K f σ H fun vs H1 => ∃ F ρ S ds, Wf K H1 F ρ S ∧ RepA K (del H1 F ρ) ρ vs ds ∧ PostI K F H1 ρ R (g ds S) := by
  obtain ⟨F, ρ, S, env, w, e, p⟩ := h
  refine ⟨F, ρ, S, env, w, e, (PostI.bindA p).imp ?_⟩
  rintro v H1 ⟨ρ1, S1, d, s, r, p1⟩
  exact ⟨F, ρ1, S1, d, s.wf, r, p1⟩
/-- items that stand in a list, a tuple -/
theorem its_list {a : Addr} {vs : List V} {ds : List D} (h1 : SqL K (del H F ρ) a vs) (h2 : RepA K (del H F ρ) ρ vs ds) (hz : ds.length ≤ sizeLine) : ItsOk K F (Itl K a) H ρ ds := by
  refine ⟨hz, ?_⟩
  intro F' H' ρ' S' s
  have q1 : SqL K H' a vs := SqL.le del_leH (SqL.le (Le.r s.le) h1)
  have q2 := s.repA h2
  have hl := q2.length
  refine ⟨fun i hi => ?_, ⟨vs, q1, by omega⟩, fun i x H2 hi y => ?_⟩
  · exact ⟨vs, vs[i]'(by omega), q1, by simp [show i < vs.length by omega]⟩
  · obtain ⟨rfl, y⟩ := y
    obtain ⟨d, e1, e2⟩ := q2.get' (y vs q1)
    exact ⟨d, e1, Stp.refl s.wf, e2⟩
theorem its_tup {a : Addr} {vs : List V} {ds : List D} (h1 : SqT K (del H F ρ) a vs) (h2 : RepA K (del H F ρ) ρ vs ds) (hz : ds.length ≤ sizeLine) : ItsOk K F (Itt K a) H ρ ds := by
  refine ⟨hz, ?_⟩
  intro F' H' ρ' S' s
  have q1 : SqT K H' a vs := SqT.le del_leH (SqT.le (Le.r s.le) h1)
  have q2 := s.repA h2
  have hl := q2.length
  refine ⟨fun i hi => ?_, ⟨vs, q1, by omega⟩, fun i x H2 hi y => ?_⟩
  · exact ⟨vs, vs[i]'(by omega), q1, by simp [show i < vs.length by omega]⟩
  · obtain ⟨rfl, y⟩ := y
    obtain ⟨d, e1, e2⟩ := q2.get' (y vs q1)
    exact ⟨d, e1, Stp.refl s.wf, e2⟩
theorem signs_at {z : Str} {i : Nat} {c : Nat} (h : z.cps[i]? = some c) : (signs z)[i]? = some (.str ⟨#[c]⟩) := by
  unfold signs
  rw [List.getElem?_map, Array.getElem?_toList, h]
  rfl
theorem signs_length (z : Str) : (signs z).length = z.cps.size := by
  unfold signs
  rw [List.length_map, Array.length_toList]
theorem its_str {z : Str} (o : PyData.strOk z = true) (hz : z.length ≤ sizeLine) : ItsOk K F (Its z) H ρ (signs z) := by
  refine ⟨by rw [signs_length]; exact hz, ?_⟩
  intro F' H' ρ' S' s
  refine ⟨fun i hi => by rw [signs_length] at hi; exact hi, by show z.cps.size ≤ _; rw [signs_length]; exact Nat.le_refl _, fun i x H2 hi y => ?_⟩
  obtain ⟨rfl, c, hc, rfl⟩ := y
  exact ⟨_, signs_at hc, Stp.refl s.wf, sign_rep o (List.mem_of_getElem? (by rw [Array.getElem?_toList]; exact hc))⟩
theorem its_range {lo : Int} {n : Nat} (hz : n ≤ sizeLine) : ItsOk K F (Itr lo n) H ρ ((List.range n).map fun i => D.int (lo + (i : Nat))) := by
  refine ⟨by simpa using hz, ?_⟩
  intro F' H' ρ' S' s
  refine ⟨fun i hi => (by simpa using hi : i < n), by show n ≤ _; simp, fun i x H2 hi y => ?_⟩
  obtain ⟨rfl, rfl⟩ := y
  have hi' : i < n := by simpa using hi
  exact ⟨.int (lo + i), by simp [hi'], Stp.refl s.wf, .int _⟩
theorem its_enum {a : Addr} {vs : List V} {ds : List D} (h1 : SqL K (del H F ρ) a vs) (h2 : RepA K (del H F ρ) ρ vs ds) (hz : ds.length ≤ sizeLine) : ItsOk K F (Ite K a) H ρ (ds.mapIdx fun i x => .tup [.int i, x]) := by
  refine ⟨by rw [List.length_mapIdx]; exact hz, ?_⟩
  intro F' H' ρ' S' s
  have q1 : SqL K H' a vs := SqL.le del_leH (SqL.le (Le.r s.le) h1)
  have q2 := s.repA h2
  have hl := q2.length
  have W := walk_enum (K := K) (a := a) (xs := vs)
  refine ⟨fun i hi => ?_, ?_, fun i x H2 hi y => ?_⟩
  · rw [List.length_mapIdx] at hi
    exact W.goes i H' (by omega) q1
  · rw [List.length_mapIdx, ← hl]
    exact W.stops H' q1
  · rw [List.length_mapIdx] at hi
    obtain ⟨T, z, z2, rfl, hT, rfl, e1, e2⟩ := W.yields i H' x H2 (by omega) q1 y
    have e1 : V.int (i : Nat) = z := Option.some.inj e1
    subst e1
    obtain ⟨d, e3, e4⟩ := q2.get' e2
    exact ⟨.tup [.int i, d], by rw [List.getElem?_mapIdx, e3]; rfl, s.wf.laid hT _, s.wf.newTup hT (.cons (.int _) (.cons e4 .nil)) (by show 2 ≤ sizeLine; decide)⟩
/-- a side of a zip that holds data -/
theorem side_of {v : V} {d : D} {xs : List D} (r : Rep K (del H F ρ) ρ v d) (h : sideOf d = some xs) (k : Tok) :
    xs.length ≤ sizeLine ∧ ∃ sd : Sd, SdV K H v sd ∧ (∀ z k', sd = .s z k' → k' = k) ∧ sd.len = xs.length ∧ ∀ F' H' ρ' S', Nxt K F H ρ F' H' ρ' S' → sd.rd K H' ∧ ∀ i x, sd.at_ i = some x → ∃ d, xs[i]? = some d ∧ Rep K (del H' F' ρ') ρ' x d := by
  cases r with
  | @tup a vs ds h1 h2 h3 =>
    have e := Option.some.inj h
    subst e
    exact ⟨h3, .t a vs, ⟨SqT.le del_leH h1, rfl⟩, (fun z k' e => nomatch e), h2.length, fun F' H' ρ' S' s => ⟨SqT.le del_leH (SqT.le (Le.r s.le) h1), fun i x e => (s.repA h2).get' e⟩⟩
  | @lst a vs ds h1 h2 h3 =>
    have e := Option.some.inj h
    subst e
    exact ⟨h3, .l a vs, ⟨.inl (.inl (del_lst h1)), rfl⟩, (fun z k' e => nomatch e), h2.length, fun F' H' ρ' S' s => ⟨.inl (.inl (del_lst (s.le _ _ h1))), fun i x e => (s.repA h2).get' e⟩⟩
  | @scr a vs ds h1 h2 h3 =>
    have e := Option.some.inj h
    subst e
    exact ⟨h3, .l a vs, ⟨SqL.le del_leH h1, rfl⟩, (fun z k' e => nomatch e), h2.length, fun F' H' ρ' S' s => ⟨SqL.le del_leH (SqL.le (Le.r s.le) h1), fun i x e => (s.repA h2).get' e⟩⟩
  | @str z zz zo =>
    have e := Option.some.inj h
    subst e
    refine ⟨by rw [signs_length]; exact zz, .s z k, ⟨trivial, rfl⟩, fun z' k' e => by cases e; rfl, (signs_length z).symm, fun F' H' ρ' S' s => ⟨trivial, fun i x e => ?_⟩⟩
    simp only [Sd.at_] at e
    obtain ⟨c, e1, e2⟩ := Option.map_eq_some_iff.mp e
    subst e2
    exact ⟨_, signs_at e1, sign_rep zo (List.mem_of_getElem? (by rw [Array.getElem?_toList]; exact e1))⟩
  | _ => cases h
theorem its_zip {d1 d2 : Sd} {xs ys : List D} (hz1 : xs.length ≤ sizeLine) (hl1 : d1.len = xs.length) (hl2 : d2.len = ys.length)
    (h1 : ∀ F' H' ρ' S', Nxt K F H ρ F' H' ρ' S' → d1.rd K H' ∧ ∀ i x, d1.at_ i = some x → ∃ d, xs[i]? = some d ∧ Rep K (del H' F' ρ') ρ' x d)
    (h2 : ∀ F' H' ρ' S', Nxt K F H ρ F' H' ρ' S' → d2.rd K H' ∧ ∀ i x, d2.at_ i = some x → ∃ d, ys[i]? = some d ∧ Rep K (del H' F' ρ') ρ' x d) :
    ItsOk K F (ItZ K d1 d2) H ρ ((xs.zip ys).map fun p => .tup [p.1, p.2]) := by
  refine ⟨by rw [List.length_map, List.length_zip]; omega, ?_⟩
  intro F' H' ρ' S' s
  obtain ⟨a1, a2⟩ := h1 F' H' ρ' S' s
  obtain ⟨b1, b2⟩ := h2 F' H' ρ' S' s
  have hz : ((xs.zip ys).map fun p : D × D => D.tup [p.1, p.2]).length = min d1.len d2.len := by
    rw [List.length_map, List.length_zip, hl1, hl2]
  refine ⟨fun i hi => ⟨a1, b1, by rw [hz] at hi; exact hi⟩, ⟨a1, b1, hz⟩, fun i x H2 hi y => ?_⟩
  obtain ⟨T, x1, y1, rfl, hT, rfl, e1, e2⟩ := y
  obtain ⟨d, q1, q2⟩ := a2 i x1 e1
  obtain ⟨e, q3, q4⟩ := b2 i y1 e2
  refine ⟨.tup [d, e], ?_, s.wf.laid hT _, s.wf.newTup hT (.cons q2 (.cons q4 .nil)) (by show 2 ≤ sizeLine; decide)⟩
  have e : (xs.zip ys)[i]? = some (d, e) := List.getElem?_zip_eq_some.mpr ⟨q1, q3⟩
  rw [List.getElem?_map, e]
  rfl
end
section
variable {X : Cx} {tg : Expr} {pos p tpos : Pos} {elts : List Expr} {kk : Nat}
theorem PI.imp {tg iter : Expr} {wi wi' : TI} (h : PI X tg iter wi) (i : ∀ σ H R, wi' σ H R → wi σ H R) : PI X tg iter wi' := ⟨fun pins s σ H R I q => h.run pins s σ H R I (i _ _ _ q)⟩
theorem src_val {e : Expr} {f : Env → M D} (he : PE X e (tE X.K f)) : PI X tg e (tI X.K fun env => M.bind (f env) fun d => srcItems .val [d]) := by
  refine PI.imp (pi_val he) ?_
  rintro σ H R ⟨F, ρ, S, env, w, ev, q⟩
  refine ⟨F, ρ, S, env, w, ev, (PostI.bind q).imp ?_⟩
  rintro v H1 ⟨ρ1, S1, d, s, r, p1⟩
  cases r with
  | @tup a vs ds h1 h2 h3 => exact .inr (.inl ⟨a, rfl, ⟨vs, SqT.le del_leH h1⟩, p1 _ _ _ (Stp.refl s.wf) (its_tup h1 h2 h3)⟩)
  | @lst a vs ds h1 h2 h3 => exact .inl ⟨a, rfl, ⟨vs, .inl (.inl (del_lst h1))⟩, p1 _ _ _ (Stp.refl s.wf) (its_list (.inl (.inl h1)) h2 h3)⟩
  | @scr a vs ds h1 h2 h3 => exact .inl ⟨a, rfl, ⟨vs, SqL.le del_leH h1⟩, p1 _ _ _ (Stp.refl s.wf) (its_list h1 h2 h3)⟩
  | @str z zz zo => exact .inr (.inr ⟨z, rfl, p1 _ _ _ (Stp.refl s.wf) (its_str zo zz)⟩)
  | _ => exact p1.elim
theorem src_range1 {a : Expr} {f : Env → M (List D)} (hg : Gl X "range") (hm : X.mg "range" = none) (ha : PA X [a] (tA X.K f)) (hs : starEach [a] X.env = [(false, eval a X.env)]) :
    PI X tg (.Call (.Name "range" p) [a] [] pos) (tI X.K fun env => M.bind (f env) (srcItems .range1)) := by
  refine PI.imp (pi_range1 hg hm ha hs) ?_
  rintro σ H R h
  obtain ⟨F, ρ, S, env, w, ev, q⟩ := tI_args h
  refine ⟨F, ρ, S, env, w, ev, q.imp ?_⟩
  rintro vs H1 ⟨F, ρ, S, ds, w, rd, q⟩
  cases rd with
  | nil => exact q.elim
  | cons r rr =>
    cases rr with
    | cons _ _ => cases r <;> exact q.elim
    | nil =>
      cases r with
      | int n =>
        have q' : PostI X.K F H1 ρ R ((if -(2 ^ 62) ≤ n ∧ n ≤ 16777216 then M.ret ((List.range n.toNat).map fun i => D.int (i : Nat)) else M.stk) S) := q
        by_cases hn : -(2 ^ 62) ≤ n ∧ n ≤ 16777216
        · rw [if_pos hn] at q'
          refine ⟨n, rfl, hn.1, by omega, q' _ _ _ (Stp.refl w) ?_⟩
          have e := its_range (K := X.K) (F := F) (H := H1) (ρ := ρ) (lo := 0) (n := n.toNat) (by rw [sizeLine_eq]; omega)
          simpa using e
        · rw [if_neg hn] at q'
          exact q'.elim
      | _ => exact q.elim
theorem src_range2 {a b : Expr} {f : Env → M (List D)} (hg : Gl X "range") (hm : X.mg "range" = none) (ha : PA X [a, b] (tA X.K f)) (hs : starEach [a, b] X.env = [(false, eval a X.env), (false, eval b X.env)]) (hs2 : starEach [b] X.env = [(false, eval b X.env)]) :
    PI X tg (.Call (.Name "range" p) [a, b] [] pos) (tI X.K fun env => M.bind (f env) (srcItems .range2)) := by
  refine PI.imp (pi_range2 hg hm ha hs hs2) ?_
  rintro σ H R h
  obtain ⟨F, ρ, S, env, w, ev, q⟩ := tI_args h
  refine ⟨F, ρ, S, env, w, ev, q.imp ?_⟩
  rintro vs H1 ⟨F, ρ, S, ds, w, rd, q⟩
  cases rd with
  | nil => exact q.elim
  | cons r rr =>
    cases rr with
    | nil => cases r <;> exact q.elim
    | cons r2 rr =>
      cases rr with
      | cons _ _ => cases r <;> cases r2 <;> exact q.elim
      | nil =>
        cases r with
        | int n =>
          cases r2 with
          | int m =>
            have q' : PostI X.K F H1 ρ R ((if -(2 ^ 62) ≤ n ∧ n < 2 ^ 62 ∧ -(2 ^ 62) ≤ m ∧ m < 2 ^ 62 ∧ m - n ≤ 16777216 then M.ret ((List.range (m - n).toNat).map fun i => D.int (n + (i : Nat))) else M.stk) S) := q
            by_cases hn : -(2 ^ 62) ≤ n ∧ n < 2 ^ 62 ∧ -(2 ^ 62) ≤ m ∧ m < 2 ^ 62 ∧ m - n ≤ 16777216
            · rw [if_pos hn] at q'
              exact ⟨n, m, rfl, ⟨hn.1, hn.2.1, hn.2.2.1, hn.2.2.2.1⟩, q' _ _ _ (Stp.refl w) (its_range (by rw [sizeLine_eq]; omega))⟩
            · rw [if_neg hn] at q'
              exact q'.elim
          | _ => exact q.elim
        | _ => cases r2 <;> exact q.elim
theorem src_enum {a : Expr} {f : Env → M (List D)} (hg : Gl X "enumerate") (hm : X.mg "enumerate" = none) (ha : PA X [a] (tA X.K f)) (hs : starEach [a] X.env = [(false, eval a X.env)]) :
    PI X (.Tuple elts kk tpos) (.Call (.Name "enumerate" p) [a] [] pos) (tI X.K fun env => M.bind (f env) (srcItems .enum)) := by
  refine PI.imp (pi_enum hg hm ha hs) ?_
  rintro σ H R h
  obtain ⟨F, ρ, S, env, w, ev, q⟩ := tI_args h
  refine ⟨F, ρ, S, env, w, ev, q.imp ?_⟩
  rintro vs H1 ⟨F, ρ, S, ds, w, rd, q⟩
  cases rd with
  | nil => exact q.elim
  | cons r rr =>
    cases rr with
    | cons _ _ => cases r <;> exact q.elim
    | nil =>
      cases r with
      | @lst a vs ds h1 h2 h3 => exact ⟨a, vs, rfl, .inl (.inl (del_lst h1)), q _ _ _ (Stp.refl w) (its_enum (.inl (.inl h1)) h2 h3)⟩
      | _ => exact q.elim
theorem src_zip {a b : Expr} {f : Env → M (List D)} (hg : Gl X "zip") (hm : X.mg "zip" = none) (ha : PA X [a, b] (tA X.K f)) (hs : starEach [a, b] X.env = (false, eval a X.env) :: starEach [b] X.env) (hpl : (backTo pos (starEach [b] X.env)).any (·.1) = false) :
    PI X (.Tuple elts kk tpos) (.Call (.Name "zip" p) [a, b] [] pos) (tI X.K fun env => M.bind (f env) (srcItems .zip)) := by
  refine PI.imp (pi_Z hg hm ha hs hpl) ?_
  rintro σ H R h
  obtain ⟨F, ρ, S, env, w, ev, q⟩ := tI_args h
  refine ⟨F, ρ, S, env, w, ev, q.imp ?_⟩
  rintro vs H1 ⟨F, ρ, S, ds, w, rd, q⟩
  cases rd with
  | nil => exact q.elim
  | @cons v vs d ds r rr =>
    cases rr with
    | nil => exact q.elim
    | @cons v2 vs2 d2 ds2 r2 rr =>
      cases rr with
      | cons _ _ => exact q.elim
      | nil =>
        have q' : PostI X.K F H1 ρ R ((match sideOf d, sideOf d2 with
          | some xs, some ys => M.ret ((xs.zip ys).map fun p : D × D => D.tup [p.1, p.2])
          | _, _ => M.stk) S) := q
        cases h1 : sideOf d with
        | none => rw [h1] at q'; exact q'.elim
        | some xs =>
          cases h2 : sideOf d2 with
          | none => rw [h1, h2] at q'; exact q'.elim
          | some ys =>
            rw [h1, h2] at q'
            refine ⟨v, v2, rfl, fun k1 k2 => ?_⟩
            obtain ⟨a0, s1, a1, a2, a3, a4⟩ := side_of r h1 k1
            obtain ⟨b0, s2, b1, b2, b3, b4⟩ := side_of r2 h2 k2
            exact ⟨s1, s2, a1, b1, a2, b2, q' _ _ _ (Stp.refl w) (its_zip a0 a3 b3 a4 b4)⟩
end
end Z

/-! Z9: the text against the small language -/
namespace Z
open PySem PySem.Spec PyProof.Rows L2
def allBI : List BI := [.len, .all, .any, .sum, .sorted, .tuple, .list, .int, .abs, .min, .max, .str]
def allBT : List BT := [.int, .bool, .str, .tuple, .list]
def BI.of (x : Str) : Option BI := allBI.find? fun b => b.nm == x
def BT.of (x : Str) : Option BT := allBT.find? fun b => b.nm == x
def namesBT : List Expr → Option (List BT)
  | [] => some []
  | .Name x _ :: r => match BT.of x with
    | some b => (namesBT r).map (b :: ·)
    | none => none
  | _ :: _ => none
/-- an argument that is no star; an object that is no super() -/
def noStar : Expr → Bool
  | .Starred _ _ => false
  | _ => true
def noCall0 : Expr → Bool
  | .Call _ [] [] _ => false
  | _ => true
def viewCall (x : Str) (args : List Expr) : Option (Hd × List Expr) :=
  if x == "isinstance" then (match args with
    | [a, .Name t _] => (match BT.of t with
      | some b => some (.isi b, [a])
      | none => none)
    | [a, .Tuple ts _ _] => (match namesBT ts with
      | some bs => some (.isis bs, [a])
      | none => none)
    | _ => none)
  else match BI.of x, args with
    | some b, a :: as => some (.bi b, a :: as)
    | _, _ => none
def viewE : Expr → Option (Hd × List Expr)
  | .BinOp a op b _ => some (.bin op, [a, b])
  | .Compare a [op] [b] _ => if behindInMarks op b = false then some (.cmp op, [a, b]) else none
  | .UnaryOp .USub a _ => some (.neg, [a])
  | .Subscript a (.Slice none none (some (.UnaryOp .USub (.Constant (.int 1) _ _) _)) _) _ => some (.rev, [a])
  | .Subscript a (.Slice (some l) (some h) none _) _ => some (.slice true true, [a, l, h])
  | .Subscript a (.Slice (some l) none none _) _ => some (.slice true false, [a, l])
  | .Subscript a (.Slice none (some h) none _) _ => some (.slice false true, [a, h])
  | .Subscript a (.Slice none none none _) _ => some (.slice false false, [a])
  | .Subscript _ (.Slice _ _ _ _) _ => none
  | .Subscript a i _ => some (.ix, [a, i])
  | .Tuple es _ _ => some (.tup, es)
  | .List es _ => some (.lst, es)
  | .Call (.Name x _) args [] _ => viewCall x args
  | .Call (.Attribute o m ap) [a] [] p => if m == "join" && ap.endLine == p.line && noCall0 o then some (.meth .join, [o, a]) else none
  | _ => none
inductive Shape : Hd → List Expr → Expr → Prop
  | bin (op : Operator) (a b : Expr) (p : Pos) : Shape (.bin op) [a, b] (.BinOp a op b p)
  | cmp (op : CmpOp) (a b : Expr) (p : Pos) : behindInMarks op b = false → Shape (.cmp op) [a, b] (.Compare a [op] [b] p)
  | neg (a : Expr) (p : Pos) : Shape .neg [a] (.UnaryOp .USub a p)
  | rev (a : Expr) (k : Nat) (p1 p2 p3 p : Pos) : Shape .rev [a] (.Subscript a (.Slice none none (some (.UnaryOp .USub (.Constant (.int 1) k p1) p2)) p3) p)
  | sl11 (a l h : Expr) (p1 p : Pos) : Shape (.slice true true) [a, l, h] (.Subscript a (.Slice (some l) (some h) none p1) p)
  | sl10 (a l : Expr) (p1 p : Pos) : Shape (.slice true false) [a, l] (.Subscript a (.Slice (some l) none none p1) p)
  | sl01 (a h : Expr) (p1 p : Pos) : Shape (.slice false true) [a, h] (.Subscript a (.Slice none (some h) none p1) p)
  | sl00 (a : Expr) (p1 p : Pos) : Shape (.slice false false) [a] (.Subscript a (.Slice none none none p1) p)
  | ix (a i : Expr) (p : Pos) : (∀ l h s q, i ≠ .Slice l h s q) → Shape .ix [a, i] (.Subscript a i p)
  | tup (es : List Expr) (k : Nat) (p : Pos) : Shape .tup es (.Tuple es k p)
  | lst (es : List Expr) (p : Pos) : Shape .lst es (.List es p)
  | bi (b : BI) (a : Expr) (as : List Expr) (p1 p : Pos) : Shape (.bi b) (a :: as) (.Call (.Name b.nm p1) (a :: as) [] p)
  | isi (t : BT) (a : Expr) (p1 p2 p : Pos) : Shape (.isi t) [a] (.Call (.Name "isinstance" p1) [a, .Name t.nm p2] [] p)
  | isis (ts : List BT) (a : Expr) (es : List Expr) (k : Nat) (p1 p2 p : Pos) : namesBT es = some ts → Shape (.isis ts) [a] (.Call (.Name "isinstance" p1) [a, .Tuple es k p2] [] p)
  | join (o a : Expr) (ap p : Pos) : (ap.endLine == p.line) = true → noCall0 o = true → Shape (.meth .join) [o, a] (.Call (.Attribute o "join" ap) [a] [] p)
theorem BI.of_nm {x : Str} {b : BI} (h : BI.of x = some b) : x = b.nm := by
  have := List.find?_some h
  exact (eq_of_beq this).symm
theorem BT.of_nm {x : Str} {b : BT} (h : BT.of x = some b) : x = b.nm := by
  have := List.find?_some h
  exact (eq_of_beq this).symm
theorem view_call {x : Str} {args : List Expr} {h : Hd} {xs : List Expr} {p1 p : Pos} (e : viewCall x args = some (h, xs)) : Shape h xs (.Call (.Name x p1) args [] p) := by
  unfold viewCall at e
  by_cases hx : (x == "isinstance") = true
  · rw [if_pos hx] at e
    have hx := eq_of_beq hx
    subst hx
    split at e
    · rename_i a t q
      split at e
      · rename_i b hb
        cases e
        rw [BT.of_nm hb]
        exact .isi b _ _ _ _
      · cases e
    · rename_i a ts k q
      split at e
      · rename_i bs hb
        cases e
        exact .isis bs _ _ _ _ _ _ hb
      · cases e
    · cases e
  · rw [if_neg hx] at e
    split at e
    · rename_i b a as hb
      cases e
      rw [BI.of_nm hb]
      exact .bi b _ _ _ _
    · cases e
theorem view_shape {ex : Expr} {h : Hd} {xs : List Expr} (e : viewE ex = some (h, xs)) : Shape h xs ex := by
  unfold viewE at e
  split at e
  · cases e; exact .bin _ _ _ _
  · split at e
    · rename_i hb
      cases e; exact .cmp _ _ _ _ hb
    · cases e
  · cases e; exact .neg _ _
  · cases e; exact .rev _ _ _ _ _ _
  · cases e; exact .sl11 _ _ _ _ _
  · cases e; exact .sl10 _ _ _ _
  · cases e; exact .sl01 _ _ _ _
  · cases e; exact .sl00 _ _ _
  · cases e
  · rename_i a i p _ _ _ _ _ hn
    cases e
    exact .ix _ _ _ fun l h s q z => hn l h s q z
  · cases e; exact .tup _ _ _
  · cases e; exact .lst _ _
  · exact view_call e
  · split at e
    · rename_i hb
      cases e
      simp only [Bool.and_eq_true] at hb
      have hm := eq_of_beq hb.1.1
      subst hm
      exact .join _ _ _ _ hb.1.2 hb.2
    · cases e
  · cases e
/-! ### arguments -/
theorem star_one {e : Expr} {es : List Expr} {env : PySem.Env} (h : noStar e = true) : starEach (e :: es) env = (false, eval e env) :: starEach es env := by
  cases e <;> first | rfl | cases h
theorem star_any {pos : Pos} {env : PySem.Env} : ∀ {es : List Expr}, es.all noStar = true → (backTo pos (starEach es env)).any (·.1) = false
  | [], _ => rfl
  | e :: es, h => by
    simp only [List.all_cons, Bool.and_eq_true] at h
    rw [star_one h.1]
    show (false || (backTo pos (starEach es env)).any (·.1)) = false
    rw [star_any h.2]
    rfl
theorem base_one {o : Expr} {m : Str} {env : PySem.Env} (h : noCall0 o = true) : attributeBase o m env (eval o env) = eval o env := by
  unfold attributeBase
  split
  · cases h
  · rfl
theorem plain_ix {i : Expr} (h : ∀ l h s q, i ≠ .Slice l h s q) : PlainIx i := by
  intro o j
  cases i <;> first | rfl | exact absurd rfl (h _ _ _ _)
end Z

/-! Z10: the check of the text against the small language; small laws of readings -/
namespace Z
open PySem PySem.Spec PyProof.Rows L2
structure Cfg where
  fns : List (Str × Nat)
  glo : List (Str × Nat)
  kws : List (Nat × Nat × List Str × List Nat)
def constIs : D → Const → Bool
  | .non, .none => true
  | .bl a, .bool b => a == b
  | .int a, .int b => a == b
  | .str a, .str b => a == b && decide (a.length ≤ sizeLine) && PyData.strOk a
  | _, _ => false
def visOf (sc : Scope) (x : Str) : Bool := match sc.names.lookup x with
  | some .local => true
  | some .cell => true
  | some .free => true
  | _ => false
def locOf (sc : Scope) (x : Str) : Bool := match sc.names.lookup x with
  | some .local => true
  | some .cell => true
  | _ => false
def gloOf (sc : Scope) (x : Str) : Bool := decide (sc.names.lookup x = some .globalImplicit)
def okName (x : Str) : Bool := !(x == "__debug__") && !(x == "__classdict__") && !(x == "__name__")
def hdOk (sc : Scope) : Hd → Bool
  | .bi b => gloOf sc b.nm
  | .isi t => gloOf sc "isinstance" && gloOf sc t.nm
  | .isis ts => gloOf sc "isinstance" && decide (ts.length ≤ 15) && ts.all fun t => gloOf sc t.nm
  | _ => true
def ownN (N : List Str) (own : List Nat) : List (Str × Nat) := own.map fun i => (N.getD i Str.empty, i)
mutual
def chkT (ok : Str → Bool) (N : List Str) : Tg → Expr → Bool
  | .name i, ex => (match ex with
    | .Name x _ => decide (N[i]? = some x) && ok x
    | _ => false)
  | .tup ts, ex => (match ex with
    | .Tuple es _ _ => chkTs ok N ts es
    | _ => false)
def chkTs (ok : Str → Bool) (N : List Str) : List Tg → List Expr → Bool
  | [], es => es.isEmpty
  | t :: ts, es => (match es with
    | e :: es => noStar e && chkT ok N t e && chkTs ok N ts es
    | [] => false)
end
mutual
def tgIn (own : List Nat) : Tg → Bool
  | .name i => decide (i ∈ own)
  | .tup ts => tgsIn own ts
def tgsIn (own : List Nat) : List Tg → Bool
  | [] => true
  | t :: ts => tgIn own t && tgsIn own ts
end
/-- the expressions in what is walked -/
def srcView (sc : Scope) (tg it : Expr) : SK → Option (List Expr)
  | .val => some [it]
  | .range1 => (match it with
    | .Call (.Name x _) [a] [] _ => if x == "range" && gloOf sc x then some [a] else none
    | _ => none)
  | .range2 => (match it with
    | .Call (.Name x _) [a, b] [] _ => if x == "range" && gloOf sc x then some [a, b] else none
    | _ => none)
  | .enum => (match tg, it with
    | .Tuple _ _ _, .Call (.Name x _) [a] [] _ => if x == "enumerate" && gloOf sc x then some [a] else none
    | _, _ => none)
  | .zip => (match tg, it with
    | .Tuple _ _ _, .Call (.Name x _) [a, b] [] _ => if x == "zip" && gloOf sc x then some [a, b] else none
    | _, _ => none)
/-- no display of a set -/
def noSet : Expr → Bool
  | .Set _ _ _ => false
  | _ => true
def tst : E → Bool
  | .ife _ _ _ => false
  | _ => true
mutual
def chkE (cf : Cfg) (N : List Str) (sc : Scope) : E → Expr → Bool
  | .const d, ex => (match ex with
    | .Constant c _ _ => constIs d c
    | _ => false)
  | .var i, ex => (match ex with
    | .Name x _ => decide (N[i]? = some x) && visOf sc x && okName x
    | _ => false)
  | .glob g, ex => (match ex with
    | .Name x _ => decide (cf.glo.lookup x = some g) && gloOf sc x && okName x
    | _ => false)
  | .op h es, ex => (match viewE ex with
    | some (h', xs) => decide (h' = h) && hdOk sc h && chkEs cf N sc es xs
    | none => false)
  | .alloc es, ex => (match ex with
    | .List xs _ => chkEs cf N sc es xs
    | _ => false)
  | .call f es, ex => (match ex with
    | .Call (.Name x _) xs [] _ => decide (cf.fns.lookup x = some f) && gloOf sc x && okName x && chkEs cf N sc es xs
    | _ => false)
  | .callK f n ks perm es kes, ex => (match ex with
    | .Call (.Name x _) xs kws _ => decide (cf.fns.lookup x = some f) && gloOf sc x && okName x && decide (xs.length = n) && decide (kws.map (·.arg) = ks.map some) && decide ((f, n, ks, perm) ∈ cf.kws) && chkEs cf N sc es xs && chkEs cf N sc kes (kws.map (·.value))
    | _ => false)
  | .chain o1 o2 a b c, ex => (match ex with
    | .Compare a' [p1, p2] [b', c'] _ => decide (p1 = o1) && decide (p2 = o2) && !behindInMarks p2 c' && chkE cf N sc a a' && chkE cf N sc b b' && chkE cf N sc c c'
    | _ => false)
  | .not a, ex => (match ex with
    | .UnaryOp .Not a' _ => tst a && chkE cf N sc a a'
    | _ => false)
  | .bool conj es, ex => (match ex with
    | .BoolOp op xs _ => decide (op = if conj then .And else .Or) && !es.isEmpty && es.all tst && chkEs cf N sc es xs
    | _ => false)
  | .ife t a b, ex => (match ex with
    | .IfExp t' a' b' _ => tst t && chkE cf N sc t t' && chkE cf N sc a a' && chkE cf N sc b b'
    | _ => false)
  | .comp own elt tg k es ifs, ex => (match ex with
    | .ListComp elt' gs scope _ => (match gs with
      | [g] => (g.is_async == 0) && blkC N sc scope (ownN N own) && chkT (locOf scope) N tg g.target && tgIn own tg && noSet g.iter && (match srcView sc g.target g.iter k with
        | some xs => chkEs cf N sc es xs
        | none => false) && decide (ifs.length ≤ 1) && ifs.all tst && chkEs cf N (relS scope sc) ifs g.ifs && chkE cf N (relS scope sc) elt elt'
      | _ => false)
    | _ => false)
def chkEs (cf : Cfg) (N : List Str) (sc : Scope) : List E → List Expr → Bool
  | [], xs => xs.isEmpty
  | e :: es, xs => (match xs with
    | x :: xs => chkE cf N sc e x && chkEs cf N sc es xs
    | [] => false)
end

/-! ### the laws of M -/
theorem M.bind_assoc {α β γ : Type} (m : M α) (f : α → M β) (g : β → M γ) : M.bind (M.bind m f) g = M.bind m fun x => M.bind (f x) g := by
  funext S
  unfold M.bind
  cases m S <;> rfl
theorem M.ret_bind {α β : Type} (a : α) (f : α → M β) : M.bind (M.ret a) f = f a := rfl
theorem M.stk_bind {α β : Type} (f : α → M β) : M.bind M.stk f = M.stk := rfl
theorem M.bind_ret {α : Type} (m : M α) : M.bind m M.ret = m := by
  funext S
  unfold M.bind
  cases m S <;> rfl
section
variable {gl : Nat → Option D} {cal : Nat → List D → M D} {env : Env} {α : Type}
theorem evalEs_nil {g : List D → M α} : M.bind (evalEs gl cal [] env) g = g [] := rfl
theorem evalEs_cons {e : E} {es : List E} {g : List D → M α} : M.bind (evalEs gl cal (e :: es) env) g = M.bind (evalE gl cal e env) fun d => M.bind (evalEs gl cal es env) fun ds => g (d :: ds) := by
  simp only [evalEs, M.bind_assoc, M.ret_bind]
end
/-! ### readings -/
theorem PE.imp {X : Cx} {e : Expr} {t t' : TE} (h : PE X e t) (i : ∀ σ H Q, t' σ H Q → t σ H Q) : PE X e t' := ⟨fun pins s σ H Q I q => h.run pins s σ H Q I (i _ _ _ q)⟩
theorem PT.imp {X : Cx} {e : Expr} {t t' : TT} (h : PT X e t) (i : ∀ σ H Q, t' σ H Q → t σ H Q) : PT X e t' := ⟨fun pins s σ H Q I q => h.run pins s σ H Q I (i _ _ _ q)⟩
theorem PW.imp {X : Cx} {e : Expr} {t t' : TT} (h : PW X e t) (i : ∀ σ H Q, t' σ H Q → t σ H Q) : PW X e t' := ⟨fun wh pins s σ H Q I q => h.run wh pins s σ H Q I (i _ _ _ q)⟩
theorem PA.imp {X : Cx} {e : List Expr} {t t' : TA} (h : PA X e t) (i : ∀ σ H Q, t' σ H Q → t σ H Q) : PA X e t' := ⟨fun pos pins s σ H Q I q => h.run pos pins s σ H Q I (i _ _ _ q)⟩
theorem PTs.imp {X : Cx} {e : List Expr} {t t' : TT} (h : PTs X e t) (i : ∀ σ H Q, t' σ H Q → t σ H Q) : PTs X e t' := ⟨fun pins s σ H Q I q => h.run pins s σ H Q I (i _ _ _ q)⟩
theorem PG.imp {X : Cx} {e : Expr} {t t' : TG} (h : PG X e t) (i : ∀ v σ H Q, t' v σ H Q → t v σ H Q) : PG X e t' := ⟨fun pins s σ H v u Q I r q => h.run pins s σ H v u Q I r (i _ _ _ _ q)⟩
/-- what a def computes, as its promise -/
def spD (K : PySem.W.Frag) (np : Nat) (sem : List D → M D) : Sp := fun vs H Q _ => vs.length = np ∧ rA K sem vs H Q
/-- the names of built-ins that are used -/
def bltNames : List Str := allBI.map BI.nm ++ (allBT.map BT.nm ++ (["isinstance", "range", "enumerate", "zip"] : List Str))
/-- a context that fits -/
structure XOk (cf : Cfg) (gl : Nat → Option D) (cal : Nat → List D → M D) (N : List Str) (X : Cx) : Prop where
  nm : X.N = N
  nd : N.Nodup
  calm : X.calm = true
  hu : X.A.units + many + 100 < cLine
  blt : ∀ x : Str, x ∈ bltNames → X.mg x = none
  glo : ∀ x g, cf.glo.lookup x = some g → ∃ u v d, X.mg x = some u ∧ RelV v u ∧ gl g = some d ∧ ∀ G ρ, Rep X.K G ρ v d
  fns : ∀ x f, cf.fns.lookup x = some f → ∃ fa fd ps kk np, X.mg x = some (.ref fa) ∧ PySem.W.keepIn X.K (.ref fa) = true ∧ Binds X.K fd ps [] ∧ Room kk X.A ∧ FnOk X.prog X.w X.K X.mg X.base CX0 kk fa fd ps (spD X.K np (cal f)) ∧ (∀ ds S, ds.length ≠ np → cal f ds S = .stuck) ∧ ∀ n ks perm, (f, n, ks, perm) ∈ cf.kws → KBinds X.K fd ps ks (plc n ks.length perm) (plc n ks.length perm)
theorem XOk.blk {cf : Cfg} {gl : Nat → Option D} {cal : Nat → List D → M D} {N : List Str} {X : Cx} (o : XOk cf gl cal N X) (s : Shared) (H : Hp) (scope : Scope) (cenv : PySem.Env) (fp : List Addr) : XOk cf gl cal N (X.blk s H scope cenv fp) :=
  ⟨o.nm, o.nd, o.calm, o.hu, o.blt, o.glo, o.fns⟩
/-! ### targets -/
/-- what a target stores: the values that hold what is assigned -/
def gT (K : PySem.W.Frag) (t : Tg) : TG := fun v σ H Q => ∃ F ρ S d as, Wf K H F ρ S ∧ Rep K (del H F ρ) ρ v d ∧ assigns t d = some as ∧ ∀ vs, RepA K (del H F ρ) ρ vs (as.map (·.2)) → Q (setAll σ ((as.map (·.1)).zip (vs.map some))) H
def gTs (K : PySem.W.Frag) (ts : List Tg) : TGs := fun xs σ H Q => ∃ F ρ S ds as, Wf K H F ρ S ∧ RepA K (del H F ρ) ρ xs ds ∧ ts.length = ds.length ∧ assignsAll ts ds = some as ∧ ∀ vs, RepA K (del H F ρ) ρ vs (as.map (·.2)) → Q (setAll σ ((as.map (·.1)).zip (vs.map some))) H
theorem PGs.imp {X : Cx} {e : List Expr} {t t' : TGs} (h : PGs X e t) (i : ∀ v σ H Q, t' v σ H Q → t v σ H Q) : PGs X e t' := ⟨fun pins s σ H v u Q I r q => h.run pins s σ H v u Q I r (i _ _ _ _ q)⟩
theorem setAll_append {α : Type} (l : List α) (a b : List (Nat × α)) : setAll l (a ++ b) = setAll (setAll l a) b := by
  unfold setAll
  rw [List.foldl_append]
theorem assign_star {e : Expr} {es : List Expr} {env : PySem.Env} (h : noStar e = true) : assignEach (e :: es) env = (false, assign e env) :: assignEach es env := by
  cases e <;> first | rfl | cases h
theorem assign_len {env : PySem.Env} : ∀ {es : List Expr}, es.all noStar = true → (assignEach es env).length = es.length ∧ (assignEach es env).findIdx? (·.1) = none
  | [], _ => ⟨rfl, rfl⟩
  | e :: es, h => by
    simp only [List.all_cons, Bool.and_eq_true] at h
    obtain ⟨h1, h2⟩ := assign_len (env := env) h.2
    rw [assign_star h.1]
    refine ⟨by rw [List.length_cons, List.length_cons, h1], ?_⟩
    rw [List.findIdx?_cons]
    simp [h2]
mutual
theorem sndT {X : Cx} {N : List Str} {ok : Str → Bool} (hN : X.N = N) (nd : N.Nodup) (hc : X.calm = true) (hok : ∀ x, ok x = true → Loc X.env.scope x ∧ (X.fn x = true ∨ X.env.scope.names.lookup x = some .local)) :
    ∀ (t : Tg) (ex : Expr), chkT ok N t ex = true → PG X ex (gT X.K t)
  | .name i, ex, h => by
    simp only [chkT] at h
    split at h
    · rename_i x p
      simp only [Bool.and_eq_true, decide_eq_true_eq] at h
      obtain ⟨h1, h2⟩ := hok x h.2
      refine PG.imp (pg_name (by rw [hN]; exact nd) (by rw [hN]; exact h.1) h1 h2) ?_
      rintro v σ H Q ⟨F, ρ, S, d, as, w, r, e, q⟩
      simp only [assigns] at e
      cases e
      exact q [v] (.cons r .nil)
    · cases h
  | .tup ts, ex, h => by
    simp only [chkT] at h
    split at h
    · rename_i es k p
      have hl := chkTs_len ts es h
      obtain ⟨q1, q2⟩ := assign_len (env := X.env) hl.2
      refine PG.imp (pg_tup hc (sndTs hN nd hc hok ts es h) (n := es.length) q1 q2) ?_
      rintro v σ H Q ⟨F, ρ, S, d, as, w, r, e, q⟩
      cases r with
      | @tup a vs ds h1 h2 h3 =>
        simp only [assigns] at e
        by_cases hd : ts.length = ds.length
        · rw [if_pos hd] at e
          exact ⟨a, vs, rfl, SqT.le del_leH h1, by rw [h2.length, ← hd, hl.1], F, ρ, S, ds, as, w, h2, hd, e, q⟩
        · rw [if_neg hd] at e
          cases e
      | _ => simp only [assigns] at e; cases e
    · cases h
theorem sndTs {X : Cx} {N : List Str} {ok : Str → Bool} (hN : X.N = N) (nd : N.Nodup) (hc : X.calm = true) (hok : ∀ x, ok x = true → Loc X.env.scope x ∧ (X.fn x = true ∨ X.env.scope.names.lookup x = some .local)) :
    ∀ (ts : List Tg) (es : List Expr), chkTs ok N ts es = true → PGs X es (gTs X.K ts)
  | [], es, h => by
    simp only [chkTs] at h
    cases es with
    | cons _ _ => cases h
    | nil =>
      refine PGs.imp pgs_nil ?_
      rintro v σ H Q ⟨F, ρ, S, ds, as, w, r, hl, e, q⟩
      cases ds with
      | cons _ _ => cases hl
      | nil =>
        cases r
        simp only [assignsAll] at e
        cases e
        exact ⟨rfl, q [] .nil⟩
  | t :: ts, es, h => by
    simp only [chkTs] at h
    cases es with
    | nil => cases h
    | cons e es =>
      simp only [Bool.and_eq_true] at h
      refine PGs.imp (pgs_cons (sndT hN nd hc hok t e h.1.2) (sndTs hN nd hc hok ts es h.2) (by rw [assign_star h.1.1]; rfl)) ?_
      rintro v σ H Q ⟨F, ρ, S, ds, as, w, r, hl, ea, q⟩
      cases ds with
      | nil => cases hl
      | cons d ds =>
        cases r with
        | @cons v vs _ _ r1 r2 =>
          simp only [assignsAll] at ea
          obtain ⟨a1, e1, e2⟩ := Option.bind_eq_some_iff.mp ea
          obtain ⟨a2, e3, e4⟩ := Option.map_eq_some_iff.mp e2
          subst e4
          refine ⟨v, vs, rfl, F, ρ, S, d, a1, w, r1, e1, fun us1 ru1 => ⟨F, ρ, S, ds, a2, w, r2, by simpa using hl, e3, fun us2 ru2 => ?_⟩⟩
          have l1 := ru1.length
          have qq := q (us1 ++ us2) (by rw [List.map_append]; exact ru1.append ru2)
          rw [List.map_append, List.map_append, List.zip_append (by rw [List.length_map, List.length_map]; rw [List.length_map] at l1; exact l1.symm), setAll_append] at qq
          exact qq
theorem chkTs_len {ok : Str → Bool} {N : List Str} : ∀ (ts : List Tg) (es : List Expr), chkTs ok N ts es = true → ts.length = es.length ∧ es.all noStar = true
  | [], es, h => by
    simp only [chkTs] at h
    cases es with
    | cons _ _ => cases h
    | nil => exact ⟨rfl, rfl⟩
  | t :: ts, es, h => by
    simp only [chkTs] at h
    cases es with
    | nil => cases h
    | cons e es =>
      simp only [Bool.and_eq_true] at h
      obtain ⟨h1, h2⟩ := chkTs_len ts es h.2
      exact ⟨by rw [List.length_cons, List.length_cons, h1], by simp only [List.all_cons, Bool.and_eq_true]; exact ⟨h.1.1, h2⟩⟩
end
end Z

/-! Z11: an expression of the text computes what the small language says -/
namespace Z
open PySem PySem.Spec PyProof.Rows L2
section
variable {cf : Cfg} {gl : Nat → Option D} {cal : Nat → List D → M D} {N : List Str}
/-- an expression that computes -/
structure SndOk (gl : Nat → Option D) (cal : Nat → List D → M D) (X : Cx) (e : E) (ex : Expr) : Prop where
  pe : PE X ex (tE X.K (evalE gl cal e))
  star : noStar ex = true
  pt : tst e = true → PT X ex (tB X.K fun env => M.bind (evalE gl cal e env) truth)
inductive SndAll (gl : Nat → Option D) (cal : Nat → List D → M D) (X : Cx) : List E → List Expr → Prop
  | nil : SndAll gl cal X [] []
  | cons {e : E} {es : List E} {x : Expr} {xs : List Expr} : SndOk gl cal X e x → SndAll gl cal X es xs → SndAll gl cal X (e :: es) (x :: xs)
variable {X : Cx}
theorem SndAll.star : ∀ {es : List E} {xs : List Expr}, SndAll gl cal X es xs → xs.all noStar = true
  | [], [], _ => rfl
  | [], _ :: _, h => nomatch h
  | _ :: _, [], h => nomatch h
  | _ :: _, _ :: _, h => by
    cases h with
    | cons a b => simp only [List.all_cons, Bool.and_eq_true]; exact ⟨a.star, b.star⟩
theorem SndAll.len : ∀ {es : List E} {xs : List Expr}, SndAll gl cal X es xs → es.length = xs.length
  | [], [], _ => rfl
  | [], _ :: _, h => nomatch h
  | _ :: _, [], h => nomatch h
  | _ :: _, _ :: _, h => by
    cases h with
    | cons a b => rw [List.length_cons, List.length_cons, b.len]
theorem SndAll.pa : ∀ {es : List E} {xs : List Expr}, SndAll gl cal X es xs → PA X xs (tA X.K (evalEs gl cal es))
  | [], [], _ => by
    refine PA.imp pa_nil ?_
    rintro σ H Q ⟨F, ρ, S, env, w, ev, q⟩
    exact q [] H ρ (Stp.refl w) .nil
  | [], _ :: _, h => nomatch h
  | _ :: _, [], h => nomatch h
  | e :: es, x :: xs, h => by
    cases h with
    | cons a b =>
      refine PA.imp (pa_cons a.pe b.pa (star_one a.star)) ?_
      rintro σ H Q ⟨F, ρ, S, env, w, ev, q⟩
      simp only [evalEs] at q
      refine ⟨F, ρ, S, env, w, ev, (PostA.bind q).imp ?_⟩
      rintro v H1 ⟨ρ1, S1, d, s, r, p1⟩
      refine ⟨F, ρ1, S1, env, s.wf, ev.le s.le s.pre, (PostA.bindA p1).imp ?_⟩
      rintro vs H2 ⟨ρ2, S2, ds, s2, r2, p2⟩
      exact p2 _ _ _ (Stp.refl s2.wf) (.cons (s2.rep r) r2)
/-- a test by its value -/
theorem pt_plain {ex : Expr} {f : Env → M D} (h : PE X ex (tE X.K f)) (he : ∀ whole, isTrue ex X.env whole = (do let v ← whole; standAt ex.pos; holding [v] (truthy v))) : PT X ex (tB X.K fun env => M.bind (f env) truth) := by
  refine PT.imp (pt_val h he) ?_
  rintro σ H Q ⟨F, ρ, S, env, w, ev, q⟩
  refine ⟨F, ρ, S, env, w, ev, (PostB.bind q).imp ?_⟩
  rintro v H1 ⟨ρ1, S1, d, s, r, p1⟩
  cases r with
  | bl b => exact ⟨b, rfl, p1 _ _ (Stp.refl s.wf)⟩
  | _ => exact p1.elim
theorem pt_test {ex : Expr} {f : Env → M D} {t : TE} (h : PT X ex (tTest t)) (i : ∀ σ H Q, tE X.K f σ H Q → t σ H Q) : PT X ex (tB X.K fun env => M.bind (f env) truth) := by
  refine PT.imp h ?_
  rintro σ H Q ⟨F, ρ, S, env, w, ev, q⟩
  refine i _ _ _ ⟨F, ρ, S, env, w, ev, (PostB.bind q).imp ?_⟩
  rintro v H1 ⟨ρ1, S1, d, s, r, p1⟩
  cases r with
  | bl b => exact ⟨b, rfl, p1 _ _ (Stp.refl s.wf)⟩
  | _ => exact p1.elim
theorem const_ok {d : D} {c : Const} {j : Nat} {p : Pos} (h : constIs d c = true) : PE X (.Constant c j p) (tE X.K (evalE gl cal (.const d))) := by
  have fin : ∀ v, (∀ G ρ, Rep X.K G ρ v d) → ∀ σ H Q, tE X.K (evalE gl cal (.const d)) σ H Q → tC v σ H Q := fun v r σ H Q ⟨F, ρ, S, env, w, ev, q⟩ => q v H ρ (Stp.refl w) (r _ _)
  cases d with
  | non => cases c <;> first | exact PE.imp pe_non (fin _ fun _ _ => .non) | cases h
  | bl b =>
    cases c with
    | bool b' =>
      have e := eq_of_beq (show (b == b') = true from h)
      subst e
      exact PE.imp pe_bl (fin _ fun _ _ => .bl b)
    | _ => cases h
  | int i =>
    cases c with
    | int i' =>
      have e := eq_of_beq (show (i == i') = true from h)
      subst e
      exact PE.imp pe_int (fin _ fun _ _ => .int i)
    | _ => cases h
  | str s =>
    cases c with
    | str s' =>
      simp only [constIs, Bool.and_eq_true, decide_eq_true_eq] at h
      have e := eq_of_beq h.1.1
      subst e
      exact PE.imp pe_str (fin _ fun _ _ => .str h.1.2 h.2)
    | _ => cases h
  | _ => cases c <;> cases h
theorem vis_of {sc : Scope} {x : Str} (h : visOf sc x = true) : Vis sc x := by
  unfold visOf at h
  unfold Vis
  cases q : sc.names.lookup x with
  | none => rw [q] at h; cases h
  | some k =>
    rw [q] at h
    cases k with
    | «local» => exact .inl rfl
    | cell => exact .inr (.inl rfl)
    | free => exact .inr (.inr rfl)
    | _ => cases h
theorem okName_of {x : Str} (h : okName x = true) : (x == ("__debug__" : Str)) = false ∧ (x == ("__classdict__" : Str)) = false ∧ x ≠ "__name__" := by
  unfold okName at h
  simp only [Bool.and_eq_true, Bool.not_eq_true'] at h
  exact ⟨h.1.1, h.1.2, fun e => by rw [e] at h; simp at h⟩
theorem var_ok {i : Nat} {x : Str} {p : Pos} (hN : X.N = N) (h : (decide (N[i]? = some x) && visOf X.env.scope x && okName x) = true) : PE X (.Name x p) (tE X.K (evalE gl cal (.var i))) := by
  simp only [Bool.and_eq_true, decide_eq_true_eq] at h
  obtain ⟨h1, h2, _⟩ := okName_of h.2
  refine PE.imp (pe_var (i := i) (by rw [hN]; exact h.1.1) (vis_of h.1.2) h1 h2) ?_
  rintro σ H Q ⟨F, ρ, S, env, w, ev, q⟩
  simp only [evalE] at q
  cases e : env[i]? with
  | none => rw [e] at q; exact q.elim
  | some o =>
    cases o with
    | none => rw [e] at q; exact q.elim
    | some d =>
      rw [e] at q
      obtain ⟨v, h3, h4⟩ := ev.2 i d e
      exact ⟨v, h3, q v H ρ (Stp.refl w) h4⟩
theorem glo_of {sc : Scope} {x : Str} (hs : X.env.scope = sc) (h : gloOf sc x = true) : Gl X x := by
  subst hs
  exact (of_decide_eq_true h : X.env.scope.names.lookup x = some .globalImplicit)
theorem glob_ok (o : XOk cf gl cal N X) {g : Nat} {x : Str} {p : Pos} (h : (decide (cf.glo.lookup x = some g) && gloOf X.env.scope x && okName x) = true) : PE X (.Name x p) (tE X.K (evalE gl cal (.glob g))) := by
  simp only [Bool.and_eq_true, decide_eq_true_eq] at h
  obtain ⟨h1, h2, _⟩ := okName_of h.2
  obtain ⟨u, v, d, m1, m2, m3, m4⟩ := o.glo x g h.1.1
  refine PE.imp (pe_glob (glo_of rfl h.1.2) m1 m2 h1) ?_
  rintro σ H Q ⟨F, ρ, S, env, w, ev, q⟩
  simp only [evalE, m3] at q
  exact q v H ρ (Stp.refl w) (m4 _ _)
theorem bin_gen {a b : E} {h : Hd} {σ : L2.St} {H : Hp} {Q : VK} {g : D → D → M D} (hg : ∀ x y, opSem h [x, y] = g x y) (q : tE X.K (evalE gl cal (.op h [a, b])) σ H Q) :
    tE X.K (evalE gl cal a) σ H fun v H1 => tE X.K (evalE gl cal b) σ H1 fun u H2 => r2 X.K g v u H2 Q := by
  refine tE_two ?_
  obtain ⟨F, ρ, S, env, w, ev, p⟩ := q
  refine ⟨F, ρ, S, env, w, ev, ?_⟩
  simp only [evalE, evalEs_cons, evalEs_nil, hg] at p
  exact p
theorem un_gen {a : E} {h : Hd} {σ : L2.St} {H : Hp} {Q : VK} (q : tE X.K (evalE gl cal (.op h [a])) σ H Q) :
    tE X.K (evalE gl cal a) σ H fun v H1 => r1 X.K (fun d => opSem h [d]) v H1 Q := by
  refine tE_one ?_
  obtain ⟨F, ρ, S, env, w, ev, p⟩ := q
  refine ⟨F, ρ, S, env, w, ev, ?_⟩
  simp only [evalE, evalEs_cons, evalEs_nil] at p
  exact p
theorem args_gen {es : List E} {h : Hd} {σ : L2.St} {H : Hp} {Q : VK} (q : tE X.K (evalE gl cal (.op h es)) σ H Q) :
    tA X.K (evalEs gl cal es) σ H fun vs H1 => rA X.K (opSem h) vs H1 Q := tE_args q
theorem blt_in (o : XOk cf gl cal N X) {x : Str} (h : x ∈ bltNames) : X.mg x = none := o.blt x h
theorem BI.mem (b : BI) : b.nm ∈ bltNames := by cases b <;> decide +kernel
theorem BT.mem (b : BT) : b.nm ∈ bltNames := by cases b <;> decide +kernel
theorem BT.boot (b : BT) : bootBuiltins b.nm = some (.type b.ty) := by cases b <;> decide +kernel
theorem BT.okn (b : BT) : okName b.nm = true := by cases b <;> decide +kernel
theorem BI.okn (b : BI) : okName b.nm = true := by cases b <;> decide +kernel
theorem pe_ty (o : XOk cf gl cal N X) (t : BT) {p : Pos} (hg : gloOf X.env.scope t.nm = true) : PE X (.Name t.nm p) (tC (.ty t.ty)) := by
  obtain ⟨h1, _, h3⟩ := okName_of t.okn
  exact pe_bltn (glo_of rfl hg) (o.blt _ t.mem) t.boot rfl h3 h1
/-- the built-in functions -/
theorem bi_ok (o : XOk cf gl cal N X) (b : BI) {a : E} {as : List E} {x : Expr} {xs : List Expr} {p1 p : Pos} (hg : gloOf X.env.scope b.nm = true) (h : SndAll gl cal X (a :: as) (x :: xs)) :
    PE X (.Call (.Name b.nm p1) (x :: xs) [] p) (tE X.K (evalE gl cal (.op (.bi b) (a :: as)))) := by
  obtain ⟨h1, _, h3⟩ := okName_of b.okn
  have hm := o.blt _ b.mem
  have hst := h.star
  simp only [List.all_cons, Bool.and_eq_true] at hst
  have hu : X.A.units + many + 5 < cLine := by have := o.hu; omega
  have fin : ∀ {f : List V → Hp → VK → Prop}, (∀ xs H Q, rA X.K (biSem b) xs H Q → f xs H Q) → ∀ σ H Q, tE X.K (evalE gl cal (.op (.bi b) (a :: as))) σ H Q → tCB f (tA X.K (evalEs gl cal (a :: as))) σ H Q := by
    intro f hf σ H Q q
    obtain ⟨F, ρ, S, env, w, ev, p⟩ := args_gen q
    exact ⟨F, ρ, S, env, w, ev, p.imp fun vs H1 z => hf _ _ _ z⟩
  have B : ∀ {id : String}, bootBuiltins b.nm = some (.builtin id) → CallR X (.builtin id) (rA X.K (biSem b)) → PE X (.Call (.Name b.nm p1) (x :: xs) [] p) (tE X.K (evalE gl cal (.op (.bi b) (a :: as)))) := fun hb hc =>
    PE.imp (pe_callB hc (glo_of rfl hg) hm hb h.pa h3 h1 (star_one hst.1) (star_any hst.2)) (fin fun _ _ _ z => z)
  have T : ∀ {id : String}, bootBuiltins b.nm = some (.type id) → CallR X (.type id) (rA X.K (biSem b)) → PE X (.Call (.Name b.nm p1) (x :: xs) [] p) (tE X.K (evalE gl cal (.op (.bi b) (a :: as)))) := fun hb hc =>
    PE.imp (pe_callTy hc (glo_of rfl hg) hm hb h.pa h3 h1 (star_one hst.1) (star_any hst.2)) (fin fun _ _ _ z => z)
  have no : (∀ ds, biSem b ds = M.stk) → ∀ {f : Value}, CallR X f (rA X.K (biSem b)) := fun hz f => callNone fun xs H Q ⟨F, ρ, S, ds, w, r, p⟩ => by rw [hz] at p; exact p
  cases b with
  | len => exact B (by decide +kernel) bi_len
  | all => exact B (by decide +kernel) (bi_all o.calm)
  | any => exact B (by decide +kernel) (bi_any o.calm)
  | sum => exact B (by decide +kernel) (bi_sum o.calm)
  | sorted => exact B (by decide +kernel) (bi_sorted hu o.calm)
  | tuple => exact T (by decide +kernel) bi_tuple
  | list => exact T (by decide +kernel) bi_list
  | int => exact T (by decide +kernel) bi_int
  | abs => exact B (by decide +kernel) bi_abs
  | min => exact B (by decide +kernel) (bi_min o.calm)
  | max => exact B (by decide +kernel) (bi_max o.calm)
  | str => exact T (by decide +kernel) bi_str
theorem isi_in : ("isinstance" : Str) ∈ bltNames := by decide +kernel
theorem isi_ok (o : XOk cf gl cal N X) (t : BT) {a : E} {x : Expr} {p1 p2 p : Pos} (hg : hdOk X.env.scope (.isi t) = true) (h : SndOk gl cal X a x) :
    PE X (.Call (.Name "isinstance" p1) [x, .Name t.nm p2] [] p) (tE X.K (evalE gl cal (.op (.isi t) [a]))) := by
  simp only [hdOk, Bool.and_eq_true] at hg
  refine PE.imp (pe_callB call_isi (glo_of rfl hg.1) (o.blt _ isi_in) PyProof.Rows.boot_isinstance (pa_cons h.pe (pa_cons (pe_ty o t hg.2) pa_nil) (star_one h.star)) (by decide +kernel) (by decide +kernel) (star_one h.star)) ?_
  intro σ H Q q
  obtain ⟨F, ρ, S, env, w, ev, p⟩ := un_gen q
  refine ⟨F, ρ, S, env, w, ev, p.imp ?_⟩
  rintro v H1 ⟨F, ρ, S, d, w, r, q⟩
  have q' : Post X.K F H1 ρ Q (if okT S d = true then .ok (.bl (isT S t d)) S else .stuck) := q
  by_cases hk : okT S d = true
  · rw [if_pos hk] at q'
    obtain ⟨ty, t1, t2⟩ := isT_rep w r hk
    exact ⟨v, .ty t.ty, _, _, _, rfl, .ty _, t1, t2 t, q'.ok w (.bl _)⟩
  · rw [if_neg hk] at q'
    exact q'.elim
theorem names_pa (o : XOk cf gl cal N X) : ∀ {ts : List BT} {es : List Expr}, namesBT es = some ts → (ts.all fun t => gloOf X.env.scope t.nm) = true →
    ∃ t : TA, PA X es t ∧ es.all noStar = true ∧ ∀ σ H Q, Q (ts.map fun t => V.ty t.ty) H → t σ H Q
  | ts, [], h, _ => by
    simp only [namesBT] at h
    cases h
    exact ⟨_, pa_nil, rfl, fun σ H Q q => q⟩
  | ts, e :: es, h, hg => by
    cases e with
    | Name x p =>
      simp only [namesBT] at h
      cases hb : BT.of x with
      | none => rw [hb] at h; cases h
      | some b =>
        rw [hb] at h
        obtain ⟨bs, h1, h2⟩ := Option.map_eq_some_iff.mp h
        subst h2
        simp only [List.all_cons, Bool.and_eq_true] at hg
        obtain ⟨t, q1, q2, q3⟩ := names_pa o h1 hg.2
        have e := BT.of_nm hb
        subst e
        exact ⟨_, pa_cons (pe_ty o b hg.1) q1, by simp only [List.all_cons, q2]; rfl, fun σ H Q q => q3 _ _ _ q⟩
    | _ => cases h
theorem kitAny_of {K : PySem.W.Frag} {ty : String} {S : Store} {d : D} (h : ∀ t : BT, PySem.W.kitOne K (.type ty) (.type t.ty) = some (isT S t d)) : ∀ ts : List BT, PySem.W.kitAny K (.type ty) (ts.map fun t => Value.type t.ty) = some (ts.any fun t => isT S t d)
  | [] => rfl
  | t :: ts => by
    rw [List.map_cons, List.any_cons]
    refine kitAny_cons (h t) (fun e => ?_) fun e => ?_
    · rw [e, Bool.false_or]
      exact kitAny_of h ts
    · rw [e, Bool.true_or]
theorem cls_pair : ∀ ts : List BT, Paired ClsV (ts.map fun t => V.ty t.ty) (ts.map fun t => Value.type t.ty)
  | [] => .nil
  | t :: ts => .cons (.ty _) (cls_pair ts)
theorem isis_ok (o : XOk cf gl cal N X) {ts : List BT} {a : E} {x : Expr} {es : List Expr} {k : Nat} {p1 p2 p : Pos} (hn : namesBT es = some ts) (hg : hdOk X.env.scope (.isis ts) = true) (h : SndOk gl cal X a x) :
    PE X (.Call (.Name "isinstance" p1) [x, .Tuple es k p2] [] p) (tE X.K (evalE gl cal (.op (.isis ts) [a]))) := by
  simp only [hdOk, Bool.and_eq_true, decide_eq_true_eq] at hg
  obtain ⟨t, q1, q2, q3⟩ := names_pa o hn hg.2
  refine PE.imp (pe_callB call_isiT (glo_of rfl hg.1.1) (o.blt _ isi_in) PyProof.Rows.boot_isinstance (pa_cons h.pe (pa_cons (pe_tup q1) pa_nil) (star_one h.star)) (by decide +kernel) (by decide +kernel) (star_one h.star)) ?_
  intro σ H Q q
  obtain ⟨F, ρ, S, env, w, ev, p⟩ := un_gen q
  refine ⟨F, ρ, S, env, w, ev, p.imp ?_⟩
  rintro v H1 ⟨F, ρ, S, d, w, r, q⟩
  refine q3 _ _ _ ⟨?_, fun tp ht => ?_⟩
  · rw [List.length_map, sizeLine_eq]
    have := hg.1.2
    omega
  · have q' : Post X.K F H1 ρ Q (if okT S d = true then .ok (.bl (ts.any fun t => isT S t d)) S else .stuck) := q
    by_cases hk : okT S d = true
    · rw [if_pos hk] at q'
      have s1 := w.laid ht (.tup (ts.map fun t => V.ty t.ty))
      obtain ⟨ty, t1, t2⟩ := isT_rep s1.wf (s1.rep r) hk
      exact ⟨v, tp, _, _, _, _, rfl, upd_same, cls_pair ts, t1, kitAny_of t2 ts, q' _ _ _ s1 (.bl _)⟩
    · rw [if_neg hk] at q'
      exact q'.elim
end
end Z

/-! Z12: operations of the text; comprehensions -/
namespace Z
open PySem PySem.Spec PyProof.Rows L2
section
variable {cf : Cfg} {gl : Nat → Option D} {cal : Nat → List D → M D} {N : List Str} {X : Cx}
theorem part_int {f : Env → M D} {σ : L2.St} {H : Hp} {Q : Option Int → Hp → Prop} (h : tE X.K f σ H fun x H1 => ∃ i, x = .int i ∧ Q (some i) H1) : tPart (tE X.K f) σ H Q := h
theorem ints_rep {K : PySem.W.Frag} {G : Hp} {ρ : List Addr} {v : V} {d : D} (r : Rep K G ρ v d) (h : ∃ i, d = .int i) : ∃ i, v = .int i ∧ d = .int i := by
  obtain ⟨i, rfl⟩ := h
  cases r
  exact ⟨i, rfl, rfl⟩
theorem op_ok (o : XOk cf gl cal N X) {h : Hd} {es : List E} {xs : List Expr} {ex : Expr} (sh : Shape h xs ex) (hg : hdOk X.env.scope h = true) (hs : SndAll gl cal X es xs) : PE X ex (tE X.K (evalE gl cal (.op h es))) := by
  have hu : X.A.units + many + 5 < cLine := by have := o.hu; omega
  cases sh with
  | bin op a b p =>
    cases hs with
    | cons h1 hs =>
      cases hs with
      | cons h2 hs =>
        cases hs
        exact PE.imp (pe_op (bin_all op) h1.pe h2.pe) fun σ H Q q => bin_gen (fun _ _ => rfl) q
  | cmp op a b p hb =>
    cases hs with
    | cons h1 hs =>
      cases hs with
      | cons h2 hs =>
        cases hs
        exact PE.imp (pe_cmpR (cmp_all hu op) h1.pe h2.pe hb) fun σ H Q q => bin_gen (fun _ _ => rfl) q
  | neg a p =>
    cases hs with
    | cons h1 hs =>
      cases hs
      refine PE.imp (pe_un un_neg h1.pe) fun σ H Q q => ?_
      obtain ⟨F, ρ, S, env, w, ev, p⟩ := un_gen q
      refine ⟨F, ρ, S, env, w, ev, p.imp ?_⟩
      rintro v H1 ⟨F, ρ, S, d, w, r, q⟩
      cases r with
      | int i => exact ⟨i, rfl, Post.ok w (.int _) q⟩
      | _ => exact q.elim
  | rev a k p1 p2 p3 p =>
    cases hs with
    | cons h1 hs =>
      cases hs
      refine PE.imp (pe_revT h1.pe) fun σ H Q q => ?_
      obtain ⟨F, ρ, S, env, w, ev, p⟩ := un_gen q
      refine ⟨F, ρ, S, env, w, ev, p.imp ?_⟩
      rintro v H1 ⟨F, ρ, S, d, w, r, q⟩
      cases r with
      | @tup a vs ds h1 h2 h3 => exact ⟨a, vs, rfl, SqT.le del_leH h1, fun p hp => q _ _ _ (w.laid hp _) (w.newTup hp h2.reverse (by rw [List.length_reverse]; exact h3))⟩
      | _ => exact q.elim
  | sl11 a l hh p1 p =>
    cases hs with
    | cons h1 hs =>
      cases hs with
      | cons h2 hs =>
        cases hs with
        | cons h3 hs =>
          cases hs
          refine PE.imp (pe_slice sl_all h1.pe (po_some h2.pe) (po_some h3.pe)) fun σ H Q q => ?_
          obtain ⟨F, ρ, S, env, w, ev, p⟩ := q
          simp only [evalE, evalEs_cons, evalEs_nil] at p
          refine ⟨F, ρ, S, env, w, ev, (Post.bind p).imp ?_⟩
          rintro v H1 ⟨ρ1, S1, d, s1, r1, p1⟩
          refine ⟨F, ρ1, S1, env, s1.wf, ev.le s1.le s1.pre, (Post.bind p1).imp ?_⟩
          rintro v2 H2 ⟨ρ2, S2, d2, s2, r2, p2⟩
          cases r2 with
          | int i =>
            refine ⟨i, rfl, F, ρ2, S2, env, s2.wf, ev.le (fun a o e => s2.le a o (s1.le a o e)) (s1.pre.trans s2.pre), (Post.bind p2).imp ?_⟩
            rintro v3 H3 ⟨ρ3, S3, d3, s3, r3, p3⟩
            cases r3 with
            | int j => exact ⟨j, rfl, F, ρ3, S3, d, s3.wf, s3.rep (s2.rep r1), p3⟩
            | _ => exact p3.elim
          | _ =>
            exfalso
            unfold M.bind at p2
            split at p2
            · exact p2
            · exact p2
            · exact p2
  | sl10 a l p1 p =>
    cases hs with
    | cons h1 hs =>
      cases hs with
      | cons h2 hs =>
        cases hs
        refine PE.imp (pe_slice sl_all h1.pe (po_some h2.pe) po_none) fun σ H Q q => ?_
        obtain ⟨F, ρ, S, env, w, ev, p⟩ := q
        simp only [evalE, evalEs_cons, evalEs_nil] at p
        refine ⟨F, ρ, S, env, w, ev, (Post.bind p).imp ?_⟩
        rintro v H1 ⟨ρ1, S1, d, s1, r1, p1⟩
        refine ⟨F, ρ1, S1, env, s1.wf, ev.le s1.le s1.pre, (Post.bind p1).imp ?_⟩
        rintro v2 H2 ⟨ρ2, S2, d2, s2, r2, p2⟩
        cases r2 with
        | int i => exact ⟨i, rfl, F, ρ2, S2, d, s2.wf, s2.rep r1, p2⟩
        | _ => exact p2.elim
  | sl01 a l p1 p =>
    cases hs with
    | cons h1 hs =>
      cases hs with
      | cons h2 hs =>
        cases hs
        refine PE.imp (pe_slice sl_all h1.pe po_none (po_some h2.pe)) fun σ H Q q => ?_
        obtain ⟨F, ρ, S, env, w, ev, p⟩ := q
        simp only [evalE, evalEs_cons, evalEs_nil] at p
        refine ⟨F, ρ, S, env, w, ev, (Post.bind p).imp ?_⟩
        rintro v H1 ⟨ρ1, S1, d, s1, r1, p1⟩
        refine ⟨F, ρ1, S1, env, s1.wf, ev.le s1.le s1.pre, (Post.bind p1).imp ?_⟩
        rintro v2 H2 ⟨ρ2, S2, d2, s2, r2, p2⟩
        cases r2 with
        | int i => exact ⟨i, rfl, F, ρ2, S2, d, s2.wf, s2.rep r1, p2⟩
        | _ => exact p2.elim
  | sl00 a p1 p =>
    cases hs with
    | cons h1 hs =>
      cases hs
      refine PE.imp (pe_slice sl_all h1.pe po_none po_none) fun σ H Q q => ?_
      obtain ⟨F, ρ, S, env, w, ev, p⟩ := un_gen q
      refine ⟨F, ρ, S, env, w, ev, p.imp ?_⟩
      rintro v H1 ⟨F, ρ, S, d, w, r, q⟩
      exact ⟨F, ρ, S, d, w, r, q⟩
  | ix a i p hi =>
    cases hs with
    | cons h1 hs =>
      cases hs with
      | cons h2 hs =>
        cases hs
        exact PE.imp (pe_ix ix_all h1.pe h2.pe (plain_ix hi)) fun σ H Q q => bin_gen (fun _ _ => rfl) q
  | tup _ k p =>
    refine PE.imp (pe_tup hs.pa) fun σ H Q q => ?_
    obtain ⟨F, ρ, S, env, w, ev, p⟩ := args_gen q
    refine ⟨F, ρ, S, env, w, ev, p.imp ?_⟩
    rintro vs H1 ⟨F, ρ, S, ds, w, r, q⟩
    have q' : Post X.K F H1 ρ Q ((if ds.length ≤ sizeLine then M.ret (.tup ds) else M.stk) S) := q
    by_cases hz : ds.length ≤ sizeLine
    · rw [if_pos hz] at q'
      exact ⟨by rw [r.length]; exact hz, fun p hp => q' _ _ _ (w.laid hp _) (w.newTup hp r hz)⟩
    · rw [if_neg hz] at q'
      exact q'.elim
  | lst _ p =>
    refine PE.imp (pe_lst hs.pa) fun σ H Q q => ?_
    obtain ⟨F, ρ, S, env, w, ev, p⟩ := args_gen q
    refine ⟨F, ρ, S, env, w, ev, p.imp ?_⟩
    rintro vs H1 ⟨F, ρ, S, ds, w, r, q⟩
    have q' : Post X.K F H1 ρ Q ((if ds.length ≤ sizeLine then M.ret (.lst ds) else M.stk) S) := q
    by_cases hz : ds.length ≤ sizeLine
    · rw [if_pos hz] at q'
      exact ⟨by rw [r.length]; exact hz, fun p hp => q' _ _ _ (w.laid hp _) (w.newLst hp r hz)⟩
    · rw [if_neg hz] at q'
      exact q'.elim
  | bi b a as p1 p =>
    cases hs with
    | cons h1 hs => exact bi_ok o b hg (.cons h1 hs)
  | isi t a p1 p2 p =>
    cases hs with
    | cons h1 hs =>
      cases hs
      exact isi_ok o t hg h1
  | isis ts a es2 k p1 p2 p hn =>
    cases hs with
    | cons h1 hs =>
      cases hs
      exact isis_ok o hn hg h1
  | join ob a ap p hl hb =>
    cases hs with
    | cons h1 hs =>
      cases hs with
      | cons h2 hs =>
        cases hs
        refine PE.imp (pe_m1 F.slot_str_join F.type_str_join mt_joinZ h1.pe h2.pe (star_one h2.star) (base_one hb) hl) fun σ H Q q => ?_
        obtain ⟨F, ρ, S, env, w, ev, p⟩ := q
        simp only [evalE, evalEs_cons, evalEs_nil] at p
        refine ⟨F, ρ, S, env, w, ev, (Post.bind p).imp ?_⟩
        rintro v H1 ⟨ρ1, S1, d, s1, r1, p1⟩
        have hstr : (∃ z, d = .str z) ∨ ¬ ∃ z, d = .str z := Classical.em _
        rcases hstr with ⟨z, rfl⟩ | hn
        · cases r1 with
          | str zz zo =>
            refine ⟨⟨z, rfl⟩, F, ρ1, S1, env, s1.wf, ev.le s1.le s1.pre, (Post.bind p1).imp ?_⟩
            rintro v2 H2 ⟨ρ2, S2, d2, s2, r2, p2⟩
            exact ⟨F, ρ2, S2, [.str z, d2], s2.wf, .cons (.str zz zo) (.cons r2 .nil), p2⟩
        · exfalso
          unfold M.bind at p1
          split at p1
          · rename_i d2 S2 _
            have e : opSem (.meth .join) [d, d2] S2 = .stuck := by
              cases d <;> first | rfl | exact absurd ⟨_, rfl⟩ hn
            have p2 : Post X.K F H1 ρ1 Q (opSem (.meth .join) [d, d2] S2) := p1
            rw [e] at p2
            exact p2
          · exact p1
          · exact p1
end
end Z

/-! Z13: list comprehensions -/
namespace Z
open PySem PySem.Spec PyProof.Rows L2
section
variable {K : PySem.W.Frag} {H H' H1 H2 : Hp} {F : Fs} {ρ ρ' ρ1 ρ2 : List Addr} {S S' S1 S2 : Store} {p : Addr}
theorem lookup_ne {b : Bool} {c : Addr} (h : c ≠ p) : List.lookup c ((p, b) :: F) = F.lookup c := by
  rw [List.lookup_cons]
  have e : (c == p) = false := by simpa using h
  rw [e]
theorem lookup_self {b : Bool} : List.lookup p ((p, b) :: F) = some b := by
  rw [List.lookup_cons]
  simp
/-- others own less -/
theorem del_weak : Le (del H ((p, false) :: F) ρ) (del H F ρ) := fun c o e => by
  refine del_same e fun n _ => ⟨n, ?_, rfl⟩
  have nc : c ≠ p := fun z => by
    subst z
    obtain ⟨_, q | ⟨q, _⟩⟩ := del_cases e
    · rw [lookup_self] at q; cases q.1
    · rw [lookup_self] at q; cases q
  rw [lookup_ne nc]
theorem Wf.weak (w : Wf K H ((p, false) :: F) ρ S) : Wf K H F ρ S :=
  ⟨w.len, w.nd, fun n a o e1 e2 => OB.le del_weak List.prefix_rfl rfl (w.at_ n a o e1 e2), fun a m => w.fd a (List.mem_cons_of_mem _ m)⟩
theorem Stp.weak (s : Stp K ((p, false) :: F) H ρ H' ρ' S') : Stp K F H ρ H' ρ' S' := ⟨s.same, s.pre, s.fresh, s.wf.weak⟩
theorem le_poke (m : F.lookup p = some false) (o : HO) : Le (del H F ρ) (del (upd H p o) F ρ) := fun c u e => by
  refine del_same e fun n _ => ⟨n, rfl, upd_ne fun z => ?_⟩
  subst z
  obtain ⟨_, q | ⟨q, _⟩⟩ := del_cases e
  · rw [m] at q; cases q.1
  · rw [m] at q; cases q
/-- what is one's own is written -/
theorem Wf.poke (w : Wf K H F ρ S) (m : F.lookup p = some false) (o : HO) : Wf K (upd H p o) F ρ S := by
  have n : p ∉ ρ := (w.fd _ (lookup_mem m)).2
  refine ⟨w.len, w.nd, fun k a u e1 e2 => ?_, fun a m' => ⟨?_, (w.fd a m').2⟩⟩
  · have na : a ≠ p := fun z => n (z ▸ List.mem_of_getElem? e1)
    exact OB.le (le_poke m o) List.prefix_rfl (by rw [upd_ne na]) (w.at_ k a u e1 e2)
  · by_cases h : a.1 = p
    · rw [h, upd_same]; intro z; cases z
    · rw [upd_ne h]; exact (w.fd a m').1
theorem le_own (h : H p = none) (o : HO) (b : Bool) : Le (del H F ρ) (del (upd H p o) ((p, b) :: F) ρ) := fun c u e => del_same e fun n z => by
  have nc : c ≠ p := fun q => z (q ▸ h)
  exact ⟨n, lookup_ne nc, upd_ne nc⟩
/-- a new thing of one's own -/
theorem Wf.laidOwn (w : Wf K H F ρ S) (h : H p = none) (o : HO) : Wf K (upd H p o) ((p, false) :: F) ρ S := by
  refine ⟨w.len, w.nd, fun k a u e1 e2 => ?_, fun a m => ?_⟩
  · have na : a ≠ p := fun z => w.nR h (z ▸ List.mem_of_getElem? e1)
    exact OB.le (le_own h o false) List.prefix_rfl (by rw [upd_ne na]) (w.at_ k a u e1 e2)
  · rcases List.mem_cons.mp m with z | m
    · subst z
      exact ⟨by rw [upd_same]; exact (fun z => by cases z), w.nR h⟩
    · have na : a.1 ≠ p := fun z => (w.fd a m).1 (z ▸ h)
      rw [upd_ne na]
      exact w.fd a m
theorem Stp.poke (s : Stp K F H ρ H' ρ' S') (h : H p = none) {o : HO} (w : Wf K (upd H' p o) F ρ' S') : Stp K F H ρ (upd H' p o) ρ' S' :=
  ⟨fun a u e n => by rw [upd_ne (ne_of_none e h)]; exact s.same a u e n, s.pre, s.fresh, w⟩
theorem EnvOk.setAll {G : Hp} {env : Env} {σ : L2.St} (e : EnvOk K G ρ env σ) : ∀ {as : List (Nat × D)} {vs : List V}, RepA K G ρ vs (as.map (·.2)) → EnvOk K G ρ (setAll env (as.map fun p => (p.1, some p.2))) (setAll σ ((as.map (·.1)).zip (vs.map some)))
  | [], _, r => by cases r; exact e
  | (i, d) :: as, _, r => by
    cases r with
    | @cons v vs _ _ r1 r2 =>
      have e1 : EnvOk K G ρ (env.set i (some d)) (σ.set i (some v)) := by
        refine ⟨by rw [List.length_set, List.length_set]; exact e.1, fun j d' h => ?_⟩
        by_cases hj : j = i
        · subst hj
          by_cases hl : j < env.length
          · rw [List.getElem?_set_self hl] at h
            cases h
            exact ⟨v, List.getElem?_set_self (Nat.lt_of_lt_of_le hl e.1), r1⟩
          · rw [List.getElem?_eq_none (by rw [List.length_set]; omega)] at h
            cases h
        · rw [List.getElem?_set_ne (fun z => hj z.symm)] at h
          obtain ⟨w, h1, h2⟩ := e.2 j d' h
          exact ⟨w, by rw [List.getElem?_set_ne (fun z => hj z.symm)]; exact h1, h2⟩
      exact EnvOk.setAll e1 r2
theorem wipe_get {env : Env} : ∀ {own : List Nat} {i : Nat} {d : D}, (Z.wipe env own)[i]? = some (some d) → env[i]? = some (some d) ∧ i ∉ own
  | [], i, d, h => ⟨h, by simp⟩
  | v :: vs, i, d, h => by
    unfold Z.wipe at h
    by_cases hi : v = i
    · subst hi
      by_cases hl : v < (Z.wipe env vs).length
      · rw [List.getElem?_set_self hl] at h; cases h
      · rw [List.getElem?_eq_none (by rw [List.length_set]; omega)] at h; cases h
    · rw [List.getElem?_set_ne hi] at h
      obtain ⟨h1, h2⟩ := wipe_get h
      exact ⟨h1, by simp only [List.mem_cons, not_or]; exact ⟨fun e => hi e.symm, h2⟩⟩
theorem wipe_keep {σ : L2.St} : ∀ {own : List Nat} {i : Nat} {v : V}, i ∉ own → σ[i]? = some (some v) → (L2.wipe σ own)[i]? = some (some v)
  | [], i, v, _, h => h
  | u :: us, i, v, n, h => by
    simp only [List.mem_cons, not_or] at n
    unfold L2.wipe
    rw [List.getElem?_set_ne (fun z => n.1 z.symm)]
    exact wipe_keep n.2 h
theorem wipe_len {env : Env} : ∀ own : List Nat, (Z.wipe env own).length = env.length
  | [] => rfl
  | v :: vs => by unfold Z.wipe; rw [List.length_set, wipe_len vs]
theorem EnvOk.wipe {G : Hp} {env : Env} {σ : L2.St} (e : EnvOk K G ρ env σ) (own : List Nat) : EnvOk K G ρ (Z.wipe env own) (L2.wipe σ own) := by
  refine ⟨by rw [wipe_len, L2.wipe_length]; exact e.1, fun i d h => ?_⟩
  obtain ⟨h1, h2⟩ := wipe_get h
  obtain ⟨v, h3, h4⟩ := e.2 i d h1
  exact ⟨v, wipe_keep h2 h3, h4⟩
/-- wiped: what stands at other places alone -/
theorem wipe_at (σ : L2.St) : ∀ (own : List Nat) (i : Nat), (L2.wipe σ own)[i]? = if i ∈ own ∧ i < σ.length then some none else σ[i]?
  | [], i => by simp [L2.wipe]
  | v :: vs, i => by
    unfold L2.wipe
    by_cases hv : v = i
    · subst hv
      by_cases hl : v < σ.length
      · rw [List.getElem?_set_self (by rw [L2.wipe_length]; exact hl), if_pos ⟨List.mem_cons_self, hl⟩]
      · rw [List.getElem?_eq_none (by rw [List.length_set, L2.wipe_length]; omega), if_neg (fun z => hl z.2), List.getElem?_eq_none (by omega)]
    · rw [List.getElem?_set_ne hv, wipe_at σ vs i]
      by_cases hm : i ∈ vs
      · simp [hm]
      · have : i ∉ v :: vs := by simp only [List.mem_cons, not_or]; exact ⟨fun e => hv e.symm, hm⟩
        simp [hm, this]
theorem setAll_len {α : Type} : ∀ (as : List (Nat × α)) (l : List α), (Z.setAll l as).length = l.length
  | [], _ => rfl
  | a :: as, l => by
    show (Z.setAll (l.set a.1 a.2) as).length = l.length
    rw [setAll_len as, List.length_set]
theorem setAll_ne {α : Type} : ∀ (as : List (Nat × α)) (l : List α) (i : Nat), (∀ p ∈ as, p.1 ≠ i) → (Z.setAll l as)[i]? = l[i]?
  | [], _, _, _ => rfl
  | a :: as, l, i, h => by
    show (Z.setAll (l.set a.1 a.2) as)[i]? = l[i]?
    rw [setAll_ne as _ i fun p m => h p (List.mem_cons_of_mem _ m), List.getElem?_set_ne (h a List.mem_cons_self)]
theorem wipe_setAll (σ : L2.St) (own : List Nat) (as : List (Nat × Option V)) (h : ∀ p ∈ as, p.1 ∈ own) : L2.wipe (Z.setAll (L2.wipe σ own) as) own = L2.wipe σ own := by
  apply List.ext_getElem?
  intro i
  rw [wipe_at, wipe_at]
  by_cases hm : i ∈ own
  · by_cases hl : i < σ.length
    · rw [if_pos ⟨hm, by rw [setAll_len, L2.wipe_length]; exact hl⟩, if_pos ⟨hm, hl⟩]
    · rw [if_neg (fun z => hl (by have := z.2; rw [setAll_len, L2.wipe_length] at this; exact this)), if_neg (fun z => hl z.2), List.getElem?_eq_none (by rw [setAll_len, L2.wipe_length]; omega), List.getElem?_eq_none (by omega)]
  · rw [if_neg (fun z => hm z.1), if_neg (fun z => hm z.1), setAll_ne _ _ _ (fun p mp e => hm (by rw [← e]; exact h p mp)), wipe_at, if_neg (fun z => hm z.1)]
mutual
theorem assigns_in (own : List Nat) : ∀ (t : Tg) (d : D) (as : List (Nat × D)), tgIn own t = true → assigns t d = some as → ∀ p ∈ as, p.1 ∈ own
  | .name i, d, as, h, e, p, m => by
    simp only [assigns] at e
    cases e
    have : p = (i, d) := by simpa using m
    subst this
    simpa [tgIn] using h
  | .tup ts, d, as, h, e, p, m => by
    cases d with
    | tup ds =>
      simp only [assigns] at e
      by_cases hl : ts.length = ds.length
      · rw [if_pos hl] at e
        exact assignsAll_in own ts ds as (by simpa [tgIn] using h) e p m
      · rw [if_neg hl] at e; cases e
    | _ => simp only [assigns] at e; cases e
theorem assignsAll_in (own : List Nat) : ∀ (ts : List Tg) (ds : List D) (as : List (Nat × D)), tgsIn own ts = true → assignsAll ts ds = some as → ∀ p ∈ as, p.1 ∈ own
  | [], ds, as, h, e, p, m => by
    simp only [assignsAll] at e
    cases e
    cases m
  | t :: ts, [], as, h, e, p, m => by simp only [assignsAll] at e; cases e
  | t :: ts, d :: ds, as, h, e, p, m => by
    simp only [tgsIn, Bool.and_eq_true] at h
    simp only [assignsAll] at e
    obtain ⟨a1, e1, e2⟩ := Option.bind_eq_some_iff.mp e
    obtain ⟨a2, e3, e4⟩ := Option.map_eq_some_iff.mp e2
    subst e4
    rcases List.mem_append.mp m with m | m
    · exact assigns_in own t d a1 h.1 e1 p m
    · exact assignsAll_in own ts ds a2 h.2 e3 p m
end
end
theorem res_bind {α β : Type} {m : M α} {f : α → M β} {S S' : Store} {b : β} (h : M.bind m f S = .ok b S') : ∃ a S1, m S = .ok a S1 ∧ f a S1 = .ok b S' := by
  unfold M.bind at h
  cases q : m S with
  | ok a S1 => rw [q] at h; exact ⟨a, S1, rfl, h⟩
  | exc _ _ => rw [q] at h; cases h
  | stuck => rw [q] at h; cases h
theorem post_ok {K : PySem.W.Frag} {F : Fs} {ρ : List Addr} {H : Hp} {Q : VK} {r : Res D} (h : Post K F H ρ Q r) : ∃ d S, r = .ok d S := by
  cases r with
  | ok d S => exact ⟨d, S, rfl⟩
  | exc _ _ => exact h.elim
  | stuck => exact h.elim
section
variable {cf : Cfg} {gl : Nat → Option D} {cal : Nat → List D → M D} {N : List Str} {X : Cx}
def compTurn (gl : Nat → Option D) (cal : Nat → List D → M D) (own : List Nat) (elt : E) (tg : Tg) (ifs : List E) (env : Env) : D → M (Option D) := fun x => match bindT tg x (Z.wipe env own) with
  | some env' => M.bind (evalIfs gl cal ifs env') fun c => if c = true then M.bind (evalE gl cal elt env') fun y => M.ret (some y) else M.ret none
  | none => M.stk
theorem comp_eq (own : List Nat) (elt : E) (tg : Tg) (k : SK) (es ifs : List E) (env : Env) :
    evalE gl cal (.comp own elt tg k es ifs) env = M.bind (M.bind (evalEs gl cal es env) (srcItems k)) fun items => M.bind (compLoop (compTurn gl cal own elt tg ifs env) items) fun ys => M.ret (.lst ys) := by
  rw [M.bind_assoc]
  simp only [evalE]
  rfl
theorem comp_t {own : List Nat} {elt : E} {tg : Tg} {k : SK} {es ifs : List E} (hin : tgIn own tg = true) : ∀ σ H Q, tE X.K (evalE gl cal (.comp own elt tg k es ifs)) σ H Q →
    tLc (tI X.K fun env => M.bind (evalEs gl cal es env) (srcItems k)) (gT X.K tg) (tB X.K (evalIfs gl cal ifs)) (tE X.K (evalE gl cal elt)) own σ H Q := by
  rintro σ H Q ⟨F, ρ, S, env, w, ev, p⟩
  rw [comp_eq] at p
  unfold M.bind at p
  cases hq : (M.bind (evalEs gl cal es env) (srcItems k)) S with
  | exc _ _ => unfold M.bind at hq; rw [hq] at p; exact p.elim
  | stuck => unfold M.bind at hq; rw [hq] at p; exact p.elim
  | ok items S1 =>
    have hq0 := hq
    unfold M.bind at hq
    rw [hq] at p
    refine ⟨F, ρ, S, env, w, ev, ?_⟩
    show PostI X.K F H ρ _ (M.bind (evalEs gl cal es env) (srcItems k) S)
    rw [hq0]
    intro J H1 ρ1 s its Dd hD
    obtain ⟨hz, its⟩ := its
    cases hl : compLoop (compTurn gl cal own elt tg ifs env) items S1 with
    | exc _ _ => simp only [hl] at p; exact p.elim
    | stuck => simp only [hl] at p; exact p.elim
    | ok ys S2 =>
      simp only [hl] at p
      have p : Post X.K F H ρ Q (.ok (.lst ys) S2) := p
      have e1 : EnvOk X.K (del H1 F ρ1) ρ1 env σ := ev.le s.le s.pre
      let Iv : Nat → Hp → Prop := fun i H' => ∃ ρ' S' done acc, i ≤ items.length ∧ Stp X.K F H1 ρ1 H' ρ' S' ∧ Wf X.K H' ((Dd, false) :: F) ρ' S' ∧ H' Dd = some (.lst acc) ∧ Dd ∉ ρ' ∧ RepA X.K (del H' ((Dd, false) :: F) ρ') ρ' acc done ∧ done.length ≤ i ∧
        ∃ rest, compLoop (compTurn gl cal own elt tg ifs env) (items.drop i) S' = .ok rest S2 ∧ ys = done ++ rest
      have leD : ∀ {H' ρ' S'}, Stp X.K F H1 ρ1 H' ρ' S' → Le (del H1 F ρ1) (del H' ((Dd, false) :: F) ρ') := fun {H' ρ' S'} st c o e => del_same e fun n h => by
        have hc : c ≠ Dd := fun z => h (z ▸ hD)
        exact ⟨(st.keep n h).1, lookup_ne hc, (st.keep n h).2⟩
      refine ⟨fun i m H' => m = items.length - i ∧ Iv i H', ⟨items.length, by simp, ρ1, S1, [], [], Nat.zero_le _, s.wf.laid hD _, s.wf.laidOwn hD _, upd_same, fun m => s.wf.tr _ m hD, .nil, Nat.le_refl _, ys, by simpa using hl, by simp⟩, ?_⟩
      rintro i m H' ⟨rfl, ρ', S', done, acc, hi', st, w', hDl, nD, ra, hdl, rest, hr, rfl⟩
      have nx : Nxt X.K F H1 ρ1 ((Dd, false) :: F) H' ρ' S' := ⟨w', leD st, st.pre⟩
      obtain ⟨g1, g2, g3⟩ := its _ _ _ _ nx
      by_cases hlt : i < items.length
      · refine .inr ⟨g1 i hlt, Iv (i + 1), fun H'' iv => ⟨items.length - (i + 1), by omega, rfl, iv⟩, fun x H2 y => ?_⟩
        obtain ⟨d, hd, st2, rx⟩ := g3 i x H2 hlt y
        have hdrop : items.drop i = d :: items.drop (i + 1) := by
          obtain ⟨h1, h2⟩ := List.getElem?_eq_some_iff.mp hd
          rw [← h2]
          exact List.drop_eq_getElem_cons h1
        rw [hdrop] at hr
        obtain ⟨od, S3, f1, f2⟩ := res_bind hr
        obtain ⟨ys', S4, f3, f4⟩ := res_bind f2
        have f4 : Res.ok (match (generalizing := false) od with
          | some y => y :: ys'
          | none => ys') S4 = Res.ok rest S2 := f4
        injection f4 with g4 f5
        subst f5
        unfold compTurn at f1
        cases hbd : bindT tg d (Z.wipe env own) with
        | none => rw [hbd] at f1; cases f1
        | some env' =>
          rw [hbd] at f1
          unfold bindT at hbd
          obtain ⟨as, ha, hae⟩ := Option.map_eq_some_iff.mp hbd
          subst hae
          obtain ⟨c, S5, f6, f7⟩ := res_bind f1
          have e2 : EnvOk X.K (del H2 ((Dd, false) :: F) ρ') ρ' env σ := (e1.le (leD st) st.pre).le st2.le List.prefix_rfl
          refine ⟨(Dd, false) :: F, ρ', S', d, as, st2.wf, rx, ha, fun vs rvs => ⟨wipe_setAll σ own _ (fun p mp => ?_), ?_⟩⟩
          · have := (List.of_mem_zip mp).1
            obtain ⟨q, mq, eq⟩ := List.mem_map.mp this
            rw [← eq]
            exact assigns_in own tg d as hin ha q mq
          · have e3 := (e2.wipe own).setAll rvs
            refine ⟨(Dd, false) :: F, ρ', S', _, st2.wf, e3, ?_⟩
            rw [f6]
            intro H3 ρ3 s3
            have nD3 : Dd ∉ ρ3 := fun mm => (s3.fresh Dd mm).elim nD fun z => by
              rw [st2.same Dd _ hDl nD] at z; cases z
            have hD3 : H3 Dd = some (.lst acc) := s3.same Dd _ (st2.same Dd _ hDl nD) nD
            have st3 : Stp X.K F H1 ρ1 H3 ρ3 S5 := (st.trans st2.weak).trans s3.weak
            cases c with
            | false =>
              simp only [Bool.false_eq_true, if_false] at f7 ⊢
              cases f7
              exact ⟨ρ3, _, done, acc, hlt, st3, s3.wf, hD3, nD3, s3.repA (st2.repA ra), Nat.le_succ_of_le hdl, ys', f3, by rw [← g4]⟩
            | true =>
              simp only [if_true] at f7 ⊢
              obtain ⟨y1, S6, f8, f9⟩ := res_bind f7
              have f9 : Res.ok (some y1) S6 = Res.ok od S3 := f9
              injection f9 with f9 f10
              subst f9 f10
              refine ⟨(Dd, false) :: F, ρ3, S5, _, s3.wf, e3.le s3.le s3.pre, ?_⟩
              rw [f8]
              intro vy H4 ρ4 s4 ry
              have nD4 : Dd ∉ ρ4 := fun mm => (s4.fresh Dd mm).elim nD3 fun z => by rw [hD3] at z; cases z
              have hD4 : H4 Dd = some (.lst acc) := s4.same Dd _ hD3 nD3
              have hal : acc.length = done.length := ra.length
              have st4 : Stp X.K F H1 ρ1 H4 ρ4 S6 := st3.trans s4.weak
              have w5 : Wf X.K (upd H4 Dd (.lst (acc ++ [vy]))) ((Dd, false) :: F) ρ4 S6 := s4.wf.poke lookup_self _
              have le5 : Le (del H4 ((Dd, false) :: F) ρ4) (del (upd H4 Dd (.lst (acc ++ [vy]))) ((Dd, false) :: F) ρ4) := le_poke lookup_self _
              refine ⟨acc, hD4, by omega, ρ4, S6, done ++ [y1], acc ++ [vy], hlt, st4.poke hD w5.weak, w5, upd_same, nD4, ?_, by rw [List.length_append]; simp; omega, ys', f3, by rw [← g4]; simp⟩
              exact RepA.append (RepA.le le5 List.prefix_rfl _ _ (s4.repA (s3.repA (st2.repA ra)))) (.cons (Rep.le le5 List.prefix_rfl _ _ ry) .nil)
      · have ei : i = items.length := by omega
        subst ei
        rw [List.drop_length] at hr
        have hr : Res.ok ([] : List D) S' = Res.ok rest S2 := hr
        injection hr with h1 h2
        subst h1 h2
        refine .inl ⟨g2, ?_⟩
        rw [List.append_nil] at p
        exact p (.ref Dd) H' ρ' (s.trans st) (.lst (by rw [del_at nD (s.wf.nF hD)]; exact hDl) (RepA.le del_weak List.prefix_rfl _ _ ra) (by omega))
theorem comp_ok {own : List Nat} {elt : E} {tg : Tg} {k : SK} {es ifs : List E} {scope : Scope} {ownL : List (Str × Nat)} {tgx it elt' : Expr} {ifs' : List Expr} {pos : Pos} (hc : X.calm = true) (hN : X.N.Nodup) (hb : BlkOk X.N X.env.scope scope ownL) (ho : ownL.map (·.2) = own)
    (hi : PI X tgx it (tI X.K fun env => M.bind (evalEs gl cal es env) (srcItems k)))
    (hg : ∀ (s : Shared) (H : Hp) (C : Addr) (cl : List (Str × Addr)) (fp : List Addr), PG (X.blk s H scope (compEnvC scope cl C X.env) fp) tgx (gT X.K tg))
    (ht : ∀ (s : Shared) (H : Hp) (C : Addr) (cl : List (Str × Addr)) (fp : List Addr), PTs (X.blk s H scope (compEnvC scope cl C X.env) fp) ifs' (tB X.K (evalIfs gl cal ifs)))
    (he : ∀ (s : Shared) (H : Hp) (C : Addr) (cl : List (Str × Addr)) (fp : List Addr), PE (X.blk s H scope (compEnvC scope cl C X.env) fp) elt' (tE X.K (evalE gl cal elt)))
    (hin : tgIn own tg = true) (hs : ∀ x, foldedSetIterable it X.env x = pure x) : PE X (.ListComp elt' [⟨tgx, it, ifs', 0⟩] scope pos) (tE X.K (evalE gl cal (.comp own elt tg k es ifs))) := by
  refine PE.imp (pe_lc hc hN hi hb hg ht he hs) ?_
  rw [ho]
  exact comp_t hin
end
end Z

/-! Z14: every expression that passes the check computes what the small language says -/
namespace Z
open PySem PySem.Spec PyProof.Rows L2
section
variable {cf : Cfg} {gl : Nat → Option D} {cal : Nat → List D → M D} {N : List Str} {X : Cx}
theorem shape_star {h : Hd} {xs : List Expr} {ex : Expr} (sh : Shape h xs ex) : noStar ex = true := by cases sh <;> rfl
theorem pair_of {es : List E} {a b : Expr} (hs : SndAll gl cal X es [a, b]) : ∃ e1 e2, es = [e1, e2] ∧ SndOk gl cal X e1 a ∧ SndOk gl cal X e2 b := by
  cases hs with
  | cons h1 hs =>
    cases hs with
    | cons h2 hs =>
      cases hs
      exact ⟨_, _, rfl, h1, h2⟩
theorem single_of {es : List E} {a : Expr} (hs : SndAll gl cal X es [a]) : ∃ e1, es = [e1] ∧ SndOk gl cal X e1 a := by
  cases hs with
  | cons h1 hs =>
    cases hs
    exact ⟨_, rfl, h1⟩
theorem op_snd (o : XOk cf gl cal N X) {h : Hd} {es : List E} {xs : List Expr} {ex : Expr} (sh : Shape h xs ex) (hg : hdOk X.env.scope h = true) (hs : SndAll gl cal X es xs) : SndOk gl cal X (.op h es) ex := by
  have hu : X.A.units + many + 5 < cLine := by have := o.hu; omega
  refine ⟨op_ok o sh hg hs, shape_star sh, fun _ => ?_⟩
  by_cases hc : ∃ op a b p, ex = .Compare a [op] [b] p
  · cases sh with
    | cmp op a b p hb =>
      obtain ⟨e1, e2, rfl, h1, h2⟩ := pair_of hs
      exact pt_test (pt_cmpR (cmp_all hu op) h1.pe h2.pe hb) fun σ H Q q => bin_gen (fun _ _ => rfl) q
    | _ => obtain ⟨_, _, _, _, hc⟩ := hc; cases hc
  · refine pt_plain (op_ok o sh hg hs) ?_
    cases sh with
    | cmp op a b p hb => exact absurd ⟨_, _, _, _, rfl⟩ hc
    | _ => intro _; rfl
theorem call_snd (o : XOk cf gl cal N X) {f : Nat} {es : List E} {xs : List Expr} {x : Str} {p pos : Pos} (hl : cf.fns.lookup x = some f) (hg : gloOf X.env.scope x = true) (hn : okName x = true) (hs : SndAll gl cal X es xs) :
    SndOk gl cal X (.call f es) (.Call (.Name x p) xs [] pos) := by
  obtain ⟨h1, _, h3⟩ := okName_of hn
  obtain ⟨fa, fd, ps, kk, np, hm, hk, hb, hr, F, hbad, _⟩ := o.fns x f hl
  have fin : ∀ σ H Q, tE X.K (evalE gl cal (.call f es)) σ H Q → tCall (spD X.K np (cal f)) [] E0 (tA X.K (evalEs gl cal es)) σ H Q := by
    intro σ H Q q
    obtain ⟨F, ρ, S, env, w, ev, p⟩ := tE_args q
    refine ⟨F, ρ, S, env, w, ev, p.imp ?_⟩
    rintro vs H1 ⟨F, ρ, S, ds, w, r, q⟩
    rw [List.append_nil]
    refine ⟨?_, F, ρ, S, ds, w, r, q⟩
    by_cases hd : ds.length = np
    · rw [r.length]; exact hd
    · rw [hbad ds S hd] at q; exact q.elim
  have hpe : PE X (.Call (.Name x p) xs [] pos) (tE X.K (evalE gl cal (.call f es))) := by
    cases xs with
    | nil =>
      refine PE.imp (pe_call0 F hr (glo_of rfl hg) hm hk hb .nil L2.pass0 h1) fun σ H Q q => ?_
      obtain ⟨F, ρ, S, env, w, ev, p⟩ := fin σ H Q q
      cases hs
      have p : PostA X.K F H ρ _ (.ok [] S) := p
      exact p [] H ρ (Stp.refl w) .nil
    | cons y ys =>
      have hst := hs.star
      simp only [List.all_cons, Bool.and_eq_true] at hst
      exact PE.imp (pe_call F hr (glo_of rfl hg) hm hk hb .nil L2.pass0 hs.pa h1 (star_one hst.1) (star_any hst.2)) fin
  exact ⟨hpe, rfl, fun _ => pt_plain hpe fun _ => rfl⟩
theorem repA_pick {K : PySem.W.Frag} {G : Hp} {ρ : List Addr} {zs : List V} {es : List D} (r : RepA K G ρ zs es) : ∀ perm : List Nat, RepA K G ρ (perm.filterMap fun i => zs[i]?) (perm.filterMap fun i => es[i]?)
  | [] => .nil
  | i :: perm => by
    have ih := repA_pick r perm
    rw [List.filterMap_cons, List.filterMap_cons]
    cases hz : zs[i]? with
    | none =>
      have : es[i]? = none := by
        rw [List.getElem?_eq_none_iff] at hz ⊢
        rw [← r.length]
        exact hz
      rw [this]
      exact ih
    | some v =>
      obtain ⟨d, h1, h2⟩ := r.get' hz
      rw [h1]
      exact .cons h2 ih
theorem repA_plc {K : PySem.W.Frag} {G : Hp} {ρ : List Addr} {vs zs : List V} {ds es : List D} (r1 : RepA K G ρ vs ds) (r2 : RepA K G ρ zs es) (n k : Nat) (perm : List Nat) : RepA K G ρ (plc n k perm vs zs) (plc n k perm ds es) := by
  unfold plc
  rw [r1.length, r2.length]
  split
  · exact r1.append (repA_pick r2 perm)
  · exact .nil
theorem kw_facts {kws : List Keyword} {ks : List Str} (h : kws.map (·.arg) = ks.map some) (env : PySem.Env) (pos : Pos) : (backToKw pos (keywordEach kws env)).all (·.1.isSome) = true ∧ (backToKw pos (keywordEach kws env)).filterMap (·.1) = ks ∧ (backToKw pos (keywordEach kws env)).any (·.1.isNone) = false := by
  induction kws generalizing ks with
  | nil =>
    cases ks with
    | nil => exact ⟨rfl, rfl, rfl⟩
    | cons _ _ => cases h
  | cons kw kws ih =>
    cases ks with
    | nil => cases h
    | cons k ks =>
      obtain ⟨a, v, p⟩ := kw
      rw [List.map_cons, List.map_cons, List.cons.injEq] at h
      obtain ⟨h1, h2⟩ := h
      have h1 : a = some k := h1
      subst h1
      obtain ⟨i1, i2, i3⟩ := ih h2
      refine ⟨?_, ?_, ?_⟩
      · show (true && (backToKw pos (keywordEach kws env)).all (·.1.isSome)) = true
        rw [i1]
        rfl
      · show k :: (backToKw pos (keywordEach kws env)).filterMap (·.1) = k :: ks
        rw [i2]
      · show (false || (backToKw pos (keywordEach kws env)).any (·.1.isNone)) = false
        rw [i3]
        rfl
theorem SndAll.pk : ∀ {es : List E} {kws : List Keyword}, SndAll gl cal X es (kws.map (·.value)) → PK X kws (tA X.K (evalEs gl cal es))
  | es, [], h => by
    cases h
    refine ⟨fun pos pins s σ H Q I q => pk_nil.run pos pins s σ H Q I ?_⟩
    obtain ⟨F, ρ, S, env, w, ev, q⟩ := q
    exact q [] H ρ (Stp.refl w) .nil
  | es, ⟨nm, x, kp⟩ :: kws, h => by
    cases h with
    | @cons e es _ _ a b =>
      refine ⟨fun pos pins s σ H Q I q => (pk_cons a.pe (SndAll.pk b)).run pos pins s σ H Q I ?_⟩
      obtain ⟨F, ρ, S, env, w, ev, q⟩ := q
      simp only [evalEs] at q
      refine ⟨F, ρ, S, env, w, ev, (PostA.bind q).imp ?_⟩
      rintro v H1 ⟨ρ1, S1, d, s, r, p1⟩
      refine ⟨F, ρ1, S1, env, s.wf, ev.le s.le s.pre, (PostA.bindA p1).imp ?_⟩
      rintro vs H2 ⟨ρ2, S2, ds, s2, r2, p2⟩
      exact p2 _ _ _ (Stp.refl s2.wf) (.cons (s2.rep r) r2)
/-- f(k = v, ..), nothing by position -/
theorem pe_callK0 {CX : CXT} {k : Nat} {f : Addr} {fd : FuncData} {ps ks : List Str} {sp : Sp} {E : XK} {x : Str} {p pos : Pos} {kws : List Keyword} {tk : TA} {g : List Value → List Value → List Value} {gV : List V → List V → List V}
    (F : FnOk X.prog X.w X.K X.mg X.base CX k f fd ps sp) (hr : Room k X.A) (hg : Gl X x) (hm : X.mg x = some (.ref f)) (hk : PySem.W.keepIn X.K (.ref f) = true) (hb : KBinds X.K fd ps ks g gV) (hx : Passes CX X E)
    (hkw : PK X kws tk) (hall : (backToKw pos (keywordEach kws X.env)).all (·.1.isSome) = true) (hks : (backToKw pos (keywordEach kws X.env)).filterMap (·.1) = ks)
    (hdb : (x == ("__debug__" : Str)) = false) (hpl : ((backTo pos (starEach [] X.env)).any (·.1) || (backToKw pos (keywordEach kws X.env)).any (·.1.isNone)) = false) :
    PE X (.Call (.Name x p) [] kws pos) (fun σ H Q => tk σ H fun zs H1 => sp (gV [] zs) H1 Q E) := by
  refine ⟨fun pins s σ H Q I h => ?_⟩
  refine wpAny_Call_Name_kw (ld_glob I hg hm ?_ hdb)
  refine PySem.W.callWith_KW0 (h₀ := X.base) (first := []) I.ok.mod.kin hk hall (thn (hkw.run pos pins s σ H _ I h) fun ws s2 ⟨zs, H2, I2, rz, q2⟩ => ⟨I2.kIn, ?_⟩) hpl
  rw [hks]
  exact run_fnk (us := []) (vs := []) F hr hb hx I2 .nil rz q2
theorem callK_snd (o : XOk cf gl cal N X) {f n : Nat} {ks : List Str} {perm : List Nat} {es kes : List E} {xs : List Expr} {kws : List Keyword} {x : Str} {p pos : Pos} (hl : cf.fns.lookup x = some f) (hg : gloOf X.env.scope x = true) (hn : okName x = true) (hkk : kws.map (·.arg) = ks.map some) (hin : (f, n, ks, perm) ∈ cf.kws)
    (hs : SndAll gl cal X es xs) (hks : SndAll gl cal X kes (kws.map (·.value))) : SndOk gl cal X (.callK f n ks perm es kes) (.Call (.Name x p) xs kws pos) := by
  obtain ⟨h1, _, h3⟩ := okName_of hn
  obtain ⟨fa, fd, ps, kk, np, hm, hk, hb, hr, F, hbad, hkb⟩ := o.fns x f hl
  have KB := hkb n ks perm hin
  obtain ⟨k1, k2, k3⟩ := kw_facts hkk X.env pos
  have fin : ∀ σ H Q, tE X.K (evalE gl cal (.callK f n ks perm es kes)) σ H Q → tCallK (spD X.K np (cal f)) (plc n ks.length perm) E0 (tA X.K (evalEs gl cal es)) (tA X.K (evalEs gl cal kes)) σ H Q := by
    rintro σ H Q ⟨F, ρ, S, env, w, ev, q⟩
    simp only [evalE] at q
    refine ⟨F, ρ, S, env, w, ev, (Post.bindA q).imp ?_⟩
    rintro vs H1 ⟨ρ1, S1, ds, s1, r1, q1⟩
    refine ⟨F, ρ1, S1, env, s1.wf, ev.le s1.le s1.pre, (Post.bindA q1).imp ?_⟩
    rintro zs H2 ⟨ρ2, S2, ws, s2, r2, q2⟩
    have r := repA_plc (s2.repA r1) r2 n ks.length perm
    refine ⟨?_, F, ρ2, S2, _, s2.wf, r, q2⟩
    by_cases hd : (plc n ks.length perm ds ws).length = np
    · rw [r.length]; exact hd
    · rw [hbad _ S2 hd] at q2; exact q2.elim
  have hpe : PE X (.Call (.Name x p) xs kws pos) (tE X.K (evalE gl cal (.callK f n ks perm es kes))) := by
    cases xs with
    | nil =>
      refine PE.imp (pe_callK0 F hr (glo_of rfl hg) hm hk KB L2.pass0 hks.pk k1 k2 h1 (by show (false || _) = false; rw [k3]; rfl)) fun σ H Q q => ?_
      obtain ⟨F, ρ, S, env, w, ev, q⟩ := fin σ H Q q
      cases hs
      have q : PostA X.K F H ρ _ (.ok [] S) := q
      exact q [] H ρ (Stp.refl w) .nil
    | cons y ys =>
      have hst := hs.star
      exact PE.imp (pe_callK F hr (glo_of rfl hg) hm hk KB L2.pass0 hs.pa hks.pk k1 k2 h1 (by simp only [List.all_cons, Bool.and_eq_true] at hst; exact star_one hst.1) (by rw [star_any hst, k3]; rfl)) fin
  exact ⟨hpe, rfl, fun _ => pt_plain hpe fun _ => rfl⟩
theorem alloc_snd {es : List E} {xs : List Expr} {pos : Pos} (hs : SndAll gl cal X es xs) : SndOk gl cal X (.alloc es) (.List xs pos) := by
  have hpe : PE X (.List xs pos) (tE X.K (evalE gl cal (.alloc es))) := by
    refine PE.imp (pe_lst hs.pa) fun σ H Q q => ?_
    obtain ⟨F, ρ, S, env, w, ev, p⟩ := tE_args q
    refine ⟨F, ρ, S, env, w, ev, p.imp ?_⟩
    rintro vs H1 ⟨F, ρ, S, ds, w, r, q⟩
    have q : Post X.K F H1 ρ Q (if ds.length ≤ sizeLine ∧ D.clns ds = true then Res.ok (D.loc (List.length S)) (S ++ [SO.lst ds]) else Res.stuck) := q
    by_cases hz : ds.length ≤ sizeLine ∧ D.clns ds = true
    · rw [if_pos hz] at q
      refine ⟨by rw [r.length]; exact hz.1, fun p hp => q _ _ _ (w.alloc hp r hz.1 hz.2) (.loc ?_)⟩
      rw [← w.len, List.getElem?_append_right (Nat.le_refl _)]
      simp
    · rw [if_neg hz] at q
      exact q.elim
  exact ⟨hpe, rfl, fun _ => pt_plain hpe fun _ => rfl⟩
theorem rep_bl {K : PySem.W.Frag} {G : Hp} {ρ : List Addr} {v : V} {b : Bool} (r : Rep K G ρ v (.bl b)) : v = .bl b := by cases r; rfl
theorem truth_bl {F : Fs} {ρ : List Addr} {H : Hp} {Q : VK} {K : PySem.W.Frag} {d : D} {S : Store} {g : Bool → M D} (p : Post K F H ρ Q (M.bind (truth d) g S)) : ∃ b, d = .bl b ∧ Post K F H ρ Q (g b S) := by
  cases d <;> first | exact ⟨_, rfl, p⟩ | exact p.elim
theorem truth_blB {F : Fs} {ρ : List Addr} {H : Hp} {Q : Bool → Hp → Prop} {K : PySem.W.Frag} {d : D} {S : Store} {g : Bool → M Bool} (p : PostB K F H ρ Q (M.bind (truth d) g S)) : ∃ b, d = .bl b ∧ PostB K F H ρ Q (g b S) := by
  cases d <;> first | exact ⟨_, rfl, p⟩ | exact p.elim
theorem PostB.bindB {K : PySem.W.Frag} {F : Fs} {ρ : List Addr} {H : Hp} {Q : Bool → Hp → Prop} {m : M Bool} {g : Bool → M Bool} {S : Store} (h : PostB K F H ρ Q (M.bind m g S)) :
    PostB K F H ρ (fun d H1 => ∃ ρ1 S1, Stp K F H ρ H1 ρ1 S1 ∧ PostB K F H1 ρ1 Q (g d S1)) (m S) := by
  have p := h
  unfold M.bind at p
  cases q : m S with
  | ok d S1 =>
    rw [q] at p
    exact fun H1 ρ1 s => ⟨ρ1, S1, s, p.from s⟩
  | exc _ _ => rw [q] at p; exact p
  | stuck => rw [q] at p; exact p
/-- a test, then what hangs on it -/
theorem tB_then {f : Env → M Bool} {g : Bool → Env → M D} {σ : L2.St} {H : Hp} {Q : VK} {K : PySem.W.Frag} (h : tE K (fun env => M.bind (f env) fun b => g b env) σ H Q) : Z.tB K f σ H fun b H1 => tE K (g b) σ H1 Q := by
  obtain ⟨F, ρ, S, env, w, e, p⟩ := h
  refine ⟨F, ρ, S, env, w, e, (Post.bindB p).imp ?_⟩
  rintro v H1 ⟨ρ1, S1, s, p1⟩
  exact ⟨F, ρ1, S1, env, s.wf, e.le s.le s.pre, p1⟩
theorem tB_thenB {f : Env → M Bool} {g : Bool → Env → M Bool} {σ : L2.St} {H : Hp} {Q : Bool → Hp → Prop} {K : PySem.W.Frag} (h : Z.tB K (fun env => M.bind (f env) fun b => g b env) σ H Q) : Z.tB K f σ H fun b H1 => Z.tB K (g b) σ H1 Q := by
  obtain ⟨F, ρ, S, env, w, e, p⟩ := h
  refine ⟨F, ρ, S, env, w, e, (PostB.bindB p).imp ?_⟩
  rintro v H1 ⟨ρ1, S1, s, p1⟩
  exact ⟨F, ρ1, S1, env, s.wf, e.le s.le s.pre, p1⟩
theorem tE_bool {f : Env → M D} {g : Bool → Env → M D} {σ : L2.St} {H : Hp} {Q : VK} {K : PySem.W.Frag} (h : tE K (fun env => M.bind (f env) fun d => M.bind (truth d) fun b => g b env) σ H Q) : tE K f σ H fun v H1 => ∃ b, v = .bl b ∧ tE K (g b) σ H1 Q := by
  obtain ⟨F, ρ, S, env, w, e, p⟩ := h
  refine ⟨F, ρ, S, env, w, e, (Post.bind p).imp ?_⟩
  rintro v H1 ⟨ρ1, S1, d, s, r, p1⟩
  obtain ⟨b, rfl, p2⟩ := truth_bl p1
  exact ⟨b, rep_bl r, F, ρ1, S1, env, s.wf, e.le s.le s.pre, p2⟩
theorem tE_end {g : Env → M D} {σ : L2.St} {H : Hp} {Q : VK} {K : PySem.W.Frag} {b : Bool} (hg : ∀ env, g env = okB b) (h : tE K g σ H Q) : Q (.bl b) H := by
  obtain ⟨F, ρ, S, env, w, e, p⟩ := h
  rw [hg] at p
  exact p _ _ _ (Stp.refl w) (.bl b)
theorem tB_end {g : Env → M Bool} {σ : L2.St} {H : Hp} {Q : Bool → Hp → Prop} {K : PySem.W.Frag} {b : Bool} (hg : ∀ env, g env = M.ret b) (h : Z.tB K g σ H Q) : Q b H := by
  obtain ⟨F, ρ, S, env, w, e, p⟩ := h
  rw [hg] at p
  exact p _ _ (Stp.refl w)
theorem truth_okB (b : Bool) : M.bind (okB b) truth = M.ret b := rfl
theorem tB_eq {f g : Env → M Bool} {K : PySem.W.Frag} (h : ∀ env, f env = g env) : Z.tB K f = Z.tB K g := by rw [funext h]
theorem not_snd {a : E} {x : Expr} {p : Pos} (ht : tst a = true) (h : SndOk gl cal X a x) : SndOk gl cal X (.not a) (.UnaryOp .Not x p) := by
  refine ⟨?_, rfl, fun _ => ?_⟩
  · refine PE.imp (pe_not h.pe) fun σ H Q q => ?_
    obtain ⟨F, ρ, S, env, w, ev, p⟩ := tE_bool (f := evalE gl cal a) (g := fun b _ => okB (!b)) q
    refine ⟨F, ρ, S, env, w, ev, p.imp ?_⟩
    rintro v H1 ⟨b, rfl, q1⟩
    exact ⟨b, rfl, tE_end (fun _ => rfl) q1⟩
  · refine PT.imp (pt_not (h.pt ht)) fun σ H Q q => ?_
    have q : Z.tB X.K (fun env => M.bind (M.bind (evalE gl cal a env) truth) fun b => M.ret (!b)) σ H Q := by
      rw [tB_eq (g := fun env => M.bind (evalE gl cal (.not a) env) truth)]
      · exact q
      · intro env
        simp only [evalE, M.bind_assoc, truth_okB]
    obtain ⟨F, ρ, S, env, w, ev, p⟩ := tB_thenB (f := fun env => M.bind (evalE gl cal a env) truth) (g := fun b _ => M.ret (!b)) q
    refine ⟨F, ρ, S, env, w, ev, p.imp ?_⟩
    intro b H1 q1
    exact tB_end (fun _ => rfl) q1
theorem bool_pe {conj : Bool} {op : BoolOp} (ho : op = if conj = true then .And else .Or) {p : Pos} : ∀ {es : List E} {xs : List Expr}, es ≠ [] → SndAll gl cal X es xs → PE X (.BoolOp op xs p) (tE X.K (evalBool gl cal conj es))
  | [], _, hn, _ => absurd rfl hn
  | [e], xs, _, hs => by
    cases hs with
    | cons h1 hs =>
      cases hs
      refine PE.imp (pe_one h1.pe) fun σ H Q q => ?_
      obtain ⟨F, ρ, S, env, w, ev, p⟩ := tE_bool (f := evalE gl cal e) (g := fun b _ => okB b) q
      refine ⟨F, ρ, S, env, w, ev, p.imp ?_⟩
      rintro v H1 ⟨b, rfl, q1⟩
      exact tE_end (fun _ => rfl) q1
  | e :: e2 :: es, xs, _, hs => by
    cases hs with
    | cons h1 hs =>
      have ih := bool_pe ho (p := p) (List.cons_ne_nil e2 es) hs
      cases hs with
      | cons h2 hs =>
        cases conj with
        | true =>
          subst ho
          refine PE.imp (pe_and h1.pe ih) fun σ H Q q => ?_
          obtain ⟨F, ρ, S, env, w, ev, p⟩ := tE_bool (f := evalE gl cal e) (g := fun b env => if b = true then evalBool gl cal true (e2 :: es) env else okB b) q
          refine ⟨F, ρ, S, env, w, ev, p.imp ?_⟩
          rintro v H1 ⟨b, rfl, q1⟩
          refine ⟨b, rfl, ?_⟩
          cases b with
          | true => exact q1
          | false => exact tE_end (fun _ => rfl) q1
        | false =>
          subst ho
          refine PE.imp (pe_or h1.pe ih) fun σ H Q q => ?_
          obtain ⟨F, ρ, S, env, w, ev, p⟩ := tE_bool (f := evalE gl cal e) (g := fun b env => if b = false then evalBool gl cal false (e2 :: es) env else okB b) q
          refine ⟨F, ρ, S, env, w, ev, p.imp ?_⟩
          rintro v H1 ⟨b, rfl, q1⟩
          refine ⟨b, rfl, ?_⟩
          cases b with
          | true => exact tE_end (fun _ => rfl) q1
          | false => exact q1
theorem bool_pw {conj : Bool} {op : BoolOp} (ho : op = if conj = true then .And else .Or) {p : Pos} : ∀ {es : List E} {xs : List Expr}, es ≠ [] → (es.all tst) = true → SndAll gl cal X es xs → PW X (.BoolOp op xs p) (Z.tB X.K fun env => M.bind (evalBool gl cal conj es env) truth)
  | [], _, hn, _, _ => absurd rfl hn
  | [e], xs, _, ht, hs => by
    simp only [List.all_cons, Bool.and_eq_true] at ht
    cases hs with
    | cons h1 hs =>
      cases hs
      have fin : ∀ σ H Q, Z.tB X.K (fun env => M.bind (evalBool gl cal conj [e] env) truth) σ H Q → Z.tB X.K (fun env => M.bind (evalE gl cal e env) truth) σ H Q := by
        intro σ H Q q
        rw [tB_eq (g := fun env => M.bind (evalBool gl cal conj [e] env) truth)]
        · exact q
        · intro env
          simp only [evalBool, M.bind_assoc, truth_okB, M.bind_ret]
      cases conj with
      | true => subst ho; exact PW.imp (pw_and1 (h1.pt ht.1)) fin
      | false => subst ho; exact PW.imp (pw_or1 (h1.pt ht.1)) fin
  | e :: e2 :: es, xs, _, ht, hs => by
    simp only [List.all_cons, Bool.and_eq_true] at ht
    cases hs with
    | cons h1 hs =>
      have ih := bool_pw ho (p := p) (List.cons_ne_nil e2 es) (by simp only [List.all_cons, Bool.and_eq_true]; exact ht.2) hs
      have fin : ∀ σ H Q, Z.tB X.K (fun env => M.bind (evalBool gl cal conj (e :: e2 :: es) env) truth) σ H Q → Z.tB X.K (fun env => M.bind (M.bind (evalE gl cal e env) truth) fun b => if b = conj then M.bind (evalBool gl cal conj (e2 :: es) env) truth else M.ret b) σ H Q := by
        intro σ H Q q
        rw [tB_eq (g := fun env => M.bind (evalBool gl cal conj (e :: e2 :: es) env) truth)]
        · exact q
        · intro env
          simp only [evalBool, M.bind_assoc]
          congr 1
          funext d
          congr 1
          funext b
          by_cases hb : b = conj
          · rw [if_pos hb, if_pos hb]
          · rw [if_neg hb, if_neg hb, truth_okB]
      cases hs with
      | cons h2 hs =>
        cases conj with
        | true =>
          subst ho
          refine PW.imp (pw_and (h1.pt ht.1) ih) fun σ H Q q => ?_
          obtain ⟨F, ρ, S, env, w, ev, p⟩ := tB_thenB (f := fun env => M.bind (evalE gl cal e env) truth) (g := fun b env => if b = true then M.bind (evalBool gl cal true (e2 :: es) env) truth else M.ret b) (fin σ H Q q)
          refine ⟨F, ρ, S, env, w, ev, p.imp ?_⟩
          intro b H1 q1
          cases b with
          | true => exact q1
          | false => exact tB_end (fun _ => rfl) q1
        | false =>
          subst ho
          refine PW.imp (pw_or (h1.pt ht.1) ih) fun σ H Q q => ?_
          obtain ⟨F, ρ, S, env, w, ev, p⟩ := tB_thenB (f := fun env => M.bind (evalE gl cal e env) truth) (g := fun b env => if b = false then M.bind (evalBool gl cal false (e2 :: es) env) truth else M.ret b) (fin σ H Q q)
          refine ⟨F, ρ, S, env, w, ev, p.imp ?_⟩
          intro b H1 q1
          cases b with
          | true => exact tB_end (fun _ => rfl) q1
          | false => exact q1
theorem bool_snd {conj : Bool} {op : BoolOp} (ho : op = if conj = true then .And else .Or) {p : Pos} {es : List E} {xs : List Expr} (hn : es ≠ []) (ht : (es.all tst) = true) (hs : SndAll gl cal X es xs) : SndOk gl cal X (.bool conj es) (.BoolOp op xs p) :=
  ⟨PE.imp (bool_pe ho hn hs) fun σ H Q q => by simpa only [evalE] using q, rfl, fun _ => (PW.imp (bool_pw ho hn ht hs) fun σ H Q q => by simpa only [evalE] using q).pt⟩
theorem ife_snd {t a b : E} {t' a' b' : Expr} {p : Pos} (ht : tst t = true) (h1 : SndOk gl cal X t t') (h2 : SndOk gl cal X a a') (h3 : SndOk gl cal X b b') : SndOk gl cal X (.ife t a b) (.IfExp t' a' b' p) := by
  refine ⟨?_, rfl, fun z => by cases z⟩
  refine PE.imp (pe_ifExp (h1.pt ht) h2.pe h3.pe) fun σ H Q q => ?_
  have q : tE X.K (fun env => M.bind (M.bind (evalE gl cal t env) truth) fun c => if c = true then evalE gl cal a env else evalE gl cal b env) σ H Q := by
    simp only [evalE] at q
    simp only [M.bind_assoc]
    exact q
  obtain ⟨F, ρ, S, env, w, ev, p⟩ := tB_then (f := fun env => M.bind (evalE gl cal t env) truth) (g := fun c env => if c = true then evalE gl cal a env else evalE gl cal b env) q
  refine ⟨F, ρ, S, env, w, ev, p.imp ?_⟩
  intro c H1 q1
  cases c with
  | true => exact q1
  | false => exact q1
theorem chain_snd (o : XOk cf gl cal N X) {o1 o2 : CmpOp} {a b c : E} {a' b' c' : Expr} {p : Pos} (hm : behindInMarks o2 c' = false) (h1 : SndOk gl cal X a a') (h2 : SndOk gl cal X b b') (h3 : SndOk gl cal X c c') :
    SndOk gl cal X (.chain o1 o2 a b c) (.Compare a' [o1, o2] [b', c'] p) := by
  have hu : X.A.units + many + 5 < cLine := by have := o.hu; omega
  have fin : ∀ σ H Q, tE X.K (evalE gl cal (.chain o1 o2 a b c)) σ H Q → tChain (r2 X.K (cmpSem o1)) (r2 X.K (cmpSem o2)) (tE X.K (evalE gl cal a)) (tE X.K (evalE gl cal b)) (tE X.K (evalE gl cal c)) σ H Q := by
    rintro σ H Q ⟨F, ρ, S, env, w, ev, q⟩
    simp only [evalE] at q
    refine ⟨F, ρ, S, env, w, ev, (Post.bind q).imp ?_⟩
    rintro v1 H1 ⟨ρ1, S1, d1, s1, r1, q1⟩
    refine ⟨F, ρ1, S1, env, s1.wf, ev.le s1.le s1.pre, (Post.bind q1).imp ?_⟩
    rintro v2 H2 ⟨ρ2, S2, d2, s2, r2, q2⟩
    refine ⟨F, ρ2, S2, d1, d2, s2.wf, s2.rep r1, r2, (Post.bind q2).imp ?_⟩
    rintro v3 H3 ⟨ρ3, S3, d3, s3, r3, q3⟩
    obtain ⟨k, rfl, q4⟩ := truth_bl q3
    refine ⟨k, rep_bl r3, ?_⟩
    cases k with
    | false => exact q4 _ _ _ (Stp.refl s3.wf) (.bl false)
    | true =>
      refine ⟨F, ρ3, S3, env, s3.wf, ev.le (fun a o e => s3.le a o (s2.le a o (s1.le a o e))) ((s1.pre.trans s2.pre).trans s3.pre), (Post.bind q4).imp ?_⟩
      rintro v4 H4 ⟨ρ4, S4, d4, s4, r4, q5⟩
      exact ⟨F, ρ4, S4, d2, d4, s4.wf, s4.rep (s3.rep r2), r4, q5⟩
  exact ⟨PE.imp (pe_chain (cmp_all hu o1) (cmp_all hu o2) h1.pe h2.pe h3.pe hm) fin, rfl, fun _ => pt_test (pt_chain (cmp_all hu o1) (cmp_all hu o2) h1.pe h2.pe h3.pe hm) fin⟩
theorem bind_truth_ifs {gl : Nat → Option D} {cal : Nat → List D → M D} {e : E} {env : Env} : evalIfs gl cal [e] env = M.bind (evalE gl cal e env) truth := by
  simp only [evalIfs]
  congr 1
  funext d
  rw [← M.bind_ret (truth d)]
  rw [M.bind_assoc]
  congr 1
  funext b
  cases b <;> rfl
theorem pts_snd {es : List E} {xs : List Expr} (hl : es.length ≤ 1) (ht : (es.all tst) = true) (hs : SndAll gl cal X es xs) : PTs X xs (Z.tB X.K (evalIfs gl cal es)) := by
  cases hs with
  | nil =>
    refine PTs.imp pts_nil fun σ H Q q => ?_
    exact tB_end (fun _ => by simp only [evalIfs]) q
  | @cons e es x xs h1 hs =>
    cases hs with
    | cons _ _ => simp at hl
    | nil =>
      simp only [List.all_cons, Bool.and_eq_true] at ht
      refine PTs.imp (pts_one (h1.pt ht.1)) fun σ H Q q => ?_
      rw [tB_eq (g := evalIfs gl cal [e])]
      · exact q
      · intro env; exact bind_truth_ifs.symm
theorem src_snd (o : XOk cf gl cal N X) {k : SK} {tg it : Expr} {xs : List Expr} {es : List E} (hv : srcView X.env.scope tg it k = some xs) (hs : SndAll gl cal X es xs) : PI X tg it (tI X.K fun env => M.bind (evalEs gl cal es env) (srcItems k)) := by
  cases k with
  | val =>
    cases hv
    obtain ⟨e, rfl, h1⟩ := single_of hs
    refine PI.imp (src_val h1.pe) fun σ H R q => ?_
    have e1 : (fun env => M.bind (evalEs gl cal [e] env) (srcItems .val)) = fun env => M.bind (evalE gl cal e env) fun d => srcItems .val [d] := by
      funext env
      simp only [evalEs_cons, evalEs_nil]
    rw [e1] at q
    exact q
  | range1 =>
    simp only [srcView] at hv
    split at hv
    · split at hv
      · rename_i hx
        cases hv
        simp only [Bool.and_eq_true] at hx
        obtain ⟨hx, hg⟩ := hx
        have hx := eq_of_beq hx
        subst hx
        have hst := hs.star
        simp only [List.all_cons, Bool.and_eq_true] at hst
        exact src_range1 (glo_of rfl hg) (o.blt _ (by decide +kernel)) hs.pa (by rw [star_one hst.1]; rfl)
      · cases hv
    · cases hv
  | range2 =>
    simp only [srcView] at hv
    split at hv
    · split at hv
      · rename_i hx
        cases hv
        simp only [Bool.and_eq_true] at hx
        obtain ⟨hx, hg⟩ := hx
        have hx := eq_of_beq hx
        subst hx
        have hst := hs.star
        simp only [List.all_cons, Bool.and_eq_true] at hst
        exact src_range2 (glo_of rfl hg) (o.blt _ (by decide +kernel)) hs.pa (by rw [star_one hst.1, star_one hst.2.1]; rfl) (by rw [star_one hst.2.1]; rfl)
      · cases hv
    · cases hv
  | enum =>
    simp only [srcView] at hv
    split at hv
    · split at hv
      · rename_i hx
        cases hv
        simp only [Bool.and_eq_true] at hx
        obtain ⟨hx, hg⟩ := hx
        have hx := eq_of_beq hx
        subst hx
        have hst := hs.star
        simp only [List.all_cons, Bool.and_eq_true] at hst
        exact src_enum (glo_of rfl hg) (o.blt _ (by decide +kernel)) hs.pa (by rw [star_one hst.1]; rfl)
      · cases hv
    · cases hv
  | zip =>
    simp only [srcView] at hv
    split at hv
    · split at hv
      · rename_i hx
        cases hv
        simp only [Bool.and_eq_true] at hx
        obtain ⟨hx, hg⟩ := hx
        have hx := eq_of_beq hx
        subst hx
        have hst := hs.star
        simp only [List.all_cons, Bool.and_eq_true] at hst
        exact src_zip (glo_of rfl hg) (o.blt _ (by decide +kernel)) hs.pa (star_one hst.1) (star_any (by simp only [List.all_cons, Bool.and_eq_true]; exact hst.2))
      · cases hv
    · cases hv
theorem noSet_ok {e : Expr} {env : PySem.Env} {x : Value} (h : noSet e = true) : foldedSetIterable e env x = pure x := by
  cases e <;> first | rfl | cases h
theorem locOf_blk {scope sc : Scope} {x : Str} (h : locOf scope x = true) : Loc (relS scope sc) x ∧ ((scope.names.lookup x == some .cell) = true ∨ (relS scope sc).names.lookup x = some .local) := by
  unfold locOf at h
  cases q : scope.names.lookup x with
  | none => rw [q] at h; cases h
  | some k =>
    rw [q] at h
    cases k with
    | «local» =>
      have e := lookup_relS_keep (sc := sc) (k := .local) (by decide) q
      exact ⟨.inl e, .inr e⟩
    | cell =>
      have e := lookup_relS_keep (sc := sc) (k := .cell) (by decide) q
      exact ⟨.inr e, .inl (by simp)⟩
    | _ => cases h
mutual
theorem sndE : ∀ (e : E) (X : Cx) (ex : Expr), XOk cf gl cal N X → chkE cf N X.env.scope e ex = true → SndOk gl cal X e ex
  | .const d, X, ex, o, h => by
    simp only [chkE] at h
    split at h
    · exact ⟨const_ok h, rfl, fun _ => pt_plain (const_ok h) fun _ => rfl⟩
    · cases h
  | .var i, X, ex, o, h => by
    simp only [chkE] at h
    split at h
    · exact ⟨var_ok o.nm h, rfl, fun _ => pt_plain (var_ok o.nm h) fun _ => rfl⟩
    · cases h
  | .glob g, X, ex, o, h => by
    simp only [chkE] at h
    split at h
    · exact ⟨glob_ok o h, rfl, fun _ => pt_plain (glob_ok o h) fun _ => rfl⟩
    · cases h
  | .op hd es, X, ex, o, h => by
    simp only [chkE] at h
    split at h
    · rename_i h' xs hv
      simp only [Bool.and_eq_true, decide_eq_true_eq] at h
      obtain ⟨⟨h1, h2⟩, h3⟩ := h
      subst h1
      exact op_snd o (view_shape hv) h2 (sndEs es X xs o h3)
    · cases h
  | .alloc es, X, ex, o, h => by
    simp only [chkE] at h
    split at h
    · exact alloc_snd (sndEs es X _ o h)
    · cases h
  | .call f es, X, ex, o, h => by
    simp only [chkE] at h
    split at h
    · simp only [Bool.and_eq_true, decide_eq_true_eq] at h
      exact call_snd o h.1.1.1 h.1.1.2 h.1.2 (sndEs es X _ o h.2)
    · cases h
  | .callK f n ks perm es kes, X, ex, o, h => by
    simp only [chkE] at h
    split at h
    · simp only [Bool.and_eq_true, decide_eq_true_eq] at h
      obtain ⟨⟨⟨⟨⟨⟨⟨h1, h2⟩, h3⟩, h4⟩, h5⟩, h6⟩, h7⟩, h8⟩ := h
      exact callK_snd o h1 h2 h3 h5 h6 (sndEs es X _ o h7) (sndEs kes X _ o h8)
    · cases h
  | .chain o1 o2 a b c, X, ex, o, h => by
    simp only [chkE] at h
    split at h
    · simp only [Bool.and_eq_true, decide_eq_true_eq, Bool.not_eq_true'] at h
      obtain ⟨⟨⟨⟨⟨h1, h2⟩, h3⟩, h4⟩, h5⟩, h6⟩ := h
      subst h1 h2
      exact chain_snd o h3 (sndE a X _ o h4) (sndE b X _ o h5) (sndE c X _ o h6)
    · cases h
  | .not a, X, ex, o, h => by
    simp only [chkE] at h
    split at h
    · simp only [Bool.and_eq_true] at h
      exact not_snd h.1 (sndE a X _ o h.2)
    · cases h
  | .bool conj es, X, ex, o, h => by
    simp only [chkE] at h
    split at h
    · simp only [Bool.and_eq_true, decide_eq_true_eq, Bool.not_eq_true'] at h
      obtain ⟨⟨⟨h1, h2⟩, h3⟩, h4⟩ := h
      exact bool_snd h1 (fun z => by rw [z] at h2; cases h2) h3 (sndEs es X _ o h4)
    · cases h
  | .ife t a b, X, ex, o, h => by
    simp only [chkE] at h
    split at h
    · simp only [Bool.and_eq_true] at h
      exact ife_snd h.1.1.1 (sndE t X _ o h.1.1.2) (sndE a X _ o h.1.2) (sndE b X _ o h.2)
    · cases h
  | .comp own elt tg k es ifs, X, ex, o, h => by
    simp only [chkE] at h
    split at h
    · split at h
      · rename_i elt' scope pos _ g
        simp only [Bool.and_eq_true, decide_eq_true_eq] at h
        obtain ⟨⟨⟨⟨⟨⟨⟨⟨⟨ha, hb⟩, ht⟩, hi⟩, hn⟩, hv⟩, hl⟩, hts⟩, hif⟩, he⟩ := h
        split at hv
        · rename_i xs hsv
          obtain ⟨tgx, it, ifs', as⟩ := g
          have ha : as = 0 := eq_of_beq ha
          subst ha
          have hpe : PE X (.ListComp elt' [⟨tgx, it, ifs', 0⟩] scope pos) (tE X.K (evalE gl cal (.comp own elt tg k es ifs))) := by
            have hN : X.N = N := o.nm
            refine comp_ok o.calm (by rw [hN]; exact o.nd) (by rw [hN]; exact blkOk_by hb) (by unfold ownN; rw [List.map_map]; exact List.map_id' own) (src_snd o hsv (sndEs es X xs o hv)) (fun s H C cl fp => ?_) (fun s H C cl fp => ?_) (fun s H C cl fp => ?_) hi fun x => noSet_ok hn
            · exact sndT (X := X.blk s H scope (compEnvC scope cl C X.env) fp) (N := N) (ok := locOf scope) hN o.nd o.calm (fun x hx => locOf_blk hx) tg tgx ht
            · exact pts_snd hl hts (sndEs ifs (X.blk s H scope (compEnvC scope cl C X.env) fp) ifs' (o.blk _ _ _ _ _) hif)
            · exact (sndE elt (X.blk s H scope (compEnvC scope cl C X.env) fp) elt' (o.blk _ _ _ _ _) he).pe
          exact ⟨hpe, rfl, fun _ => pt_plain hpe fun _ => rfl⟩
        · cases hv
      · cases h
    · cases h
theorem sndEs : ∀ (es : List E) (X : Cx) (xs : List Expr), XOk cf gl cal N X → chkEs cf N X.env.scope es xs = true → SndAll gl cal X es xs
  | [], X, xs, o, h => by
    simp only [chkEs] at h
    cases xs with
    | nil => exact .nil
    | cons _ _ => cases h
  | e :: es, X, xs, o, h => by
    simp only [chkEs] at h
    cases xs with
    | nil => cases h
    | cons x xs =>
      simp only [Bool.and_eq_true] at h
      exact .cons (sndE e X x o h.1) (sndEs es X xs o h.2)
end
end
end Z

/-! Z15: frames -/
namespace Z
open PySem PySem.Spec PyProof.Rows L2
/-- a frame's own lists ahead of what others own -/
def ow (O : List Addr) (b : Bool) (F : Fs) : Fs := O.map (fun a => (a, b)) ++ F
theorem ow_cons (p : Addr) (O : List Addr) (b : Bool) (F : Fs) : ow (p :: O) b F = (p, b) :: ow O b F := rfl
theorem ow_in {b : Bool} {F : Fs} {a : Addr} : ∀ {O : List Addr}, a ∈ O → (ow O b F).lookup a = some b
  | p :: O, h => by
    rw [ow_cons]
    by_cases e : a = p
    · subst e; exact lookup_self
    · rw [lookup_ne e]
      exact ow_in ((List.mem_cons.mp h).resolve_left e)
theorem ow_out {b : Bool} {F : Fs} {a : Addr} : ∀ {O : List Addr}, a ∉ O → (ow O b F).lookup a = F.lookup a
  | [], _ => rfl
  | p :: O, h => by
    rw [ow_cons, lookup_ne (fun e => h (by rw [e]; exact List.mem_cons_self))]
    exact ow_out fun m => h (List.mem_cons_of_mem _ m)
theorem ow_mem {b : Bool} {F : Fs} {O : List Addr} {q : Addr × Bool} : q ∈ ow O b F ↔ (q.1 ∈ O ∧ q.2 = b) ∨ q ∈ F := by
  unfold ow
  rw [List.mem_append, List.mem_map]
  constructor
  · rintro (⟨a, h, rfl⟩ | h)
    · exact .inl ⟨h, rfl⟩
    · exact .inr h
  · rintro (⟨h, e⟩ | h)
    · exact .inl ⟨q.1, h, by rw [← e]⟩
    · exact .inr h
section
variable {K : PySem.W.Frag} {H H' H1 H2 : Hp} {F : Fs} {ρ ρ' ρ1 ρ2 : List Addr} {S S' S1 S2 : Store} {O : List Addr}
theorem Wf.weakO : ∀ {O : List Addr}, Wf K H (ow O false F) ρ S → Wf K H F ρ S
  | [], w => w
  | p :: O, w => by
    rw [ow_cons] at w
    exact Wf.weakO w.weak
theorem le_weakO : ∀ {O : List Addr}, Le (del H (ow O false F) ρ) (del H F ρ)
  | [] => fun _ _ e => e
  | p :: O => fun c o e => by
    rw [ow_cons] at e
    exact le_weakO c o (del_weak c o e)
theorem Stp.weakO (s : Stp K (ow O false F) H ρ H' ρ' S') : Stp K F H ρ H' ρ' S' := ⟨s.same, s.pre, s.fresh, s.wf.weakO⟩
/-- read and not read -/
theorem le_flag : Le (del H (ow O false F) ρ) (del H (ow O true F) ρ) := fun c o e => by
  refine del_same e fun n _ => ⟨n, ?_, rfl⟩
  by_cases hc : c ∈ O
  · obtain ⟨_, q | ⟨q, _⟩⟩ := del_cases e
    · rw [ow_in hc] at q; cases q.1
    · rw [ow_in hc] at q; cases q
  · rw [ow_out hc, ow_out hc]
theorem Wf.flag (w : Wf K H (ow O false F) ρ S) : Wf K H (ow O true F) ρ S :=
  ⟨w.len, w.nd, fun n a o e1 e2 => OB.le le_flag List.prefix_rfl rfl (w.at_ n a o e1 e2), fun q m => by
    rcases ow_mem.mp m with ⟨m, _⟩ | m
    · exact w.fd (q.1, false) (ow_mem.mpr (.inl ⟨m, rfl⟩))
    · exact w.fd q (ow_mem.mpr (.inr m))⟩
theorem unf_lst (hO : ∀ a ∈ O, ∃ vs, H a = some (.lst vs)) : (∀ a vs, del H (ow O true F) ρ a = some (.lst vs) → del H (ow O false F) ρ a = some (.lst vs)) ∧ ∀ a vs, SqT K (del H (ow O true F) ρ) a vs → SqT K (del H (ow O false F) ρ) a vs := by
  have key : ∀ a o, (∀ u, o = wrp u → ∀ vs, u ≠ .lst vs) → (∀ vs, o = .lst vs → (ow O true F).lookup a ≠ some true) → del H (ow O true F) ρ a = some o → a ∉ O → del H (ow O false F) ρ a = some o := fun a o _ _ e n => by
    refine del_same e fun n' _ => ⟨n', ?_, rfl⟩
    rw [ow_out n, ow_out n]
  refine ⟨fun a vs e => ?_, fun a vs r => ?_⟩
  · have n : a ∉ O := fun m => by
      obtain ⟨_, q | ⟨_, u, _, q⟩⟩ := del_cases e
      · rw [ow_in m] at q; cases q.1
      · cases q
    refine del_same e fun n' _ => ⟨n', ?_, rfl⟩
    rw [ow_out n, ow_out n]
  · rcases r with r | r
    · refine .inl ?_
      have n : a ∉ O := fun m => by
        obtain ⟨us, hu⟩ := hO a m
        rcases r with r | ⟨o, r⟩
        · obtain ⟨_, q | ⟨_, u, _, q⟩⟩ := del_cases r
          · rw [ow_in m] at q; cases q.1
          · cases q
        · obtain ⟨_, q | ⟨_, u, q1, q⟩⟩ := del_cases r
          · rw [ow_in m] at q; cases q.1
          · rw [hu] at q1
            cases q1
            cases q
      rcases r with r | ⟨o, r⟩
      · exact .inl (del_same r fun n' _ => ⟨n', by rw [ow_out n, ow_out n], rfl⟩)
      · exact .inr ⟨o, del_same r fun n' _ => ⟨n', by rw [ow_out n, ow_out n], rfl⟩⟩
    · exact .inr r
theorem Wf.unflag (w : Wf K H (ow O true F) ρ S) (hO : ∀ a ∈ O, ∃ vs, H a = some (.lst vs)) : Wf K H (ow O false F) ρ S := by
  obtain ⟨h1, h2⟩ := unf_lst (K := K) (F := F) (ρ := ρ) hO
  refine ⟨w.len, w.nd, fun n a o e1 e2 => ?_, fun q m => ?_⟩
  · have z := w.at_ n a o e1 e2
    cases o with
    | lst xs =>
      obtain ⟨vs, z1, z2, z3, z4⟩ := z
      exact ⟨vs, z1, RepA.cln h1 h2 _ _ z4 z2, z3, z4⟩
  · rcases ow_mem.mp m with ⟨m, _⟩ | m
    · exact w.fd (q.1, true) (ow_mem.mpr (.inl ⟨m, rfl⟩))
    · exact w.fd q (ow_mem.mpr (.inr m))
theorem Stp.unflag (s : Stp K (ow O true F) H ρ H' ρ' S') (hO : ∀ a ∈ O, ∃ vs, H' a = some (.lst vs)) : Stp K (ow O false F) H ρ H' ρ' S' := ⟨s.same, s.pre, s.fresh, s.wf.unflag hO⟩
/-- the frame fr stands in σ, H; O: the addresses of its own lists; G0, ρg: what is kept; H0, ρ0: the call's start -/
structure FrI (K : PySem.W.Frag) (G0 : Hp) (ρg : List Addr) (F : Fs) (H0 : Hp) (ρ0 : List Addr) (H : Hp) (ρ : List Addr) (S : Store) (fr : Fr) (σ : L2.St) (O : List Addr) : Prop where
  st : Stp K F H0 ρ0 H ρ S
  wf : Wf K H (ow O false F) ρ S
  len : fr.length ≤ σ.length
  val : ∀ (i : Nat) (d : D), fr[i]? = some (Z.Slot.val d) → ∃ v, σ[i]? = some (some v) ∧ Rep K (del H (ow O false F) ρ) ρ v d
  own : ∀ (i : Nat) (xs : List D), fr[i]? = some (Z.Slot.own xs) → ∃ a vs, σ[i]? = some (some (.ref a)) ∧ a ∈ O ∧ H a = some (.lst vs) ∧ RepA K (del H (ow O false F) ρ) ρ vs xs ∧ xs.length ≤ sizeLine
  sep : ∀ (i j : Nat) (xs ys : List D) (a : Addr), fr[i]? = some (Z.Slot.own xs) → fr[j]? = some (Z.Slot.own ys) → σ[i]? = some (some (.ref a)) → σ[j]? = some (some (.ref a)) → i = j
  lst : ∀ a ∈ O, (∃ vs, H a = some (.lst vs)) ∧ H0 a = none
  le : Le G0 (del H (ow O false F) ρ)
  pre : ρg <+: ρ
  f0 : ∀ p ∈ F, H0 p.1 ≠ none
variable {G0 H0 : Hp} {ρg ρ0 : List Addr} {fr : Fr} {σ : L2.St}
/-- what others own stood at the start -/
theorem FrI.nF (I : FrI K G0 ρg F H0 ρ0 H ρ S fr σ O) (f0 : ∀ p ∈ F, H0 p.1 ≠ none) {a : Addr} (h : H0 a = none) : F.lookup a = none := lookup_none fun q m e => f0 q m (e ▸ h)
theorem FrI.step (I : FrI K G0 ρg F H0 ρ0 H ρ S fr σ O) (s : Stp K (ow O false F) H ρ H1 ρ1 S1) : FrI K G0 ρg F H0 ρ0 H1 ρ1 S1 fr σ O where
  st := I.st.trans s.weakO
  wf := s.wf
  len := I.len
  val := fun i d h => by
    obtain ⟨v, h1, h2⟩ := I.val i d h
    exact ⟨v, h1, s.rep h2⟩
  own := fun i xs h => by
    obtain ⟨a, vs, h1, h2, h3, h4, h5⟩ := I.own i xs h
    exact ⟨a, vs, h1, h2, s.same a _ h3 ((I.wf.fd (a, false) (ow_mem.mpr (.inl ⟨h2, rfl⟩))).2), s.repA h4, h5⟩
  sep := I.sep
  lst := fun a m => by
    obtain ⟨⟨vs, h1⟩, h2⟩ := I.lst a m
    exact ⟨⟨vs, s.same a _ h1 ((I.wf.fd (a, false) (ow_mem.mpr (.inl ⟨m, rfl⟩))).2)⟩, h2⟩
  le := fun c o e => s.le c o (I.le c o e)
  pre := I.pre.trans s.pre
  f0 := I.f0
theorem FrI.env (I : FrI K G0 ρg F H0 ρ0 H ρ S fr σ O) : ∀ m, EnvOk K (del H (ow O m F) ρ) ρ (fr.env m) σ := fun m => by
  refine ⟨by unfold Fr.env; rw [List.length_map]; exact I.len, fun i d h => ?_⟩
  unfold Fr.env at h
  rw [List.getElem?_map] at h
  obtain ⟨s, h1, h2⟩ := Option.map_eq_some_iff.mp h
  have lf : Le (del H (ow O false F) ρ) (del H (ow O m F) ρ) := by
    cases m with
    | false => exact fun _ _ e => e
    | true => exact le_flag
  cases m with
  | false =>
    cases s with
    | val d' => cases h2; exact I.val i d h1
    | own xs => cases h2
    | no => cases h2
  | true =>
    cases s with
    | val d' =>
      cases h2
      obtain ⟨v, q1, q2⟩ := I.val i d h1
      exact ⟨v, q1, Rep.le lf List.prefix_rfl _ _ q2⟩
    | own xs =>
      cases h2
      obtain ⟨a, vs, q1, q2, q3, q4, q5⟩ := I.own i xs h1
      refine ⟨_, q1, .scr (.inl (.inr ⟨{ cls := .none }, ?_⟩)) (RepA.le lf List.prefix_rfl _ _ q4) q5⟩
      unfold del
      rw [if_neg (I.wf.fd (a, false) (ow_mem.mpr (.inl ⟨q2, rfl⟩))).2, ow_in q2]
      show (H a).map wrp = _
      rw [q3]
      rfl
    | no => cases h2
theorem FrI.wfm (I : FrI K G0 ρg F H0 ρ0 H ρ S fr σ O) : ∀ m, Wf K H (ow O m F) ρ S
  | false => I.wf
  | true => I.wf.flag
theorem FrI.stepm (I : FrI K G0 ρg F H0 ρ0 H ρ S fr σ O) : ∀ {m}, Stp K (ow O m F) H ρ H1 ρ1 S1 → Stp K (ow O false F) H ρ H1 ρ1 S1
  | false, s => s
  | true, s => s.unflag fun a m => by
    obtain ⟨⟨vs, h1⟩, _⟩ := I.lst a m
    exact ⟨vs, s.same a _ h1 ((I.wf.fd (a, false) (ow_mem.mpr (.inl ⟨m, rfl⟩))).2)⟩
/-- what a reading gives -/
theorem fit_ok {m : Bool} {d e : D} {S S' : Store} (h : fitM m d S = .ok e S') : e = d ∧ S' = S ∧ (m = true → d.cln = true) := by
  unfold fitM at h
  by_cases hm : m = true ∧ d.cln = false
  · rw [if_pos hm] at h; cases h
  · rw [if_neg hm] at h
    cases h
    exact ⟨rfl, rfl, fun z => by
      cases q : d.cln with
      | true => rfl
      | false => exact absurd ⟨z, q⟩ hm⟩
theorem FrI.rep (I : FrI K G0 ρg F H0 ρ0 H ρ S fr σ O) {m : Bool} (s : Stp K (ow O m F) H ρ H1 ρ1 S1) {v : V} {d : D} (h : m = true → d.cln = true) (r : Rep K (del H1 (ow O m F) ρ1) ρ1 v d) : Rep K (del H1 (ow O false F) ρ1) ρ1 v d := by
  cases m with
  | false => exact r
  | true =>
    obtain ⟨h1, h2⟩ := unf_lst (K := K) (H := H1) (F := F) (ρ := ρ1) (O := O) fun a m => by
      obtain ⟨⟨vs, h1⟩, _⟩ := I.lst a m
      exact ⟨vs, s.same a _ h1 ((I.wf.fd (a, false) (ow_mem.mpr (.inl ⟨m, rfl⟩))).2)⟩
    exact Rep.cln h1 h2 _ _ (h rfl) r
/-- behind a statement -/
def PostS (K : PySem.W.Frag) (G0 : Hp) (ρg : List Addr) (F : Fs) (H0 : Hp) (ρ0 : List Addr) (E : Ends) : Res Out → Prop
  | .ok (.nx fr) S => ∀ σ H ρ O, FrI K G0 ρg F H0 ρ0 H ρ S fr σ O → E.nx σ H
  | .ok (.bk fr) S => ∀ σ H ρ O, FrI K G0 ρg F H0 ρ0 H ρ S fr σ O → E.bk σ H
  | .ok (.ct fr) S => ∀ σ H ρ O, FrI K G0 ρg F H0 ρ0 H ρ S fr σ O → E.ct σ H
  | .ok (.ret d) S => ∀ v H ρ, Stp K F H0 ρ0 H ρ S → Rep K (del H F ρ) ρ v d → E.rt v H
  | .exc _ _ => False
  | .stuck => False
def tS (K : PySem.W.Frag) (f : Fr → M Out) : TS := fun E σ H => ∃ G0 ρg F H0 ρ0 ρ S fr O, FrI K G0 ρg F H0 ρ0 H ρ S fr σ O ∧ PostS K G0 ρg F H0 ρ0 E (f fr S)
theorem PostS.ok {E : Ends} {r : Res Out} (h : PostS K G0 ρg F H0 ρ0 E r) : ∃ o S, r = .ok o S := by
  cases r with
  | ok d S => exact ⟨d, S, rfl⟩
  | exc _ _ => exact h.elim
  | stuck => exact h.elim
theorem PostS.bind {α : Type} {E : Ends} {m : M α} {k : α → M Out} {S : Store} (h : PostS K G0 ρg F H0 ρ0 E (M.bind m k S)) : ∃ a S1, m S = .ok a S1 ∧ PostS K G0 ρg F H0 ρ0 E (k a S1) := by
  unfold M.bind at h
  cases q : m S with
  | ok a S1 => rw [q] at h; exact ⟨a, S1, rfl, h⟩
  | exc _ _ => rw [q] at h; exact h.elim
  | stuck => rw [q] at h; exact h.elim
/-- an expression read in a frame -/
theorem FrI.read (I : FrI K G0 ρg F H0 ρ0 H ρ S fr σ O) {gl : Nat → Option D} {cal : Nat → List D → M D} {m : Bool} {e : E} {d : D} {S1 : Store} (h : readE gl cal m e fr S = .ok d S1) {Q : VK}
    (q : ∀ v H1 ρ1, FrI K G0 ρg F H0 ρ0 H1 ρ1 S1 fr σ O → Rep K (del H1 (ow O false F) ρ1) ρ1 v d → Q v H1) : tE K (evalE gl cal e) σ H Q := by
  refine ⟨ow O m F, ρ, S, fr.env m, I.wfm m, I.env m, ?_⟩
  obtain ⟨d', S', h1, h2⟩ := res_bind h
  obtain ⟨rfl, rfl, hc⟩ := fit_ok h2
  rw [h1]
  exact fun v H1 ρ1 s r => q v H1 ρ1 (I.step (I.stepm s)) (I.rep s hc r)
theorem FrI.repA (I : FrI K G0 ρg F H0 ρ0 H ρ S fr σ O) {m : Bool} (s : Stp K (ow O m F) H ρ H1 ρ1 S1) {v : List V} {d : List D} (h : m = true → D.clns d = true) (r : RepA K (del H1 (ow O m F) ρ1) ρ1 v d) : RepA K (del H1 (ow O false F) ρ1) ρ1 v d := by
  cases m with
  | false => exact r
  | true =>
    obtain ⟨h1, h2⟩ := unf_lst (K := K) (H := H1) (F := F) (ρ := ρ1) (O := O) fun a m => by
      obtain ⟨⟨vs, h1⟩, _⟩ := I.lst a m
      exact ⟨vs, s.same a _ h1 ((I.wf.fd (a, false) (ow_mem.mpr (.inl ⟨m, rfl⟩))).2)⟩
    exact RepA.cln h1 h2 _ _ (h rfl) r
theorem FrI.reads (I : FrI K G0 ρg F H0 ρ0 H ρ S fr σ O) {gl : Nat → Option D} {cal : Nat → List D → M D} {m : Bool} {es : List E} {ds : List D} {S1 : Store} (h : readEs gl cal m es fr S = .ok ds S1) {Q : List V → Hp → Prop}
    (q : ∀ vs H1 ρ1, FrI K G0 ρg F H0 ρ0 H1 ρ1 S1 fr σ O → RepA K (del H1 (ow O false F) ρ1) ρ1 vs ds → Q vs H1) : tA K (evalEs gl cal es) σ H Q := by
  refine ⟨ow O m F, ρ, S, fr.env m, I.wfm m, I.env m, ?_⟩
  obtain ⟨d', S', h1, h2⟩ := res_bind h
  by_cases hm : m = true ∧ D.clns d' = false
  · rw [if_pos hm] at h2; cases h2
  · rw [if_neg hm] at h2
    cases h2
    rw [h1]
    refine fun v H1 ρ1 s r => q v H1 ρ1 (I.step (I.stepm s)) (I.repA s (fun z => ?_) r)
    cases q : D.clns ds with
    | true => rfl
    | false => exact absurd ⟨z, q⟩ hm
theorem FrI.weakG {G1 : Hp} {ρ1 : List Addr} (I : FrI K G1 ρ1 F H0 ρ0 H ρ S fr σ O) (l : Le G0 G1) (p : ρg <+: ρ1) : FrI K G0 ρg F H0 ρ0 H ρ S fr σ O :=
  ⟨I.st, I.wf, I.len, I.val, I.own, I.sep, I.lst, fun c o e => I.le c o (l c o e), p.trans I.pre, I.f0⟩
theorem FrI.base (I : FrI K G0 ρg F H0 ρ0 H ρ S fr σ O) : FrI K (del H (ow O false F) ρ) ρ F H0 ρ0 H ρ S fr σ O :=
  ⟨I.st, I.wf, I.len, I.val, I.own, I.sep, I.lst, fun _ _ e => e, List.prefix_rfl, I.f0⟩
theorem FrI.readL (I : FrI K G0 ρg F H0 ρ0 H ρ S fr σ O) {gl : Nat → Option D} {cal : Nat → List D → M D} {m : Bool} {e : E} {d : D} {S1 : Store} (h : readE gl cal m e fr S = .ok d S1) {Q : VK}
    (q : ∀ v H1 ρ1, FrI K G0 ρg F H0 ρ0 H1 ρ1 S1 fr σ O → Rep K (del H1 (ow O false F) ρ1) ρ1 v d → Le (del H (ow O false F) ρ) (del H1 (ow O false F) ρ1) → ρ <+: ρ1 → Q v H1) : tE K (evalE gl cal e) σ H Q :=
  I.base.read h fun v H1 ρ1 I1 r => q v H1 ρ1 (I1.weakG I.le I.pre) r I1.le I1.pre
/-- a list of the store is written -/
theorem FrI.sto (I : FrI K G0 ρg F H0 ρ0 H ρ S fr σ O) {p : Addr} {n : Nat} (h : ρ[n]? = some p) {vs : List V} {ds : List D} (r : RepA K (del H (ow O false F) ρ) ρ vs ds) (z : ds.length ≤ sizeLine) (hc : D.clns ds = true) :
    FrI K G0 ρg F H0 ρ0 (upd H p (.lst vs)) ρ (S.set n (.lst ds)) fr σ O := I.step (I.wf.write h r z hc)
theorem clns_set : ∀ {xs : List D} {d : D} (n : Nat), D.clns xs = true → d.cln = true → D.clns (xs.set n d) = true
  | [], _, _, h, _ => h
  | x :: xs, d, 0, h, hd => by
    simp only [D.clns, Bool.and_eq_true] at h
    simp only [List.set_cons_zero, D.clns, Bool.and_eq_true]
    exact ⟨hd, h.2⟩
  | x :: xs, d, n + 1, h, hd => by
    simp only [D.clns, Bool.and_eq_true] at h
    simp only [List.set_cons_succ, D.clns, Bool.and_eq_true]
    exact ⟨h.1, clns_set n h.2 hd⟩
/-- a value is stored -/
theorem FrI.put (I : FrI K G0 ρg F H0 ρ0 H ρ S fr σ O) {i : Nat} {v : V} {d : D} (r : Rep K (del H (ow O false F) ρ) ρ v d) : FrI K G0 ρg F H0 ρ0 H ρ S (fr.set i (Z.Slot.val d)) (σ.set i (some v)) O where
  st := I.st
  wf := I.wf
  len := by rw [List.length_set, List.length_set]; exact I.len
  val := fun j d' h => by
    by_cases hj : j = i
    · subst hj
      by_cases hl : j < fr.length
      · rw [List.getElem?_set_self hl] at h
        cases h
        exact ⟨v, List.getElem?_set_self (Nat.lt_of_lt_of_le hl I.len), r⟩
      · rw [List.getElem?_eq_none (by rw [List.length_set]; omega)] at h
        cases h
    · rw [List.getElem?_set_ne (fun z => hj z.symm)] at h ⊢
      exact I.val j d' h
  own := fun j xs h => by
    by_cases hj : j = i
    · subst hj
      by_cases hl : j < fr.length
      · rw [List.getElem?_set_self hl] at h; cases h
      · rw [List.getElem?_eq_none (by rw [List.length_set]; omega)] at h
        cases h
    · rw [List.getElem?_set_ne (fun z => hj z.symm)] at h ⊢
      exact I.own j xs h
  sep := fun j k xs ys a h1 h2 h3 h4 => by
    have key : ∀ (j : Nat) (xs : List D), (fr.set i (Z.Slot.val d))[j]? = some (Z.Slot.own xs) → j ≠ i := fun j xs h z => by
      subst z
      by_cases hl : j < fr.length
      · rw [List.getElem?_set_self hl] at h; cases h
      · rw [List.getElem?_eq_none (by rw [List.length_set]; omega)] at h
        cases h
    have a1 := key j xs h1
    have a2 := key k ys h2
    rw [List.getElem?_set_ne (fun z => a1 z.symm)] at h1 h3
    rw [List.getElem?_set_ne (fun z => a2 z.symm)] at h2 h4
    exact I.sep j k xs ys a h1 h2 h3 h4
  lst := I.lst
  le := I.le
  pre := I.pre
  f0 := I.f0
theorem FrI.putAll {fr : Fr} {σ : L2.St} (I : FrI K G0 ρg F H0 ρ0 H ρ S fr σ O) : ∀ {as : List (Nat × D)} {vs : List V}, RepA K (del H (ow O false F) ρ) ρ vs (as.map (·.2)) →
    FrI K G0 ρg F H0 ρ0 H ρ S (setAll fr (as.map fun p => (p.1, Slot.val p.2))) (setAll σ ((as.map (·.1)).zip (vs.map some))) O
  | [], _, r => by cases r; exact I
  | (i, d) :: as, _, r => by
    cases r with
    | cons r1 r2 => exact FrI.putAll (I.put r1) r2
/-- a new list of one's own -/
theorem FrI.putOwn (I : FrI K G0 ρg F H0 ρ0 H ρ S fr σ O) {i : Nat} {p : Addr} (hp : H p = none) {vs : List V} {ds : List D} (r : RepA K (del H (ow O false F) ρ) ρ vs ds) (hz : ds.length ≤ sizeLine) :
    FrI K G0 ρg F H0 ρ0 (upd H p (.lst vs)) ρ S (fr.set i (Z.Slot.own ds)) (σ.set i (some (.ref p))) (p :: O) := by
  have le1 : Le (del H (ow O false F) ρ) (del (upd H p (.lst vs)) (ow (p :: O) false F) ρ) := le_own hp _ _
  have np : ∀ a ∈ O, a ≠ p := fun a m z => by
    obtain ⟨⟨vs, h⟩, _⟩ := I.lst a m
    rw [z, hp] at h
    cases h
  refine ⟨?_, I.wf.laidOwn hp _, by rw [List.length_set, List.length_set]; exact I.len, fun j d' h => ?_, fun j xs h => ?_, fun j k xs ys a h1 h2 h3 h4 => ?_, fun a m => ?_, fun c o e => le1 c o (I.le c o e), I.pre, I.f0⟩
  · exact I.st.trans (I.st.wf.laid hp _)
  · by_cases hj : j = i
    · subst hj
      by_cases hl : j < fr.length
      · rw [List.getElem?_set_self hl] at h; cases h
      · rw [List.getElem?_eq_none (by rw [List.length_set]; omega)] at h
        cases h
    · rw [List.getElem?_set_ne (fun z => hj z.symm)] at h ⊢
      obtain ⟨v, h1, h2⟩ := I.val j d' h
      exact ⟨v, h1, Rep.le le1 List.prefix_rfl _ _ h2⟩
  · by_cases hj : j = i
    · subst hj
      by_cases hl : j < fr.length
      · rw [List.getElem?_set_self hl] at h
        cases h
        exact ⟨p, vs, List.getElem?_set_self (Nat.lt_of_lt_of_le hl I.len), List.mem_cons_self, upd_same, RepA.le le1 List.prefix_rfl _ _ r, hz⟩
      · rw [List.getElem?_eq_none (by rw [List.length_set]; omega)] at h
        cases h
    · rw [List.getElem?_set_ne (fun z => hj z.symm)] at h ⊢
      obtain ⟨a, us, h1, h2, h3, h4, h5⟩ := I.own j xs h
      exact ⟨a, us, h1, List.mem_cons_of_mem _ h2, by rw [upd_ne (np a h2)]; exact h3, RepA.le le1 List.prefix_rfl _ _ h4, h5⟩
  · have key : ∀ (j : Nat) (xs : List D), (fr.set i (Z.Slot.own ds))[j]? = some (Z.Slot.own xs) → (σ.set i (some (.ref p)))[j]? = some (some (.ref a)) → (j = i ∧ a = p) ∨ (j ≠ i ∧ a ≠ p ∧ fr[j]? = some (Z.Slot.own xs) ∧ σ[j]? = some (some (.ref a))) := fun j xs q1 q2 => by
      by_cases hj : j = i
      · subst hj
        refine .inl ⟨rfl, ?_⟩
        by_cases hl : j < σ.length
        · rw [List.getElem?_set_self hl] at q2; cases q2; rfl
        · rw [List.getElem?_eq_none (by rw [List.length_set]; omega)] at q2
          cases q2
      · rw [List.getElem?_set_ne (fun z => hj z.symm)] at q1 q2
        obtain ⟨a', us, g1, g2, _⟩ := I.own j xs q1
        rw [q2] at g1
        cases g1
        exact .inr ⟨hj, np a g2, q1, q2⟩
    rcases key j xs h1 h3 with ⟨e1, e2⟩ | ⟨n1, n2, q1, q2⟩
    · rcases key k ys h2 h4 with ⟨e3, _⟩ | ⟨_, n2, _, _⟩
      · rw [e1, e3]
      · exact absurd e2 n2
    · rcases key k ys h2 h4 with ⟨_, e⟩ | ⟨_, _, q3, q4⟩
      · exact absurd e n2
      · exact I.sep j k xs ys a q1 q3 q2 q4
  · rcases List.mem_cons.mp m with rfl | m
    · refine ⟨⟨vs, upd_same⟩, ?_⟩
      cases q : H0 a with
      | none => rfl
      | some o =>
        by_cases hr : a ∈ ρ0
        · have := I.st.pre.subset hr
          exact absurd hp (I.wf.tr a this)
        · rw [I.st.same a o q hr] at hp; cases hp
    · obtain ⟨⟨us, h1⟩, h2⟩ := I.lst a m
      exact ⟨⟨us, by rw [upd_ne (np a m)]; exact h1⟩, h2⟩
/-- a list of one's own is written -/
theorem FrI.write (I : FrI K G0 ρg F H0 ρ0 H ρ S fr σ O) {i : Nat} {xs : List D} {a : Addr} (h : fr[i]? = some (Z.Slot.own xs)) (hs : σ[i]? = some (some (.ref a))) {vs : List V} {ds : List D} (r : RepA K (del H (ow O false F) ρ) ρ vs ds) (hz : ds.length ≤ sizeLine) :
    FrI K G0 ρg F H0 ρ0 (upd H a (.lst vs)) ρ S (fr.set i (Z.Slot.own ds)) σ O := by
  obtain ⟨a', us, g1, g2, g3, g4, g5⟩ := I.own i xs h
  rw [hs] at g1
  cases g1
  have lk : (ow O false F).lookup a = some false := ow_in g2
  have le1 : Le (del H (ow O false F) ρ) (del (upd H a (.lst vs)) (ow O false F) ρ) := le_poke lk _
  have w1 : Wf K (upd H a (.lst vs)) (ow O false F) ρ S := I.wf.poke lk _
  have hl : i < fr.length := (List.getElem?_eq_some_iff.mp h).1
  refine ⟨I.st.poke (I.lst a g2).2 w1.weakO, w1, by rw [List.length_set]; exact I.len, fun j d' q => ?_, fun j ys q => ?_, fun j k ys zs b h1 h2 h3 h4 => ?_, fun b m => ?_, fun c o e => le1 c o (I.le c o e), I.pre, I.f0⟩
  · by_cases hj : j = i
    · subst hj
      rw [List.getElem?_set_self hl] at q; cases q
    · rw [List.getElem?_set_ne (fun z => hj z.symm)] at q
      obtain ⟨v, h1, h2⟩ := I.val j d' q
      exact ⟨v, h1, Rep.le le1 List.prefix_rfl _ _ h2⟩
  · by_cases hj : j = i
    · subst hj
      rw [List.getElem?_set_self hl] at q
      cases q
      exact ⟨a, vs, hs, g2, upd_same, RepA.le le1 List.prefix_rfl _ _ r, hz⟩
    · rw [List.getElem?_set_ne (fun z => hj z.symm)] at q
      obtain ⟨b, ws, h1, h2, h3, h4, h5⟩ := I.own j ys q
      have nb : b ≠ a := fun z => hj (I.sep j i ys xs a q h (z ▸ h1) hs)
      exact ⟨b, ws, h1, h2, by rw [upd_ne nb]; exact h3, RepA.le le1 List.prefix_rfl _ _ h4, h5⟩
  · have key : ∀ (j : Nat) (ys : List D), (fr.set i (Z.Slot.own ds))[j]? = some (Z.Slot.own ys) → ∃ zs, fr[j]? = some (Z.Slot.own zs) := fun j ys q => by
      by_cases hj : j = i
      · subst hj; exact ⟨xs, h⟩
      · rw [List.getElem?_set_ne (fun z => hj z.symm)] at q; exact ⟨ys, q⟩
    obtain ⟨_, k1⟩ := key j ys h1
    obtain ⟨_, k2⟩ := key k zs h2
    exact I.sep j k _ _ b k1 k2 h3 h4
  · obtain ⟨⟨ws, h1⟩, h2⟩ := I.lst b m
    by_cases hb : b = a
    · subst hb; exact ⟨⟨vs, upd_same⟩, h2⟩
    · exact ⟨⟨ws, by rw [upd_ne hb]; exact h1⟩, h2⟩
/-- a list of one's own becomes a value -/
theorem FrI.frz (I : FrI K G0 ρg F H0 ρ0 H ρ S fr σ O) {i : Nat} {xs : List D} (h : fr[i]? = some (Z.Slot.own xs)) : ∃ O', FrI K G0 ρg F H0 ρ0 H ρ S (fr.set i (Z.Slot.val (.lst xs))) σ O' := by
  obtain ⟨a, vs, g1, g2, g3, g4, g5⟩ := I.own i xs h
  have hl : i < fr.length := (List.getElem?_eq_some_iff.mp h).1
  have hm : ∀ b, b ∈ O.filter (fun b => decide (b ≠ a)) ↔ b ∈ O ∧ b ≠ a := fun b => by simp
  have nF : F.lookup a = none := I.nF I.f0 (I.lst a g2).2
  have le1 : Le (del H (ow O false F) ρ) (del H (ow (O.filter fun b => decide (b ≠ a)) false F) ρ) := fun c o e => by
    refine del_same e fun n _ => ⟨n, ?_, rfl⟩
    have hc : c ∉ O := fun m => by
      obtain ⟨_, q | ⟨q, _⟩⟩ := del_cases e
      · rw [ow_in m] at q; cases q.1
      · rw [ow_in m] at q; cases q
    rw [ow_out hc, ow_out fun m => hc ((hm c).mp m).1]
  have na : a ∉ ρ := (I.wf.fd (a, false) (ow_mem.mpr (.inl ⟨g2, rfl⟩))).2
  have w1 : Wf K H (ow (O.filter fun b => decide (b ≠ a)) false F) ρ S :=
    ⟨I.wf.len, I.wf.nd, fun n a o e1 e2 => OB.le le1 List.prefix_rfl rfl (I.wf.at_ n a o e1 e2), fun q m => by
      rcases ow_mem.mp m with ⟨m, e⟩ | m
      · exact I.wf.fd q (ow_mem.mpr (.inl ⟨((hm _).mp m).1, e⟩))
      · exact I.wf.fd q (ow_mem.mpr (.inr m))⟩
  refine ⟨O.filter fun b => decide (b ≠ a), I.st, w1, by rw [List.length_set]; exact I.len, fun j d' q => ?_, fun j ys q => ?_, fun j k ys zs b h1 h2 h3 h4 => ?_, fun b m => I.lst b ((hm b).mp m).1, fun c o e => le1 c o (I.le c o e), I.pre, I.f0⟩
  · by_cases hj : j = i
    · subst hj
      rw [List.getElem?_set_self hl] at q
      cases q
      refine ⟨_, g1, .lst ?_ (RepA.le le1 List.prefix_rfl _ _ g4) g5⟩
      rw [del_at na (by rw [ow_out (fun m => ((hm a).mp m).2 rfl)]; exact nF)]
      exact g3
    · rw [List.getElem?_set_ne (fun z => hj z.symm)] at q
      obtain ⟨v, h1, h2⟩ := I.val j d' q
      exact ⟨v, h1, Rep.le le1 List.prefix_rfl _ _ h2⟩
  · by_cases hj : j = i
    · subst hj
      rw [List.getElem?_set_self hl] at q; cases q
    · rw [List.getElem?_set_ne (fun z => hj z.symm)] at q
      obtain ⟨b, ws, h1, h2, h3, h4, h5⟩ := I.own j ys q
      have nb : b ≠ a := fun z => hj (I.sep j i ys xs a q h (z ▸ h1) g1)
      exact ⟨b, ws, h1, (hm b).mpr ⟨h2, nb⟩, h3, RepA.le le1 List.prefix_rfl _ _ h4, h5⟩
  · have key : ∀ (j : Nat) (ys : List D), (fr.set i (Z.Slot.val (.lst xs)))[j]? = some (Z.Slot.own ys) → fr[j]? = some (Z.Slot.own ys) := fun j ys q => by
      by_cases hj : j = i
      · subst hj; rw [List.getElem?_set_self hl] at q; cases q
      · rw [List.getElem?_set_ne (fun z => hj z.symm)] at q; exact q
    exact I.sep j k _ _ b (key j ys h1) (key k zs h2) h3 h4
end
end Z

/-! Z16: statements -/
namespace Z
open PySem PySem.Spec PyProof.Rows L2
/-! ### what is asked of the text -/
def noComp : Expr → Bool
  | .ListComp _ _ _ _ => false
  | .SetComp _ _ _ _ => false
  | .DictComp _ _ _ _ _ => false
  | _ => true
def noSlice : Expr → Bool
  | .Slice _ _ _ _ => false
  | _ => true
/-- the pair is stored in order -/
def swapNone : Expr → Expr → Bool
  | .Tuple ts _ _, .Tuple vs _ _ => vs.all (foldedForSure 8) && !(vs.any fun | .Starred .. => true | _ => false) || !(ts.length == 2 || ts.length == 3) || vs.length != ts.length
  | .List _ _, _ => false
  | _, _ => true
def nmIs (N : List Str) (i : Nat) : Expr → Option Str
  | .Name x _ => if N[i]? = some x then some x else none
  | _ => none
/-- name = [.. for ..] on one line -/
def swapC (sc : Scope) (t ex : Expr) (line : Nat) : Bool := match t, ex with
  | .Name y py, .ListComp _ _ scope pos => decide (sc.names.lookup y = some .local) && (py.line == pos.line) && !(scope.names.any fun (n, k) => n == y && (k == .local || k == .cell))
  | _, _ => false
/-- a, b = c, d by names -/
def parN (sc : Scope) (N : List Str) : List Nat → List Expr → Bool
  | [i, j], [.Name x _, .Name y _] => decide (N[i]? = some x) && decide (N[j]? = some y) && decide (i ≠ j) && decide (sc.names.lookup x = some .local) && decide (sc.names.lookup y = some .local)
  | _, _ => false
def parOk (sc : Scope) (N : List Str) (is : List Nat) (t ex : Expr) : Option (List Expr) := match t, ex with
  | .Tuple [.Name x px, .Name y py] _ _, .Tuple [a, b] _ _ => (match is with
    | [i, j] => if decide (N[i]? = some x) && decide (N[j]? = some y) && decide (i ≠ j) && decide (sc.names.lookup x = some .local) && decide (sc.names.lookup y = some .local) && (py.line == px.line) && !(x == y) && !(y == x)
        && !(foldedForSure 8 a && foldedForSure 8 b) && !(constantsAlone 8 a && constantsAlone 8 b) && noStar a && noStar b then some [a, b] else none
    | _ => none)
  | .Tuple [.Name x px, .Name y py, .Name z pz] _ _, .Tuple [a, b, c] _ _ => (match is with
    | [i, j, l] => if decide (N[i]? = some x) && decide (N[j]? = some y) && decide (N[l]? = some z) && decide (i ≠ j) && decide (i ≠ l) && decide (j ≠ l) && decide (sc.names.lookup x = some .local) && decide (sc.names.lookup y = some .local) && decide (sc.names.lookup z = some .local) && (py.line == px.line) && (pz.line == px.line)
        && (([x, y, z] : List Str).eraseDups.length == 3) && !([a, b, c].all (foldedForSure 8)) && !([a, b, c].all (constantsAlone 8)) && noStar a && noStar b && noStar c then some [a, b, c] else none
    | _ => none)
  | _, _ => none
mutual
def chkC (cf : Cfg) (N : List Str) (sc : Scope) : Cmd → Stmt → Bool
  | .asg _ tg e, st => (match st with
    | .Assign [t] ex pos => noStar t && chkT (locOf sc) N tg t && chkE cf N sc e ex && (noComp ex && swapNone t ex || swapC sc t ex pos.line)
    | _ => false)
  | .own i es, st => (match st with
    | .Assign [.Name x _] (.List xs _) _ => decide (N[i]? = some x) && locOf sc x && chkEs cf N sc es xs
    | _ => false)
  | .app _ i e, st => (match st with
    | .Expr (.Call (.Attribute (.Name x _) m ap) [ex] [] p) _ => m == "append" && decide (N[i]? = some x) && visOf sc x && okName x && (ap.endLine == p.line) && chkE cf N sc e ex
    | _ => false)
  | .setIx o i v, st => (match st with
    | .Assign [.Subscript o' i' _] v' _ => chkE cf N sc o o' && chkE cf N sc i i' && chkE cf N sc v v' && noSlice i'
    | _ => false)
  | .putIx _ i j v, st => (match st with
    | .Assign [.Subscript (.Name x _) j' _] v' _ => decide (N[i]? = some x) && visOf sc x && okName x && chkE cf N sc j j' && chkE cf N sc v v' && noSlice j'
    | _ => false)
  | .par _ is es, st => (match st with
    | .Assign [t] ex _ => (match parOk sc N is t ex with
      | some xs => chkEs cf N sc es xs
      | none => false)
    | _ => false)
  | .ifs _ t a b, st => (match st with
    | .If t' a' b' _ => tst t && chkE cf N sc t t' && chkCs cf N sc a a' && chkCs cf N sc b b'
    | _ => false)
  | .for_ tg k es body, st => (match st with
    | .For tgx it body' [] _ => chkT (locOf sc) N tg tgx && noSet it && chkCs cf N sc body body' && (match srcView sc tgx it k with
      | some xs => chkEs cf N sc es xs
      | none => false)
    | _ => false)
  | .ret _ e, st => (match st with
    | .Return (some ex) _ => chkE cf N sc e ex
    | _ => false)
  | .expr _ e, st => (match st with
    | .Expr ex _ => noComp ex && chkE cf N sc e ex
    | _ => false)
  | .frz _, _ => false
  | .brk, st => (match st with
    | .Break _ => true
    | _ => false)
  | .cnt, st => (match st with
    | .Continue _ => true
    | _ => false)
  | .pass, st => (match st with
    | .Pass _ => true
    | .Expr (.Constant (.str _) _ _) _ => true
    | _ => false)
  | .dead, _ => true
  | .whl _ _ t body, st => (match st with
    | .While t' body' [] _ => tst t && chkE cf N sc t t' && chkCs cf N sc body body'
    | _ => false)
def chkCs (cf : Cfg) (N : List Str) (sc : Scope) : List Cmd → List Stmt → Bool
  | [], sts => sts.isEmpty
  | c :: cs, sts => (match c with
    | .frz _ => chkCs cf N sc cs sts
    | _ => (match sts with
      | st :: sts => chkC cf N sc c st && chkCs cf N sc cs sts
      | [] => false))
end
/-- what is asked of a context that statements run in -/
structure YOk (cf : Cfg) (gl : Nat → Option D) (cal : Nat → List D → M D) (N : List Str) (X : Cx) : Prop extends XOk cf gl cal N X where
  kind : X.env.scope.kind = .function
  fn : X.fn = fun _ => true
  own : PassesOwn (model X.prog X.w) X.A X.env X.xe
section
variable {cf : Cfg} {gl : Nat → Option D} {cal : Nat → List D → M D} {N : List Str} {X : Cx}
theorem swap_no {ex : Expr} {t : Expr} {line : Nat} {env : PySem.Env} (h : noComp ex = true) : swapsWithSole [t] ex line env = pure false := by
  cases ex <;> first | rfl | cases h
theorem swap_noE {ex : Expr} {line : Nat} {env : PySem.Env} (h : noComp ex = true) : swapsWith ex none line env = pure false := by
  cases ex <;> first | rfl | cases h
theorem swapNone_ok {t ex : Expr} {env : PySem.Env} (h : swapNone t ex = true) : swappedStores [t] ex env = pure none := by
  unfold swapNone at h
  split at h
  · rename_i ts k1 p1 vs k2 p2
    unfold swappedStores
    simp only []
    by_cases c1 : (!(ts.length == 2 || ts.length == 3) || vs.length != ts.length || env.blockKind != ScopeKind.function) = true
    · rw [if_pos c1]
    · rw [if_neg c1]
      simp only [Bool.or_eq_true, Bool.and_eq_true] at h c1
      have hf : vs.all (foldedForSure 8) = true := by
        rcases h with (h | h) | h
        · exact h.1
        · exact absurd (.inl (.inl h)) c1
        · exact absurd (.inl (.inr h)) c1
      rw [if_pos hf]
      split
      · rfl
      · split <;> rfl
  · cases h
  · unfold swappedStores
    cases t <;> cases ex <;> first | rfl | (rename_i h1 _ _ _ h2; first | exact (h1 _ _ rfl).elim | exact (h2 _ _ _ _ _ _ rfl rfl).elim)
theorem swapC_ok {t ex : Expr} {line : Nat} {env : PySem.Env} (hk : env.scope.kind = .function) (h : swapC env.scope t ex line = true) : ∃ y py elt gs scope pos, t = .Name y py ∧ ex = .ListComp elt gs scope pos ∧ env.scope.names.lookup y = some .local ∧ swapsWith ex (some t) line env = pure true := by
  unfold swapC at h
  split at h
  · rename_i y py elt gs scope pos
    simp only [Bool.and_eq_true, decide_eq_true_eq, Bool.not_eq_true'] at h
    exact ⟨y, py, elt, gs, scope, pos, rfl, rfl, h.1.1, sw_true hk h.1.1 h.1.2 h.2⟩
  · cases h
theorem par_sw {x y : Str} {px py pt pt2 : Pos} {kt k2 : Nat} {a b : Expr} {env : PySem.Env} (hk : env.scope.kind = .function) (hx : env.scope.names.lookup x = some .local) (hy : env.scope.names.lookup y = some .local) (hl : (py.line == px.line) = true) (hn : (x == y) = false) (hn2 : (y == x) = false)
    (hf : (foldedForSure 8 a && foldedForSure 8 b) = false) (hc : (constantsAlone 8 a && constantsAlone 8 b) = false) (ha : noStar a = true) (hb : noStar b = true) :
    swappedStores [.Tuple [.Name x px, .Name y py] kt pt] (.Tuple [a, b] k2 pt2) env = pure (some [x, y]) := by
  have kx : env.kindOf x = some .local := hx
  have ky : env.kindOf y = some .local := hy
  have hb2 : env.blockKind = .function := by unfold Env.blockKind; rw [hk]; rfl
  have lx : (px.line == px.line) = true := by simp
  have st : ([a, b].any fun | .Starred .. => true | _ => false) = false := by
    cases a <;> cases b <;> first | rfl | exact absurd ha Bool.false_ne_true | exact absurd hb Bool.false_ne_true
  unfold swappedStores
  simp only [List.length_cons, List.length_nil, hb2]
  rw [if_neg (by decide)]
  have st2 : ¬ ([a, b].any fun | .Starred .. => true | _ => false) = true := by rw [st]; exact Bool.false_ne_true
  have nm : (List.filterMap (fun x_1 => match x_1 with
      | Expr.Name id pos => if (env.kindOf id == some NameKind.local && pos.line == (Option.map (fun x => x.pos.line) [Expr.Name x px, Expr.Name y py].head?).getD 0) = true then some id else none
      | x => none) [Expr.Name x px, Expr.Name y py]) = [x, y] := by
    simp only [List.filterMap_cons, List.filterMap_nil, List.head?_cons, Option.map_some, Option.getD_some, Expr.pos, kx, ky, lx, hl]
    rfl
  have ed : [x, y].eraseDups = [x, y] := by
    simp [List.eraseDups_cons, hn, hn2]
  split
  · exact absurd ‹_› (by rename_i z; exact fun _ => st2 z)
  · split
    · rename_i z
      exfalso
      erw [nm] at z
      rw [ed] at z
      simp at z
    · have f2 : ¬ [a, b].all (foldedForSure 8) = true := by simp [hf]
      have c2 : ¬ [a, b].all (constantsAlone 8) = true := by simp [hc]
      rw [if_neg f2, if_neg c2]
      erw [nm]
theorem any_star : ∀ es : List Expr, es.all noStar = true → (es.any fun | .Starred .. => true | _ => false) = false
  | [], _ => rfl
  | e :: es, h => by
    simp only [List.all_cons, Bool.and_eq_true] at h
    rw [List.any_cons, any_star es h.2, Bool.or_false]
    have h1 := h.1
    cases e <;> first | rfl | exact absurd h1 Bool.false_ne_true
theorem par_sw3 {x y z : Str} {px py pz pt pt2 : Pos} {kt k2 : Nat} {a b c : Expr} {env : PySem.Env} (hk : env.scope.kind = .function) (hx : env.scope.names.lookup x = some .local) (hy : env.scope.names.lookup y = some .local) (hz : env.scope.names.lookup z = some .local) (hl : (py.line == px.line) = true) (hl2 : (pz.line == px.line) = true)
    (hn : (([x, y, z] : List Str).eraseDups.length == 3) = true) (hf : ([a, b, c].all (foldedForSure 8)) = false) (hc : ([a, b, c].all (constantsAlone 8)) = false) (ha : noStar a = true) (hb : noStar b = true) (hc2 : noStar c = true) :
    swappedStores [.Tuple [.Name x px, .Name y py, .Name z pz] kt pt] (.Tuple [a, b, c] k2 pt2) env = pure (some [x, y, z]) := by
  have kx : env.kindOf x = some .local := hx
  have ky : env.kindOf y = some .local := hy
  have kz : env.kindOf z = some .local := hz
  have hb2 : env.blockKind = .function := by unfold Env.blockKind; rw [hk]; rfl
  have lx : (px.line == px.line) = true := by simp
  have st : ([a, b, c].any fun | .Starred .. => true | _ => false) = false := any_star _ (by simp only [List.all_cons, List.all_nil, ha, hb, hc2, Bool.and_true])
  unfold swappedStores
  simp only [List.length_cons, List.length_nil, hb2]
  rw [if_neg (by decide)]
  have st2 : ¬ ([a, b, c].any fun | .Starred .. => true | _ => false) = true := by rw [st]; exact Bool.false_ne_true
  have nm : (List.filterMap (fun x_1 => match x_1 with
      | Expr.Name id pos => if (env.kindOf id == some NameKind.local && pos.line == (Option.map (fun x => x.pos.line) [Expr.Name x px, Expr.Name y py, Expr.Name z pz].head?).getD 0) = true then some id else none
      | x => none) [Expr.Name x px, Expr.Name y py, Expr.Name z pz]) = [x, y, z] := by
    simp only [List.filterMap_cons, List.filterMap_nil, List.head?_cons, Option.map_some, Option.getD_some, Expr.pos, kx, ky, kz, lx, hl, hl2]
    rfl
  have ed : ([x, y, z] : List Str).eraseDups.length = 3 := eq_of_beq hn
  split
  · exact absurd ‹_› (by rename_i z; exact fun _ => st2 z)
  · split
    · rename_i z
      exfalso
      erw [nm] at z
      rw [ed] at z
      simp at z
    · have f2 : ¬ [a, b, c].all (foldedForSure 8) = true := by rw [hf]; exact Bool.false_ne_true
      have c2 : ¬ [a, b, c].all (constantsAlone 8) = true := by rw [hc]; exact Bool.false_ne_true
      rw [if_neg f2, if_neg c2]
      erw [nm]
end
end Z

/-! Z17: every statement that passes the check does what the small language says -/
namespace Z
open PySem PySem.Spec PyProof.Rows L2
theorem PS.imp {X : Cx} {e : Stmt} {t t' : TS} (h : PS X e t) (i : ∀ D σ H, t' D σ H → t D σ H) : PS X e t' := ⟨fun pins s σ H D I q => h.run pins s σ H D I (i _ _ _ q)⟩
theorem PSs.imp {X : Cx} {e : List Stmt} {t t' : TS} (h : PSs X e t) (i : ∀ D σ H, t' D σ H → t D σ H) : PSs X e t' := ⟨fun pins s σ H D I q => h.run pins s σ H D I (i _ _ _ q)⟩
section
variable {cf : Cfg} {gl : Nat → Option D} {cal : Nat → List D → M D} {N : List Str} {X : Cx}
theorem loc_ok (y : YOk cf gl cal N X) {x : Str} (h : locOf X.env.scope x = true) : L2.Loc X.env.scope x ∧ (X.fn x = true ∨ X.env.scope.names.lookup x = some .local) := by
  refine ⟨?_, .inl (by rw [y.fn])⟩
  unfold locOf at h
  unfold L2.Loc
  cases q : X.env.scope.names.lookup x with
  | none => rw [q] at h; cases h
  | some k =>
    rw [q] at h
    cases k with
    | «local» => exact .inl rfl
    | cell => exact .inr rfl
    | _ => cases h
theorem storeT_some {t : Tg} {d : D} {fr fr' : Fr} (h : storeT t d fr = some fr') : ∃ as, assigns t d = some as ∧ fr' = setAll fr (as.map fun p => (p.1, Slot.val p.2)) := by
  unfold storeT at h
  obtain ⟨as, h1, h2⟩ := Option.map_eq_some_iff.mp h
  exact ⟨as, h1, h2.symm⟩
section
variable {K : PySem.W.Frag} {G0 H0 H : Hp} {ρg ρ0 ρ : List Addr} {F : Fs} {S : Store} {fr : Fr} {σ : L2.St} {O : List Addr} {E : Ends}
/-- a value stored by a target, in a frame -/
theorem FrI.target (I : FrI K G0 ρg F H0 ρ0 H ρ S fr σ O) {tg : Tg} {d : D} {v : V} {as : List (Nat × D)} (r : Rep K (del H (ow O false F) ρ) ρ v d) (ha : assigns tg d = some as) {Q : L2.St → Hp → Prop}
    (q : ∀ σ', FrI K G0 ρg F H0 ρ0 H ρ S (setAll fr (as.map fun p => (p.1, Slot.val p.2))) σ' O → Q σ' H) : gT K tg v σ H Q :=
  ⟨ow O false F, ρ, S, d, as, I.wf, r, ha, fun vs rv => q _ (I.putAll rv)⟩
theorem asg_t {m : Bool} {tg : Tg} {e : Z.E} (σ : L2.St) (H : Hp) (h : tS K (exec gl cal (.asg m tg e)) E σ H) : tAsg (tE K (evalE gl cal e)) (gT K tg) E σ H := by
  obtain ⟨G0, ρg, F, H0, ρ0, ρ, S, fr, O, I, p⟩ := h
  simp only [exec] at p
  obtain ⟨d, S1, h1, p⟩ := PostS.bind p
  refine I.read h1 fun v H1 ρ1 I1 r => ?_
  cases hs : storeT tg d fr with
  | none => rw [hs] at p; exact p.elim
  | some fr' =>
    rw [hs] at p
    obtain ⟨as, ha, rfl⟩ := storeT_some hs
    exact I1.target r ha fun σ' I2 => p σ' H1 ρ1 O I2
theorem FrI.ret (I : FrI K G0 ρg F H0 ρ0 H ρ S fr σ O) {d : D} {v : V} (r : Rep K (del H (ow O false F) ρ) ρ v d) (p : PostS K G0 ρg F H0 ρ0 E (.ok (.ret d) S)) : E.rt v H := p v H ρ I.st (Rep.le le_weakO List.prefix_rfl _ _ r)
end
theorem assigns_name {i : Nat} {d : D} : assigns (.name i) d = some [(i, d)] := by simp only [assigns]
theorem for_t {K : PySem.W.Frag} {tg : Tg} {k : SK} {es : List Z.E} {body : List Cmd} {E : Ends} (σ : L2.St) (H : Hp) (h : tS K (exec gl cal (.for_ tg k es body)) E σ H) :
    tFor (tI K fun env => M.bind (evalEs gl cal es env) (srcItems k)) (gT K tg) (tS K (execs gl cal body)) E σ H := by
  obtain ⟨G0, ρg, F, H0, ρ0, ρ, S, fr, O, I, p⟩ := h
  simp only [exec, ← M.bind_assoc] at p
  obtain ⟨items, S1, h1, p⟩ := PostS.bind p
  refine ⟨ow O false F, ρ, S, fr.env false, I.wf, I.env false, ?_⟩
  show PostI K (ow O false F) H ρ _ (M.bind (evalEs gl cal es (Fr.env false fr)) (srcItems k) S)
  rw [h1]
  intro J H1 ρ1 s its
  obtain ⟨hz, its⟩ := its
  have I1 := I.step s
  let f : D → Fr → M Out := fun x fr => match storeT tg x fr with
    | some fr' => execs gl cal body fr'
    | none => M.stk
  let Iv : Nat → L2.St → Hp → Prop := fun i σ H => ∃ ρ S fr O', FrI K (del H1 (ow O false F) ρ1) ρ1 F H0 ρ0 H ρ S fr σ O' ∧ PostS K G0 ρg F H0 ρ0 E (forLoop f (items.drop i) fr S)
  refine ⟨fun i m σ H => m = items.length - i ∧ i ≤ items.length ∧ Iv i σ H, ⟨items.length, by simp, Nat.zero_le _, ρ1, S1, fr, O, I1.base, p⟩, ?_⟩
  rintro i m σ H ⟨rfl, hi, ρ2, S2, fr2, O2, I2, p2⟩
  have nx : Nxt K (ow O false F) H1 ρ1 (ow O2 false F) H ρ2 S2 := ⟨I2.wf, I2.le, I2.pre⟩
  obtain ⟨g1, g2, g3⟩ := its _ _ _ _ nx
  by_cases hlt : i < items.length
  · refine .inr ⟨g1 i hlt, Iv (i + 1), fun σ' H' iv => ⟨items.length - (i + 1), by omega, rfl, hlt, iv⟩, fun x H2 y => ?_⟩
    obtain ⟨d, hd, st2, rx⟩ := g3 i x H2 hlt y
    have hdrop : items.drop i = d :: items.drop (i + 1) := by
      obtain ⟨e1, e2⟩ := List.getElem?_eq_some_iff.mp hd
      rw [← e2]
      exact List.drop_eq_getElem_cons e1
    rw [hdrop] at p2
    simp only [forLoop] at p2
    obtain ⟨o, S3, h3, p3⟩ := PostS.bind p2
    have h3 : (match storeT tg d fr2 with
      | some fr' => execs gl cal body fr'
      | none => M.stk) S2 = .ok o S3 := h3
    cases hs : storeT tg d fr2 with
    | none => rw [hs] at h3; cases h3
    | some fr' =>
      rw [hs] at h3
      have h3 : execs gl cal body fr' S2 = .ok o S3 := h3
      obtain ⟨as, ha, rfl⟩ := storeT_some hs
      have I3 := I2.step st2
      refine I3.target rx ha fun σ' I4 => ?_
      refine ⟨_, _, F, H0, ρ0, ρ2, S2, _, O2, I4, ?_⟩
      rw [h3]
      cases o with
      | nx fr3 => exact fun σ H ρ O I5 => ⟨ρ, S3, fr3, O, I5, p3⟩
      | ct fr3 => exact fun σ H ρ O I5 => ⟨ρ, S3, fr3, O, I5, p3⟩
      | bk fr3 => exact fun σ H ρ O I5 => p3 σ H ρ O (I5.weakG I1.le I1.pre)
      | ret d => exact p3
  · have e : i = items.length := by omega
    subst e
    rw [List.drop_length] at p2
    exact .inl ⟨g2, p2 σ H ρ2 O2 (I2.weakG I1.le I1.pre)⟩
theorem append_ok {i : Nat} {m : Bool} {e : Z.E} {x : Str} {ex : Expr} {p1 ap p pos : Pos} (hN : X.N[i]? = some x) (hv : visOf X.env.scope x = true) (hn : okName x = true) (hl : (ap.endLine == p.line) = true) (h : SndOk gl cal X e ex) :
    PS X (.Expr (.Call (.Attribute (.Name x p1) "append" ap) [ex] [] p) pos) (tS X.K (exec gl cal (.app m i e))) := by
  obtain ⟨n1, n2, _⟩ := okName_of hn
  refine PS.imp (ps_expr (pe_bm F.plainAttrs_list F.slot_list_append F.type_list_append mt_append (pe_var hN (vis_of hv) n1 n2) (pa_cons h.pe pa_nil (star_one h.star)) (by rw [base_one rfl]) (by rw [star_one h.star]; rfl) hl (star_one h.star) rfl) rfl) ?_
  rintro E σ H ⟨G0, ρg, F, H0, ρ0, ρ, S, fr, O, I, q⟩
  simp only [exec] at q
  obtain ⟨d, S1, h1, q⟩ := PostS.bind q
  cases hf : fr[i]? with
  | none => rw [hf] at q; exact q.elim
  | some sl =>
    cases sl with
    | own xs =>
      rw [hf] at q
      have q : PostS X.K G0 ρg F H0 ρ0 E ((if xs.length < sizeLine then M.ret (Out.nx (fr.set i (.own (xs ++ [d])))) else M.stk) S1) := q
      by_cases hz : xs.length < sizeLine
      · rw [if_pos hz] at q
        obtain ⟨a, vs, g1, g2, g3, g4, g5⟩ := I.own i xs hf
        refine ⟨_, g1, .inl ⟨rfl, vs, .inl (.inl g3)⟩, I.read h1 fun v H1 ρ1 I1 r => ?_⟩
        obtain ⟨a', vs', k1, k2, k3, k4, k5⟩ := I1.own i xs hf
        rw [g1] at k1
        cases k1
        refine ⟨a, vs', v, rfl, rfl, k3, by rw [k4.length]; exact hz, ?_⟩
        exact q _ _ _ _ (I1.write hf g1 (k4.append (.cons r .nil)) (by rw [List.length_append]; exact hz))
      · rw [if_neg hz] at q
        exact q.elim
    | _ => rw [hf] at q; exact q.elim
theorem sub_rfl {o i : Expr} {pos : Pos} {env : PySem.Env} (h : noSlice i = true) (v : Value) : assign (.Subscript o i pos) env v = (do
      let ov ← holding [v] (eval o env)
      let iv ← holding [v, ov] (eval i env)
      standAt pos
      holding [v, ov, iv] (setItem ov iv v)
      release [v, ov, iv] []) := by
  cases i <;> first | rfl | cases h
theorem setIx_ok {o i v : Z.E} {o' i' v' : Expr} {p pos : Pos} (h1 : SndOk gl cal X o o') (h2 : SndOk gl cal X i i') (h3 : SndOk gl cal X v v') (hi : noSlice i' = true) :
    PS X (.Assign [.Subscript o' i' p] v' pos) (tS X.K (exec gl cal (.setIx o i v))) := by
  refine PS.imp (ps_asg h3.pe (pg_sub h1.pe h2.pe set_list (fun u => sub_rfl hi u)) (by cases v' <;> rfl) (by cases v' <;> rfl) rfl) ?_
  rintro E σ H ⟨G0, ρg, F, H0, ρ0, ρ, S, fr, O, I, q⟩
  simp only [exec] at q
  obtain ⟨d, S1, e1, q⟩ := PostS.bind q
  obtain ⟨a, S2, e2, q⟩ := PostS.bind q
  obtain ⟨j, S3, e3, q⟩ := PostS.bind q
  refine I.readL e1 fun vv H1 ρ1 I1 r1 l1 p1 => I1.readL e2 fun va H2 ρ2 I2 r2 l2 p2 => I2.readL e3 fun vj H3 ρ3 I3 r3 l3 p3 => ?_
  obtain ⟨_, _, hd, hd2⟩ := res_bind e1
  obtain ⟨rfl, rfl, hcl⟩ := fit_ok hd2
  have r1 := Rep.le l3 p3 _ _ (Rep.le l2 p2 _ _ r1)
  have r2 := Rep.le l3 p3 _ _ r2
  cases r2 with
  | @loc ad n hn =>
    cases r3 with
    | int j =>
      have q : PostS X.K G0 ρg F H0 ρ0 E (match S3[n]? with
        | some (.lst xs) => (match L2.ixN xs.length j with
          | some q => .ok (.nx fr) (S3.set n (.lst (xs.set q d)))
          | none => .stuck)
        | _ => .stuck) := q
      cases hS : S3[n]? with
      | none => rw [hS] at q; exact q.elim
      | some o =>
        cases o with
        | lst xs =>
          rw [hS] at q
          have q : PostS X.K G0 ρg F H0 ρ0 E (match L2.ixN xs.length j with
            | some q => .ok (.nx fr) (S3.set n (.lst (xs.set q d)))
            | none => .stuck) := q
          obtain ⟨vs, g1, g2, g3, g4⟩ := I3.wf.at_ n ad _ hn hS
          cases hj : L2.ixN xs.length j with
          | none => rw [hj] at q; exact q.elim
          | some k =>
            rw [hj] at q
            refine ⟨ad, vs, j, k, rfl, rfl, g1, by rw [g2.length]; exact hj, ?_⟩
            exact q _ _ _ _ (I3.sto hn (g2.set r1 k) (by rw [List.length_set]; exact g3) (clns_set k g4 (hcl rfl)))
    | _ => exact q.elim
  | _ => cases r3 <;> exact q.elim
theorem putIx_ok {m : Bool} {i : Nat} {x : Str} {j v : Z.E} {j' v' : Expr} {p1 p pos : Pos} (hN : X.N[i]? = some x) (hv : visOf X.env.scope x = true) (hn : okName x = true) (h2 : SndOk gl cal X j j') (h3 : SndOk gl cal X v v') (hi : noSlice j' = true) :
    PS X (.Assign [.Subscript (.Name x p1) j' p] v' pos) (tS X.K (exec gl cal (.putIx m i j v))) := by
  obtain ⟨n1, n2, _⟩ := okName_of hn
  refine PS.imp (ps_asg h3.pe (pg_sub (pe_var hN (vis_of hv) n1 n2) h2.pe set_list (fun u => sub_rfl hi u)) (by cases v' <;> rfl) (by cases v' <;> rfl) rfl) ?_
  rintro E σ H ⟨G0, ρg, F, H0, ρ0, ρ, S, fr, O, I, q⟩
  simp only [exec] at q
  obtain ⟨d, S1, e1, q⟩ := PostS.bind q
  obtain ⟨dj, S2, e2, q⟩ := PostS.bind q
  refine I.readL e1 fun vv H1 ρ1 I1 r1 l1 p1 => ?_
  cases hf : fr[i]? with
  | none => rw [hf] at q; exact q.elim
  | some sl =>
    cases sl with
    | own xs =>
      rw [hf] at q
      obtain ⟨a, vs, g1, g2, g3, g4, g5⟩ := I1.own i xs hf
      refine ⟨_, g1, I1.readL e2 fun vj H2 ρ2 I2 r2 l2 p2 => ?_⟩
      have r1 := Rep.le l2 p2 _ _ r1
      cases r2 with
      | int j =>
        have q : PostS X.K G0 ρg F H0 ρ0 E ((match L2.ixN xs.length j with
          | some q => M.ret (Out.nx (fr.set i (.own (xs.set q d))))
          | none => M.stk) S2) := q
        obtain ⟨a', vs', k1, k2, k3, k4, k5⟩ := I2.own i xs hf
        rw [g1] at k1
        cases k1
        cases hj : L2.ixN xs.length j with
        | none => rw [hj] at q; exact q.elim
        | some k =>
          rw [hj] at q
          refine ⟨a, vs', j, k, rfl, rfl, k3, by rw [k4.length]; exact hj, ?_⟩
          exact q _ _ _ _ (I2.write hf g1 (k4.set r1 k) (by rw [List.length_set]; exact k5))
      | _ => exact q.elim
    | _ => rw [hf] at q; exact q.elim
theorem own_ok (y : YOk cf gl cal N X) {i : Nat} {x : Str} {es : List Z.E} {xs : List Expr} {p1 p2 pos : Pos} (hN : X.N[i]? = some x) (hv : locOf X.env.scope x = true) (h : SndAll gl cal X es xs) :
    PS X (.Assign [.Name x p1] (.List xs p2) pos) (tS X.K (exec gl cal (.own i es))) := by
  obtain ⟨h1, h2⟩ := loc_ok y hv
  refine PS.imp (ps_asg (pe_lst h.pa) (pg_name (by rw [y.nm]; exact y.nd) hN h1 h2) rfl rfl rfl) ?_
  rintro E σ H ⟨G0, ρg, F, H0, ρ0, ρ, S, fr, O, I, q⟩
  simp only [exec] at q
  obtain ⟨ds, S1, e1, q⟩ := PostS.bind q
  refine I.reads e1 fun vs H1 ρ1 I1 r => ?_
  have q : PostS X.K G0 ρg F H0 ρ0 E ((if ds.length ≤ sizeLine then M.ret (Out.nx (fr.set i (.own ds))) else M.stk) S1) := q
  by_cases hz : ds.length ≤ sizeLine
  · rw [if_pos hz] at q
    exact ⟨by rw [r.length]; exact hz, fun p hp => q _ _ _ _ (I1.putOwn hp r hz)⟩
  · rw [if_neg hz] at q
    exact q.elim
theorem par_ok (y : YOk cf gl cal N X) {m : Bool} {is : List Nat} {es : List Z.E} {t ex : Expr} {xs : List Expr} {pos : Pos} (hp : parOk X.env.scope N is t ex = some xs) (h : SndAll gl cal X es xs) :
    PS X (.Assign [t] ex pos) (tS X.K (exec gl cal (.par m is es))) := by
  unfold parOk at hp
  split at hp
  · rename_i x px yn py k1 p1 a b k2 p2
    split at hp
    · rename_i i j
      split at hp
      · rename_i hc
        cases hp
        simp only [Bool.and_eq_true, decide_eq_true_eq, Bool.not_eq_true'] at hc
        obtain ⟨⟨⟨⟨⟨⟨⟨⟨⟨⟨⟨c1, c2⟩, c3⟩, c4⟩, c5⟩, c6⟩, c7⟩, c8⟩, c9⟩, c10⟩, c11⟩, c12⟩ := hc
        have hNd : X.N.Nodup := by rw [y.nm]; exact y.nd
        refine PS.imp (ps_par y.calm hNd (by rw [y.nm]; exact c1) (by rw [y.nm]; exact c2) c3 c4 c5 h.pa (par_sw y.kind c4 c5 c6 c7 c8 c9 c10 c11 c12) rfl) ?_
        rintro E σ H ⟨G0, ρg, F, H0, ρ0, ρ, S, fr, O, I, q⟩
        simp only [exec] at q
        obtain ⟨ds, S1, e1, q⟩ := PostS.bind q
        refine I.reads e1 fun vs H1 ρ1 I1 r => ?_
        have q : PostS X.K G0 ρg F H0 ρ0 E ((if ds.length = 2 then M.ret (Out.nx (setAll fr ([i, j].zip (ds.map Slot.val)))) else M.stk) S1) := q
        by_cases hz : ds.length = 2
        · rw [if_pos hz] at q
          match ds, hz, r, q with
          | [d1, d2], _, r, q =>
            cases r with
            | cons r1 r =>
              cases r with
              | cons r2 r =>
                cases r
                exact ⟨_, _, rfl, q _ _ _ _ ((I1.put (i := i) r1).put (i := j) r2)⟩
        · rw [if_neg hz] at q
          exact q.elim
      · cases hp
    · cases hp
  · rename_i x px yn py z pz k1 p1 a b c k2 p2
    split at hp
    · rename_i i j l
      split at hp
      · rename_i hc
        cases hp
        simp only [Bool.and_eq_true, decide_eq_true_eq, Bool.not_eq_true'] at hc
        obtain ⟨⟨⟨⟨⟨⟨⟨⟨⟨⟨⟨⟨⟨⟨⟨⟨c1, c2⟩, c3⟩, c4⟩, c5⟩, c6⟩, c7⟩, c8⟩, c9⟩, c10⟩, c11⟩, c12⟩, c13⟩, c14⟩, c15⟩, c16⟩, c17⟩ := hc
        have hNd : X.N.Nodup := by rw [y.nm]; exact y.nd
        refine PS.imp (ps_par3 y.calm hNd (by rw [y.nm]; exact c1) (by rw [y.nm]; exact c2) (by rw [y.nm]; exact c3) c4 c5 c6 c7 c8 c9 h.pa (par_sw3 y.kind c7 c8 c9 c10 c11 c12 c13 c14 c15 c16 c17) rfl) ?_
        rintro E σ H ⟨G0, ρg, F, H0, ρ0, ρ, S, fr, O, I, q⟩
        simp only [exec] at q
        obtain ⟨ds, S1, e1, q⟩ := PostS.bind q
        refine I.reads e1 fun vs H1 ρ1 I1 r => ?_
        have q : PostS X.K G0 ρg F H0 ρ0 E ((if ds.length = 3 then M.ret (Out.nx (setAll fr ([i, j, l].zip (ds.map Slot.val)))) else M.stk) S1) := q
        by_cases hz : ds.length = 3
        · rw [if_pos hz] at q
          match ds, hz, r, q with
          | [d1, d2, d3], _, r, q =>
            cases r with
            | cons r1 r =>
              cases r with
              | cons r2 r =>
                cases r with
                | cons r3 r =>
                  cases r
                  exact ⟨_, _, _, rfl, q _ _ _ _ (((I1.put (i := i) r1).put (i := j) r2).put (i := l) r3)⟩
        · rw [if_neg hz] at q
          exact q.elim
      · cases hp
    · cases hp
  · cases hp
theorem while_t {K : PySem.W.Frag} {n : Nat} {m : Bool} {t : Z.E} {body : List Cmd} {E : Ends} (σ : L2.St) (H : Hp) (h : tS K (exec gl cal (.whl n m t body)) E σ H) :
    tWhile (Z.tB K fun env => M.bind (evalE gl cal t env) truth) (tS K (execs gl cal body)) E σ H := by
  obtain ⟨G0, ρg, F, H0, ρ0, ρ, S, fr, O, I, p⟩ := h
  simp only [exec] at p
  refine ⟨fun n σ H => ∃ ρ S fr O, FrI K G0 ρg F H0 ρ0 H ρ S fr σ O ∧ PostS K G0 ρg F H0 ρ0 E (whileLoop (fun fr => M.bind (readE gl cal m t fr) truth) (fun fr => execs gl cal body fr) n fr S), ⟨n, ρ, S, fr, O, I, p⟩, ?_⟩
  rintro n σ H ⟨ρ, S, fr, O, I, p⟩
  cases n with
  | zero => exact p.elim
  | succ n =>
    simp only [whileLoop] at p
    obtain ⟨c, S2, e1, p⟩ := PostS.bind p
    obtain ⟨d, S1, e1, e2⟩ := res_bind e1
    obtain ⟨d', S', h1, h2⟩ := res_bind e1
    obtain ⟨rfl, rfl, hc⟩ := fit_ok h2
    refine ⟨ow O m F, ρ, S, fr.env m, I.wfm m, I.env m, ?_⟩
    have e3 : M.bind (evalE gl cal t (fr.env m)) truth S = .ok c S2 := by
      unfold M.bind
      rw [h1]
      exact e2
    show PostB K _ _ _ _ (M.bind (evalE gl cal t (fr.env m)) truth S)
    rw [e3]
    intro H1 ρ1 s
    have I1 := I.step (I.stepm s)
    cases c with
    | true =>
      rw [if_pos rfl] at p
      rw [if_pos rfl]
      obtain ⟨o, S3, e4, p⟩ := PostS.bind p
      refine ⟨fun σ H => ∃ ρ S fr O, FrI K G0 ρg F H0 ρ0 H ρ S fr σ O ∧ PostS K G0 ρg F H0 ρ0 E (whileLoop (fun fr => M.bind (readE gl cal m t fr) truth) (fun fr => execs gl cal body fr) n fr S), fun σ' H' hN => ⟨n, Nat.lt_succ_self n, hN⟩, _, _, _, _, _, _, _, _, _, I1, ?_⟩
      rw [e4]
      cases o with
      | nx fr3 => exact fun σ H ρ O I5 => ⟨ρ, S3, fr3, O, I5, p⟩
      | ct fr3 => exact fun σ H ρ O I5 => ⟨ρ, S3, fr3, O, I5, p⟩
      | bk fr3 => exact p
      | ret d => exact p
    | false =>
      rw [if_neg (by decide)] at p
      rw [if_neg (by decide)]
      exact p _ _ _ _ I1
theorem chkCs_cons {c : Cmd} {cs : List Cmd} {st : Stmt} {sts : List Stmt} {sc : Scope} (hc : ∀ i, c ≠ .frz i) (h : chkCs cf N sc (c :: cs) (st :: sts) = true) : chkC cf N sc c st = true ∧ chkCs cf N sc cs sts = true := by
  cases c <;> first | exact absurd rfl (hc _) | (simp only [chkCs, Bool.and_eq_true] at h; exact h)
theorem chkCs_cons0 {c : Cmd} {cs : List Cmd} {sc : Scope} (hc : ∀ i, c ≠ .frz i) (h : chkCs cf N sc (c :: cs) [] = true) : False := by
  cases c <;> first | exact absurd rfl (hc _) | (simp only [chkCs] at h; cases h)
mutual
theorem sndC : ∀ (c : Cmd) (st : Stmt), YOk cf gl cal N X → chkC cf N X.env.scope c st = true → PS X st (tS X.K (exec gl cal c))
  | .asg m tg e, st, y, h => by
    simp only [chkC] at h
    split at h
    · rename_i t ex pos
      simp only [Bool.and_eq_true, Bool.or_eq_true] at h
      obtain ⟨⟨⟨h1, h2⟩, h3⟩, h4⟩ := h
      have hg := sndT (ok := locOf X.env.scope) y.nm y.nd y.calm (fun x hx => loc_ok y hx) tg t h2
      have he := sndE e X ex y.toXOk h3
      rcases h4 with h4 | h4
      · exact PS.imp (ps_asg he.pe hg (swap_no h4.1) (swapNone_ok h4.2) (by rw [assign_star h1]; rfl)) fun D σ H q => asg_t σ H q
      · obtain ⟨yn, py, elt, gs, scope, p2, rfl, rfl, hl, hsw⟩ := swapC_ok y.kind h4
        cases tg with
        | tup _ => simp only [chkT] at h2; cases h2
        | name i =>
          simp only [chkT, Bool.and_eq_true, decide_eq_true_eq] at h2
          cases e with
          | comp own elt0 tg0 k es ifs =>
            simp only [chkE] at h3
            split at h3
            · rename_i g
              simp only [Bool.and_eq_true, decide_eq_true_eq] at h3
              obtain ⟨⟨⟨⟨⟨⟨⟨⟨⟨ha, hb⟩, ht⟩, hi⟩, hn⟩, hv⟩, hle⟩, hts⟩, hif⟩, hel⟩ := h3
              split at hv
              · rename_i xs hsv
                obtain ⟨tgx, it, ifs', as⟩ := g
                have ha : as = 0 := eq_of_beq ha
                subst ha
                have hN : X.N = N := y.nm
                have hw : own = (ownN N own).map (·.2) := by unfold ownN; rw [List.map_map]; exact (List.map_id' own).symm
                refine PS.imp (ps_setLc (own := ownN N own) (g := gT X.K tg0) (tt := Z.tB X.K (evalIfs gl cal ifs)) (te := tE X.K (evalE gl cal elt0)) y.calm (by rw [hN]; exact y.nd) (by rw [hN]; exact h2.1) hl hsw (src_snd y.toXOk hsv (sndEs es X xs y.toXOk hv)) (by rw [hN]; exact blkOk_by hb) (fun s H C cl fp => ?_) (fun s H C cl fp => ?_) (fun s H C cl fp => ?_) (fun x => noSet_ok hn)) ?_
                · exact sndT (X := X.blk s H scope (compEnvC scope cl C X.env) fp) (N := N) (ok := locOf scope) hN y.nd y.calm (fun x hx => locOf_blk hx) tg0 tgx ht
                · exact pts_snd hle hts (sndEs ifs (X.blk s H scope (compEnvC scope cl C X.env) fp) ifs' (y.toXOk.blk _ _ _ _ _) hif)
                · exact (sndE elt0 (X.blk s H scope (compEnvC scope cl C X.env) fp) elt (y.toXOk.blk _ _ _ _ _) hel).pe
                · intro D σ H q
                  have z := asg_t σ H q
                  rw [← hw]
                  refine comp_t hi σ H _ ?_
                  obtain ⟨F, ρ, S, env, w, ev, p⟩ := z
                  refine ⟨F, ρ, S, env, w, ev, p.imp ?_⟩
                  rintro v H1 ⟨F, ρ, S, d, as, w, r, e, q⟩
                  rw [assigns_name] at e
                  cases e
                  exact q [v] (.cons r .nil)
              · cases hv
            · cases h3
          | _ => first | (simp only [chkE] at h3; cases h3; done) | (simp only [chkE, viewE] at h3; cases h3; done)
    · cases h
  | .own i es, st, y, h => by
    simp only [chkC] at h
    split at h
    · simp only [Bool.and_eq_true, decide_eq_true_eq] at h
      exact own_ok y (by rw [y.nm]; exact h.1.1) h.1.2 (sndEs es X _ y.toXOk h.2)
    · cases h
  | .app m i e, st, y, h => by
    simp only [chkC] at h
    split at h
    · simp only [Bool.and_eq_true, decide_eq_true_eq] at h
      obtain ⟨⟨⟨⟨⟨h1, h2⟩, h3⟩, h4⟩, h5⟩, h6⟩ := h
      have h1 := eq_of_beq h1
      subst h1
      exact append_ok (by rw [y.nm]; exact h2) h3 h4 h5 (sndE e X _ y.toXOk h6)
    · cases h
  | .setIx o i v, st, y, h => by
    simp only [chkC] at h
    split at h
    · simp only [Bool.and_eq_true] at h
      exact setIx_ok (sndE o X _ y.toXOk h.1.1.1) (sndE i X _ y.toXOk h.1.1.2) (sndE v X _ y.toXOk h.1.2) h.2
    · cases h
  | .putIx m i j v, st, y, h => by
    simp only [chkC] at h
    split at h
    · simp only [Bool.and_eq_true, decide_eq_true_eq] at h
      exact putIx_ok (by rw [y.nm]; exact h.1.1.1.1.1) h.1.1.1.1.2 h.1.1.1.2 (sndE j X _ y.toXOk h.1.1.2) (sndE v X _ y.toXOk h.1.2) h.2
    · cases h
  | .par m is es, st, y, h => by
    simp only [chkC] at h
    split at h
    · split at h
      · rename_i xs hp
        exact par_ok y hp (sndEs es X xs y.toXOk h)
      · cases h
    · cases h
  | .ifs m t a b, st, y, h => by
    simp only [chkC] at h
    split at h
    · simp only [Bool.and_eq_true] at h
      refine PS.imp (ps_if ((sndE t X _ y.toXOk h.1.1.2).pt h.1.1.1) (sndCs a _ y h.1.2) (sndCs b _ y h.2)) ?_
      rintro E σ H ⟨G0, ρg, F, H0, ρ0, ρ, S, fr, O, I, q⟩
      simp only [exec] at q
      obtain ⟨d, S1, e1, q⟩ := PostS.bind q
      obtain ⟨c, S2, e2, q⟩ := PostS.bind q
      obtain ⟨d', S', h1, h2⟩ := res_bind e1
      obtain ⟨rfl, rfl, hc⟩ := fit_ok h2
      refine ⟨ow O m F, ρ, S, fr.env m, I.wfm m, I.env m, ?_⟩
      have e3 : M.bind (evalE gl cal t (fr.env m)) truth S = .ok c S2 := by
        unfold M.bind
        rw [h1]
        exact e2
      show PostB X.K _ _ _ _ (M.bind (evalE gl cal t (fr.env m)) truth S)
      rw [e3]
      intro H1 ρ1 s
      refine ?_
      have I1 := I.step (I.stepm s)
      cases c with
      | true => exact ⟨_, _, _, _, _, _, _, _, _, I1, q⟩
      | false => exact ⟨_, _, _, _, _, _, _, _, _, I1, q⟩
    · cases h
  | .for_ tg k es body, st, y, h => by
    simp only [chkC] at h
    split at h
    · simp only [Bool.and_eq_true] at h
      obtain ⟨⟨⟨h1, h2⟩, h3⟩, h4⟩ := h
      split at h4
      · rename_i xs hsv
        exact PS.imp (ps_for y.own y.calm (src_snd y.toXOk hsv (sndEs es X xs y.toXOk h4)) (sndT (ok := locOf X.env.scope) y.nm y.nd y.calm (fun x hx => loc_ok y hx) tg _ h1) (sndCs body _ y h3) (fun x => noSet_ok h2)) fun D σ H q => for_t σ H q
      · cases h4
    · cases h
  | .ret m e, st, y, h => by
    simp only [chkC] at h
    split at h
    · refine PS.imp (ps_ret (sndE e X _ y.toXOk h).pe) ?_
      rintro E σ H ⟨G0, ρg, F, H0, ρ0, ρ, S, fr, O, I, q⟩
      simp only [exec] at q
      obtain ⟨d, S1, e1, q⟩ := PostS.bind q
      exact I.read e1 fun v H1 ρ1 I1 r => I1.ret r q
    · cases h
  | .expr m e, st, y, h => by
    simp only [chkC] at h
    split at h
    · simp only [Bool.and_eq_true] at h
      refine PS.imp (ps_expr (sndE e X _ y.toXOk h.2).pe (swap_noE h.1)) ?_
      rintro E σ H ⟨G0, ρg, F, H0, ρ0, ρ, S, fr, O, I, q⟩
      simp only [exec] at q
      obtain ⟨d, S1, e1, q⟩ := PostS.bind q
      exact I.read e1 fun v H1 ρ1 I1 r => q _ _ _ _ I1
    · cases h
  | .frz i, st, y, h => by simp only [chkC] at h; cases h
  | .brk, st, y, h => by
    simp only [chkC] at h
    split at h
    · refine PS.imp ps_break ?_
      rintro E σ H ⟨G0, ρg, F, H0, ρ0, ρ, S, fr, O, I, q⟩
      simp only [exec] at q
      exact q _ _ _ _ I
    · cases h
  | .cnt, st, y, h => by
    simp only [chkC] at h
    split at h
    · refine PS.imp ps_continue ?_
      rintro E σ H ⟨G0, ρg, F, H0, ρ0, ρ, S, fr, O, I, q⟩
      simp only [exec] at q
      exact q _ _ _ _ I
    · cases h
  | .pass, st, y, h => by
    have fin : ∀ D σ H, tS X.K (exec gl cal .pass) D σ H → tNext D σ H := by
      rintro E σ H ⟨G0, ρg, F, H0, ρ0, ρ, S, fr, O, I, q⟩
      simp only [exec] at q
      exact q _ _ _ _ I
    simp only [chkC] at h
    split at h
    · exact PS.imp ps_pass fin
    · exact PS.imp ps_doc fin
    · cases h
  | .dead, st, y, h => PS.imp ps_never (by
      rintro E σ H ⟨G0, ρg, F, H0, ρ0, ρ, S, fr, O, I, q⟩
      simp only [exec] at q
      exact q)
  | .whl n m t body, st, y, h => by
    simp only [chkC] at h
    split at h
    · simp only [Bool.and_eq_true] at h
      exact PS.imp (ps_while y.own ((sndE t X _ y.toXOk h.1.2).pt h.1.1) (sndCs body _ y h.2)) fun D σ H q => while_t σ H q
    · cases h
theorem sndCs : ∀ (cs : List Cmd) (sts : List Stmt), YOk cf gl cal N X → chkCs cf N X.env.scope cs sts = true → PSs X sts (tS X.K (execs gl cal cs))
  | [], sts, y, h => by
    simp only [chkCs] at h
    cases sts with
    | cons _ _ => cases h
    | nil =>
      refine PSs.imp pss_nil ?_
      rintro E σ H ⟨G0, ρg, F, H0, ρ0, ρ, S, fr, O, I, q⟩
      simp only [execs] at q
      exact q _ _ _ _ I
  | c :: cs, sts, y, h => by
    by_cases hc : ∃ i, c = .frz i
    · obtain ⟨i, rfl⟩ := hc
      simp only [chkCs] at h
      refine PSs.imp (sndCs cs sts y h) ?_
      rintro E σ H ⟨G0, ρg, F, H0, ρ0, ρ, S, fr, O, I, q⟩
      simp only [execs, exec] at q
      obtain ⟨o, S1, e1, q⟩ := PostS.bind q
      cases hf : fr[i]? with
      | none => rw [hf] at e1; cases e1
      | some sl =>
        cases sl with
        | own xs =>
          rw [hf] at e1
          cases e1
          obtain ⟨O', I'⟩ := I.frz hf
          exact ⟨_, _, _, _, _, _, _, _, _, I', q⟩
        | _ => rw [hf] at e1; cases e1
    · have hc : ∀ i, c ≠ .frz i := fun i e => hc ⟨i, e⟩
      cases sts with
      | nil => exact (chkCs_cons0 hc h).elim
      | cons st sts =>
        have h := chkCs_cons hc h
        refine PSs.imp (pss_cons (sndC c st y h.1) (sndCs cs sts y h.2)) ?_
        rintro E σ H ⟨G0, ρg, F, H0, ρ0, ρ, S, fr, O, I, q⟩
        simp only [execs] at q
        obtain ⟨o, S1, e1, q⟩ := PostS.bind q
        refine ⟨G0, ρg, F, H0, ρ0, ρ, S, fr, O, I, ?_⟩
        rw [e1]
        cases o with
        | nx fr' => exact fun σ H ρ O I => ⟨_, _, _, _, _, _, _, _, _, I, q⟩
        | ret d => exact q
        | bk fr' => exact q
        | ct fr' => exact q
end
end
end Z

/-! Z18: defs -/
namespace Z
open PySem PySem.Spec PyProof.Rows L2
/-- a def of the text and its reading -/
structure Ent where
  x : Str
  st : Stmt
  N : List Str
  np : Nat
  body : List Cmd
def Ent.dd (e : Ent) : He.DefD := ⟨(e.x, none), e.x, e.x, defArgs e.st, defBody e.st, defScope e.st, [], []⟩
def Ent.fn (e : Ent) : Fn := ⟨e.np, e.N.length, e.body⟩
def Ent.ps (e : Ent) : List Str := e.N.take e.np
def Ent.ok (cf : Cfg) (e : Ent) : Bool := C8.scC e.N e.ps (defScope e.st) && decide (e.np ≤ e.N.length) && chkCs cf e.N (defScope e.st) e.body (defBody e.st)
structure DefOk (K : PySem.W.Frag) (mg : Str → Option Value) (cf : Cfg) (f : Nat) (e : Ent) (fa : Addr) (fd : FuncData) : Prop where
  F : FunD K e.x e.x (defArgs e.st) (defBody e.st) (defScope e.st) [] [] fa fd
  mgf : mg e.x = some (.ref fa)
  b : Binds K fd e.ps []
  kb : ∀ n ks perm, (f, n, ks, perm) ∈ cf.kws → KBinds K fd e.ps ks (plc n ks.length perm) (plc n ks.length perm)
  ok : e.ok cf = true
/-- what is asked of the module -/
structure ModOk (K : PySem.W.Frag) (mg : Str → Option Value) (cf : Cfg) (gl : Nat → Option D) (ents : List Ent) : Prop where
  defs : ∀ (f : Nat) (e : Ent), ents[f]? = some e → ∃ fa fd, DefOk K mg cf f e fa fd
  fns : ∀ x f, cf.fns.lookup x = some f → ∃ e, ents[f]? = some e ∧ e.x = x
  blt : ∀ x : Str, x ∈ bltNames → mg x = none
  glo : ∀ x g, cf.glo.lookup x = some g → ∃ u v d, mg x = some u ∧ RelV v u ∧ gl g = some d ∧ ∀ G ρ, Rep K G ρ v d
def lvl (k : Nat) : Nat := k + 10
section
variable {P : Program} {w : World} {K : PySem.W.Frag} {mg : Str → Option Value} {base : Heap} {cf : Cfg} {gl : Nat → Option D} {ents : List Ent}
theorem frI_start {K : PySem.W.Frag} {H : Hp} {F : Fs} {ρ : List Addr} {S : Store} {vs : List V} {ds : List D} {N : List Str} (w : Wf K H F ρ S) (r : RepA K (del H F ρ) ρ vs ds) : FrI K (del H F ρ) ρ F H ρ H ρ S (startF N.length ds) (L2.start N vs) [] := by
  have hl := r.length
  refine ⟨Stp.refl w, w, ?_, fun i d h => ?_, fun i xs h => ?_, fun i j xs ys a h1 _ _ _ => ?_, fun a m => (by cases m), fun _ _ e => e, List.prefix_rfl, fun p m => (w.fd p m).1⟩
  · unfold startF L2.start
    simp only [List.length_append, List.length_map, List.length_replicate]
    omega
  · unfold startF at h
    by_cases hi : i < ds.length
    · rw [List.getElem?_append_left (by simpa using hi), List.getElem?_map] at h
      obtain ⟨d', h1, h2⟩ := Option.map_eq_some_iff.mp h
      cases h2
      obtain ⟨v, h3, h4⟩ := r.get h1
      refine ⟨v, ?_, h4⟩
      unfold L2.start
      rw [List.getElem?_append_left (by rw [List.length_map]; omega), List.getElem?_map, h3]
      rfl
    · rw [List.getElem?_append_right (by simpa using hi), List.getElem?_replicate] at h
      split at h <;> cases h
  all_goals
    have key : ∀ (i : Nat) (xs : List D), (startF N.length ds)[i]? = some (Z.Slot.own xs) → False := fun i xs h => by
      unfold startF at h
      by_cases hi : i < ds.length
      · rw [List.getElem?_append_left (by simpa using hi), List.getElem?_map] at h
        obtain ⟨d', h1, h2⟩ := Option.map_eq_some_iff.mp h
        cases h2
      · rw [List.getElem?_append_right (by simpa using hi), List.getElem?_replicate] at h
        split at h <;> cases h
  · exact (key i xs h).elim
  · exact (key i xs h1).elim
theorem run_arity {prog : List Fn} {k f : Nat} {fn : Fn} {ds : List D} {S : Store} (h : prog[f]? = some fn) (n : ds.length ≠ fn.np) : run gl prog k f ds S = .stuck := by
  cases k with
  | zero => rfl
  | succ k =>
    unfold run
    rw [h]
    show (if ds.length = fn.np then _ else M.stk) S = _
    rw [if_neg n]
    rfl
theorem all_ok (m : ModOk K mg cf gl ents) : ∀ (k f : Nat) (e : Ent) (fa : Addr) (fd : FuncData), ents[f]? = some e → DefOk K mg cf f e fa fd → FnOk P w K mg base CX0 (lvl k) fa fd e.ps (spD K e.np (run gl (ents.map Ent.fn) k f))
  | k, f, e, fa, fd, he, d => by
    have hok := d.ok
    unfold Ent.ok at hok
    simp only [Bool.and_eq_true, decide_eq_true_eq] at hok
    obtain ⟨⟨h1, h2⟩, h3⟩ := hok
    have S := C8.fnScope_by h1
    have hl : e.ps.length = e.np := by unfold Ent.ps; rw [List.length_take]; omega
    cases k with
    | zero =>
      refine ⟨fun vs H Q E h => by rw [hl]; exact h.1, fun A outer s H args us vs Q E _ _ _ _ h => ?_⟩
      obtain ⟨_, F, ρ, S, ds, w, r, p⟩ := h
      exact p.elim
    | succ k =>
      refine d.F.ok S (fun vs H Q E h => by rw [hl]; exact h.1) fun cdv A outer s H vs Q E hr h => ?_
      have hr : Room (lvl k) (A.deeper (envOfC e.x (defScope e.st) s.heap.objs.size fa cdv)) := hr
      have y : YOk cf gl (run gl (ents.map Ent.fn) k) e.N (cxOf CX0 P w K mg base e.N e.x (defScope e.st) fa cdv A outer s H E) := by
        refine ⟨⟨rfl, S.nd, rfl, ?_, m.blt, m.glo, fun x g hx => ?_⟩, S.kind, rfl, passes_of rfl⟩
        · have := hr.un
          show (A.deeper (envOfC e.x (defScope e.st) s.heap.objs.size fa cdv)).units + many + 100 < cLine
          unfold lvl at this
          unfold many
          omega
        · obtain ⟨e2, g1, g2⟩ := m.fns x g hx
          obtain ⟨fa2, fd2, d2⟩ := m.defs g e2 g1
          refine ⟨fa2, fd2, e2.ps, lvl k, e2.np, g2 ▸ d2.mgf, d2.F.kp, d2.b, hr, all_ok m k g e2 fa2 fd2 g1 d2, fun ds S n => ?_, d2.kb⟩
          exact run_arity (fn := e2.fn) (by rw [List.getElem?_map, g1]; rfl) n
      refine ⟨tS K (execs gl (run gl (ents.map Ent.fn) k) e.body), sndCs e.body (defBody e.st) y h3, ?_⟩
      obtain ⟨hv, F, ρ, S0, ds, w0, r, p⟩ := h
      refine ⟨_, _, _, _, _, _, _, _, _, frI_start (N := e.N) w0 r, ?_⟩
      unfold run at p
      rw [List.getElem?_map, he] at p
      have p : Post K F H ρ Q ((if ds.length = e.np then M.bind (execs gl (run gl (ents.map Ent.fn) k) e.body (startF e.N.length ds)) fun o => (match o with
        | .ret d => M.ret d
        | .nx _ => M.ret .non
        | _ => M.stk) else M.stk) S0) := p
      rw [if_pos (by rw [← r.length]; exact hv)] at p
      unfold M.bind at p
      cases q : execs gl (run gl (ents.map Ent.fn) k) e.body (startF e.N.length ds) S0 with
      | exc _ _ => rw [q] at p; exact p.elim
      | stuck => rw [q] at p; exact p.elim
      | ok o S1 =>
        rw [q] at p
        cases o with
        | ret d => exact p
        | nx fr => exact fun σ H' ρ' O I => p .non H' ρ' I.st .non
        | bk fr => exact p.elim
        | ct fr => exact p.elim
termination_by k => k
end
end Z

/-! Z19: the module's facts; a law's end -/
namespace Z
open PySem PySem.Spec PyProof.Rows L2
/-- the facts that are asked of the head: built-ins are free, defs and constants stand -/
def gloFa : Str × D → He.Fa
  | (x, .int i) => .int x i
  | (x, .str z) => .str x z
  | (x, _) => .free x
def faOf (ents : List Ent) (globs : List (Str × D)) : List He.Fa := bltNames.map He.Fa.free ++ (ents.map (fun e => He.Fa.glo e.x) ++ globs.map gloFa)
def globOk : Str × D → Bool
  | (_, .int _) => true
  | (_, .str z) => decide (z.length ≤ sizeLine) && PyData.strOk z
  | _ => false
abbrev Kws := List (Nat × Nat × List Str × List Nat)
def cfOf (ents : List Ent) (globs : List (Str × D)) (kws : Kws) : Cfg := ⟨ents.mapIdx fun i e => (e.x, i), globs.mapIdx fun i p => (p.1, i), kws⟩
def glOf (globs : List (Str × D)) (g : Nat) : Option D := (globs[g]?).map (·.2)
theorem lookup_idx {α : Type} (f : α → Str) : ∀ (l : List α) (n : Nat) (x : Str) (i : Nat), (l.mapIdx fun i a => (f a, n + i)).lookup x = some i → ∃ a, n ≤ i ∧ l[i - n]? = some a ∧ f a = x
  | [], n, x, i, h => by cases h
  | a :: l, n, x, i, h => by
    rw [List.mapIdx_cons, List.lookup_cons] at h
    by_cases hx : (x == f a) = true
    · have hx' : (x == (f a, n + 0).1) = true := hx
      rw [hx'] at h
      have h := Option.some.inj h
      refine ⟨a, by show n ≤ i; have : n + 0 = i := h; omega, ?_, (eq_of_beq hx).symm⟩
      have : i - n = 0 := by have : n + 0 = i := h; omega
      rw [this]
      rfl
    · rw [Bool.not_eq_true] at hx
      have hx' : (x == (f a, n + 0).1) = false := hx
      rw [hx'] at h
      have e : (l.mapIdx fun i a => (f a, n + (i + 1))) = l.mapIdx fun i a => (f a, (n + 1) + i) := by
        congr 1
        funext i a
        congr 1
        omega
      have h : List.lookup x (l.mapIdx fun i a => (f a, n + (i + 1))) = some i := h
      rw [e] at h
      obtain ⟨b, h1, h2, h3⟩ := lookup_idx f l (n + 1) x i h
      refine ⟨b, by omega, ?_, h3⟩
      have : i - n = (i - (n + 1)) + 1 := by omega
      rw [this]
      exact h2
def BindP (e : Ent) : Prop := ∀ (kV doc pm : Value) (an : Option Addr) (cdv ct : Value) (us : List Value), us.length = e.ps.length → bindArgs (PySem.W.fnOf e.x e.x (defArgs e.st) (defBody e.st) (defScope e.st) .none kV doc pm an cdv ct) ⟨us, []⟩ = pure (e.ps.zip us)
def BindK (e : Ent) (n : Nat) (ks : List Str) (perm : List Nat) : Prop := 0 < e.ps.length ∧ ∀ (kV doc pm : Value) (an : Option Addr) (cdv ct : Value) (us ws : List Value), us.length = n → ws.length = ks.length →
  bindArgs (PySem.W.fnOf e.x e.x (defArgs e.st) (defBody e.st) (defScope e.st) .none kV doc pm an cdv ct) ⟨us, ks.zip ws⟩ = pure (e.ps.zip (us ++ perm.filterMap fun i => ws[i]?))
theorem vals_pick : ∀ {zs : List V} {ws : List Value} (perm : List Nat), Vals zs ws → Vals (perm.filterMap fun i => zs[i]?) (perm.filterMap fun i => ws[i]?)
  | _, _, [], _ => .nil
  | zs, ws, i :: perm, r => by
    have ih := vals_pick perm r
    rw [List.filterMap_cons, List.filterMap_cons]
    have hl := r.length
    cases hz : zs[i]? with
    | none =>
      have : ws[i]? = none := by
        rw [List.getElem?_eq_none_iff] at hz ⊢
        omega
      rw [this]
      exact ih
    | some v =>
      obtain ⟨u, h1, h2⟩ := r.get hz
      rw [h1]
      exact .cons h2 ih
theorem kbinds_of {K : PySem.W.Frag} {e : Ent} {fa : Addr} {fd : FuncData} (F : FunD K e.x e.x (defArgs e.st) (defBody e.st) (defScope e.st) [] [] fa fd) {n : Nat} {ks : List Str} {perm : List Nat} (h : BindK e n ks perm) : KBinds K fd e.ps ks (plc n ks.length perm) (plc n ks.length perm) := by
  obtain ⟨oc, od, dV, kV, doc, pm, an, cdv, ct, osl, rfl, lk, hcd, hD, hK⟩ := F.ex
  refine ⟨fun s us ws _ hl => ?_, fun {vs us zs ws} r1 r2 => ?_⟩
  · by_cases hc : us.length = n ∧ ws.length = ks.length
    · unfold plc
      rw [if_pos hc]
      rcases hD with ⟨_, rfl⟩ | ⟨e1, _⟩
      · exact .of_eq (h.2 kV doc pm an cdv ct us ws hc.1 hc.2)
      · exact absurd rfl e1
    · exfalso
      unfold plc at hl
      rw [if_neg hc] at hl
      have := h.1
      rw [← hl] at this
      exact Nat.lt_irrefl _ this
  · unfold plc
    rw [r1.length, r2.length]
    split
    · exact r1.append (vals_pick perm r2)
    · exact .nil
theorem modOk_of {K : PySem.W.Frag} {h : Heap} {mg : Str → Option Value} {ents : List Ent} {globs : List (Str × D)} {kws : Kws} (X : K.In h) (G : h.Ns mainGlobals mg) (c : He.SaysD (faOf ents globs) (ents.map Ent.dd) K)
    (hb : ∀ (i : Nat) (e : Ent), ents[i]? = some e → BindP e) (hkb : ∀ f n ks perm, (f, n, ks, perm) ∈ kws → ∀ e, ents[f]? = some e → BindK e n ks perm) (ho : ents.all (Ent.ok (cfOf ents globs kws)) = true) (hg : globs.all globOk = true) : ModOk K mg (cfOf ents globs kws) (glOf globs) ents where
  defs := fun f e he => by
    obtain ⟨fd, F⟩ := c.def_ f (d := e.dd) (by rw [List.getElem?_map, he]; rfl)
    have hm : mg e.x = some (.ref (He.ga K e.x)) := He.glo_ok X G (c.fact (bltNames.length + f) (f := .glo e.x) (by
      unfold faOf
      rw [List.getElem?_append_right (by rw [List.length_map]; omega), List.length_map, Nat.add_sub_cancel_left, List.getElem?_append_left (by rw [List.length_map]; exact (List.getElem?_eq_some_iff.mp he).1), List.getElem?_map, he]
      rfl))
    exact ⟨He.ga K e.x, fd, F, hm, FunD.bindsN F (hb f e he), fun n ks perm hin => kbinds_of F (hkb f n ks perm hin e he), List.all_eq_true.mp ho e (List.mem_of_getElem? he)⟩
  fns := fun x f hx => by
    have h : (ents.mapIdx fun i e => (e.x, 0 + i)).lookup x = some f := by
      rw [show (fun (i : Nat) (e : Ent) => (e.x, 0 + i)) = fun i e => (e.x, i) from by funext i e; rw [Nat.zero_add]]
      exact hx
    obtain ⟨e, _, h2, h3⟩ := lookup_idx Ent.x ents 0 x f h
    exact ⟨e, by simpa using h2, h3⟩
  blt := fun x hx => by
    obtain ⟨i, hi⟩ := List.getElem?_of_mem hx
    exact He.free_ok X G (c.fact i (f := .free x) (by
      unfold faOf
      rw [List.getElem?_append_left (by rw [List.length_map]; exact (List.getElem?_eq_some_iff.mp hi).1), List.getElem?_map, hi]
      rfl))
  glo := fun x g hx => by
    have h : (globs.mapIdx fun i p => (p.1, 0 + i)).lookup x = some g := by
      rw [show (fun (i : Nat) (p : Str × D) => (p.1, 0 + i)) = fun i p => (p.1, i) from by funext i e; rw [Nat.zero_add]]
      exact hx
    obtain ⟨p, _, h2, h3⟩ := lookup_idx (·.1) globs 0 x g h
    have h2 : globs[g]? = some p := by simpa using h2
    have hok := List.all_eq_true.mp hg p (List.mem_of_getElem? h2)
    have hf := c.fact (bltNames.length + (ents.length + g)) (f := gloFa p) (by
      unfold faOf
      rw [List.getElem?_append_right (by rw [List.length_map]; omega), List.length_map, Nat.add_sub_cancel_left, List.getElem?_append_right (by rw [List.length_map]; omega), List.length_map, Nat.add_sub_cancel_left, List.getElem?_map, h2]
      rfl)
    obtain ⟨y, d⟩ := p
    have h3 : y = x := h3
    subst h3
    have hgl : glOf globs g = some d := by unfold glOf; rw [h2]; rfl
    cases d with
    | int i =>
      obtain ⟨t, e⟩ := He.int_ok X G hf
      exact ⟨_, .int i, .int i, e, ⟨t, rfl⟩, hgl, fun _ _ => .int i⟩
    | str z =>
      obtain ⟨t, e⟩ := He.str_ok X G hf
      simp only [globOk, Bool.and_eq_true, decide_eq_true_eq] at hok
      exact ⟨_, .str z, .str z, e, ⟨t, rfl⟩, hgl, fun _ _ => .str hok.1 hok.2⟩
    | _ => cases hok
theorem wf_nil {K : PySem.W.Frag} {H : Hp} : Wf K H [] [] [] := ⟨rfl, List.nodup_nil, fun n a o h => by simp at h, fun p m => by cases m⟩
theorem le_nil {H : Hp} : Le H (del H [] []) := fun a o h => by rw [del_at (by simp) rfl]; exact h
theorem ints_repA {K : PySem.W.Frag} {G : Hp} {ρ : List Addr} : ∀ ns : List Int, RepA K G ρ (ns.map V.int) (ns.map D.int)
  | [] => .nil
  | n :: ns => .cons (.int n) (ints_repA ns)
/-- the script is given -/
theorem law_sp {K : PySem.W.Frag} {H : Hp} {a : Addr} {ns : List Int} {sem : List D → M D} {Q : VK} {E : XK} (hl : ns.length ≤ sizeLine) (hS : SqL K H a (ns.map V.int)) (hp : ∃ S, sem [.scr (ns.map D.int)] [] = .ok (.bl true) S) (hQ : ∀ H', Q (.bl true) H') : spD K 1 sem [.ref a] H Q E := by
  obtain ⟨S, hS'⟩ := hp
  refine ⟨rfl, [], [], [], [.scr (ns.map D.int)], wf_nil, .cons (.scr (SqL.le (Le.r le_nil) hS) (ints_repA ns) (by rw [List.length_map]; exact hl)) .nil, ?_⟩
  rw [hS']
  intro v H' ρ' _ r
  cases r
  exact hQ H'
end Z

/-! ZP: what a run of the small language gives -/
namespace Z
open PySem
def wpR {α : Type} (r : Res α) (Q : α → Store → Prop) : Prop := match r with
  | .ok a S => Q a S
  | _ => False
/-- m runs from S and ends in Q -/
def wp {α : Type} (m : M α) (S : Store) (Q : α → Store → Prop) : Prop := wpR (m S) Q
section
variable {α β : Type} {m : M α} {f : α → M β} {S S' : Store} {Q Q' : α → Store → Prop} {R : β → Store → Prop} {a : α}
theorem wp_ok (h : wp m S Q) : ∃ a S', m S = .ok a S' ∧ Q a S' := by
  unfold wp wpR at h
  split at h
  · exact ⟨_, _, by assumption, h⟩
  · exact h.elim
theorem wp_mono (h : wp m S Q) (i : ∀ a S', Q a S' → Q' a S') : wp m S Q' := by
  unfold wp wpR at h ⊢
  split at h
  · rename_i e; exact i _ _ h
  · exact h.elim
theorem wp_eq (h : m S = .ok a S') : wp m S Q = Q a S' := by
  unfold wp wpR
  rw [h]
theorem wp_ret : wp (M.ret a) S Q = Q a S := (rfl)
theorem wp_bind : wp (M.bind m f) S R = wp m S fun a S' => wp (f a) S' R := by
  unfold wp M.bind
  cases m S <;> rfl
theorem M.ret_bind' : M.bind (M.ret a) f = f a := (rfl)
theorem wp_stk : wp (M.stk : M α) S Q = False := (rfl)
theorem wp_ite {c : Prop} [Decidable c] {m n : M α} : wp (if c then m else n) S Q = if c then wp m S Q else wp n S Q := by split <;> rfl
theorem wp_fun {g : Store → Res α} : wp (fun S => g S) S Q = wpR (g S) Q := (rfl)
theorem wpR_ok : wpR (.ok a S) Q = Q a S := (rfl)
theorem wpR_stuck : wpR (.stuck : Res α) Q = False := (rfl)
theorem wpR_ite {c : Prop} [Decidable c] {m n : Res α} : wpR (if c then m else n) Q = if c then wpR m Q else wpR n Q := by split <;> rfl
end
section
variable {gl : Nat → Option D} {cal : Nat → List D → M D} {S : Store} {Q : D → Store → Prop} {QL : List D → Store → Prop} {QO : Out → Store → Prop}
theorem wp_const {d : D} {env : Env} : wp (evalE gl cal (.const d) env) S Q = Q d S := by simp only [evalE, wp_ret]
theorem wp_var {i : Nat} {env : Env} {d : D} (h : env[i]? = some (some d)) : wp (evalE gl cal (.var i) env) S Q = Q d S := by simp only [evalE, h, wp_ret]
theorem wp_varM {i : Nat} {env : Env} : wp (evalE gl cal (.var i) env) S Q = match env[i]? with
    | some (some d) => Q d S
    | _ => False := by
  simp only [evalE]
  cases h : env[i]? with
  | none => rfl
  | some o => cases o <;> rfl
theorem wp_globM {g : Nat} {env : Env} : wp (evalE gl cal (.glob g) env) S Q = match gl g with
    | some d => Q d S
    | none => False := by
  simp only [evalE]
  cases h : gl g <;> rfl
theorem wp_glob {g : Nat} {env : Env} {d : D} (h : gl g = some d) : wp (evalE gl cal (.glob g) env) S Q = Q d S := by simp only [evalE, h, wp_ret]
theorem wp_op {h : Hd} {es : List E} {env : Env} : wp (evalE gl cal (.op h es) env) S Q = wp (evalEs gl cal es env) S fun ds S => wp (opSem h ds) S Q := by simp only [evalE, wp_bind]
theorem wp_call {f : Nat} {es : List E} {env : Env} : wp (evalE gl cal (.call f es) env) S Q = wp (evalEs gl cal es env) S fun ds S => wp (cal f ds) S Q := by simp only [evalE, wp_bind]
theorem wp_nil {env : Env} : wp (evalEs gl cal [] env) S QL = QL [] S := by simp only [evalEs, wp_ret]
theorem wp_cons {e : E} {es : List E} {env : Env} : wp (evalEs gl cal (e :: es) env) S QL = wp (evalE gl cal e env) S fun d S => wp (evalEs gl cal es env) S fun ds S => QL (d :: ds) S := by simp only [evalEs, wp_bind, wp_ret]
theorem wp_truth {d : D} {QB : Bool → Store → Prop} : wp (truth d) S QB = match d with
    | .bl b => QB b S
    | _ => False := by cases d <;> rfl
theorem wp_truthB {b : Bool} {QB : Bool → Store → Prop} : wp (truth (.bl b)) S QB = QB b S := (rfl)
theorem wp_okB {b : Bool} : wp (okB b) S Q = Q (.bl b) S := (rfl)
theorem wp_not {a : E} {env : Env} : wp (evalE gl cal (.not a) env) S Q = wp (evalE gl cal a env) S fun d S => wp (truth d) S fun b S => Q (.bl (!b)) S := by simp only [evalE, wp_bind, wp_okB]
theorem wp_boolE {c : Bool} {es : List E} {env : Env} : wp (evalE gl cal (.bool c es) env) S Q = wp (evalBool gl cal c es env) S Q := by simp only [evalE]
theorem wp_bool1 {c : Bool} {e : E} {env : Env} : wp (evalBool gl cal c [e] env) S Q = wp (evalE gl cal e env) S fun d S => wp (truth d) S fun b S => Q (.bl b) S := by simp only [evalBool, wp_bind, wp_okB]
theorem wp_bool2 {c : Bool} {e e2 : E} {es : List E} {env : Env} : wp (evalBool gl cal c (e :: e2 :: es) env) S Q = wp (evalE gl cal e env) S fun d S => wp (truth d) S fun b S => if b = c then wp (evalBool gl cal c (e2 :: es) env) S Q else Q (.bl b) S := by
  simp only [evalBool, wp_bind, wp_ite, wp_okB]
theorem wp_chain {o1 o2 : CmpOp} {a b c : E} {env : Env} : wp (evalE gl cal (.chain o1 o2 a b c) env) S Q = wp (evalE gl cal a env) S fun x S => wp (evalE gl cal b env) S fun y S => wp (cmpSem o1 x y) S fun k S => wp (truth k) S fun k S => if k = true then wp (evalE gl cal c env) S fun z S => wp (cmpSem o2 y z) S Q else Q (.bl false) S := by
  simp only [evalE, wp_bind, wp_ite, wp_okB]
theorem wp_ife {t a b : E} {env : Env} : wp (evalE gl cal (.ife t a b) env) S Q = wp (evalE gl cal t env) S fun d S => wp (truth d) S fun c S => if c = true then wp (evalE gl cal a env) S Q else wp (evalE gl cal b env) S Q := by
  simp only [evalE, wp_bind, wp_ite]
theorem wp_alloc {es : List E} {env : Env} : wp (evalE gl cal (.alloc es) env) S Q = wp (evalEs gl cal es env) S fun ds S => if ds.length ≤ sizeLine ∧ D.clns ds = true then Q (.loc S.length) (S ++ [.lst ds]) else False := by
  simp only [evalE, wp_bind]
  congr 1
  funext ds S
  show wpR (if ds.length ≤ sizeLine ∧ D.clns ds = true then Res.ok (D.loc S.length) (S ++ [.lst ds]) else .stuck) Q = _
  rw [wpR_ite]
  rfl
/-- statements -/
theorem wp_read {m : Bool} {e : E} {fr : Fr} : wp (readE gl cal m e fr) S Q = wp (evalE gl cal e (fr.env m)) S fun d S => wp (fitM m d) S Q := by simp only [readE, wp_bind]
theorem wp_fitF {d : D} : wp (fitM false d) S Q = Q d S := by simp [fitM, wp_ret]
theorem wp_fitT {d : D} (h : d.cln = true) : wp (fitM true d) S Q = Q d S := by simp [fitM, wp_ret, h]
theorem wp_x0 {fr : Fr} : wp (execs gl cal [] fr) S QO = QO (.nx fr) S := by simp only [execs, wp_ret]
theorem wp_xret {m : Bool} {e : E} {cs : List Cmd} {fr : Fr} : wp (execs gl cal (.ret m e :: cs) fr) S QO = wp (readE gl cal m e fr) S fun d S => QO (.ret d) S := by
  simp only [execs, exec, wp_bind, wp_ret]
theorem wp_xasg {m : Bool} {tg : Tg} {e : E} {cs : List Cmd} {fr : Fr} : wp (execs gl cal (.asg m tg e :: cs) fr) S QO = wp (readE gl cal m e fr) S fun d S => match storeT tg d fr with
    | some fr' => wp (execs gl cal cs fr') S QO
    | none => False := by
  simp only [execs, exec, wp_bind]
  congr 1
  funext d S
  cases storeT tg d fr <;> simp only [wp_ret, wp_stk]
theorem wp_xasgN {m : Bool} {i : Nat} {e : E} {cs : List Cmd} {fr : Fr} : wp (execs gl cal (.asg m (.name i) e :: cs) fr) S QO = wp (readE gl cal m e fr) S fun d S => wp (execs gl cal cs (fr.set i (.val d))) S QO := by
  rw [wp_xasg]
  congr 1
theorem wp_xpar {m : Bool} {is : List Nat} {es : List E} {cs : List Cmd} {fr : Fr} : wp (execs gl cal (.par m is es :: cs) fr) S QO = wp (readEs gl cal m es fr) S fun ds S => if ds.length = is.length then wp (execs gl cal cs (setAll fr (is.zip (ds.map Slot.val)))) S QO else False := by
  simp only [execs, exec, wp_bind]
  congr 1
  funext d S
  split <;> simp only [wp_ret, wp_stk]
theorem wp_readsF {es : List E} {fr : Fr} : wp (readEs gl cal false es fr) S QL = wp (evalEs gl cal es (fr.env false)) S QL := by
  simp only [readEs, wp_bind]
  congr 1
theorem wp_xif {m : Bool} {t : E} {a b cs : List Cmd} {fr : Fr} : wp (execs gl cal (.ifs m t a b :: cs) fr) S QO = wp (readE gl cal m t fr) S fun d S => wp (truth d) S fun c S => if c = true then wp (execs gl cal a fr) S fun o S => (match o with
      | .nx fr' => wp (execs gl cal cs fr') S QO
      | o => QO o S) else wp (execs gl cal b fr) S fun o S => (match o with
      | .nx fr' => wp (execs gl cal cs fr') S QO
      | o => QO o S) := by
  simp only [execs, exec, wp_bind, wp_ite]
  congr 1
  funext d S
  congr 1
  funext c S
  split
  all_goals
    congr 1
    funext o S
    cases o <;> simp only [wp_ret]
theorem wp_xif0 {m : Bool} {t : E} {a cs : List Cmd} {fr : Fr} : wp (execs gl cal (.ifs m t a [] :: cs) fr) S QO = wp (readE gl cal m t fr) S fun d S => wp (truth d) S fun c S => if c = true then wp (execs gl cal a fr) S fun o S => (match o with
      | .nx fr' => wp (execs gl cal cs fr') S QO
      | o => QO o S) else wp (execs gl cal cs fr) S QO := by
  rw [wp_xif]
  simp only [wp_x0]
theorem wp_xown {i : Nat} {es : List E} {cs : List Cmd} {fr : Fr} : wp (execs gl cal (.own i es :: cs) fr) S QO = wp (readEs gl cal true es fr) S fun ds S => if ds.length ≤ sizeLine then wp (execs gl cal cs (fr.set i (.own ds))) S QO else False := by
  simp only [execs, exec, wp_bind]
  congr 1
  funext ds S
  split <;> simp only [wp_ret, wp_stk]
theorem wp_xapp {m : Bool} {i : Nat} {e : E} {cs : List Cmd} {fr : Fr} {xs : List D} (h : fr[i]? = some (.own xs)) : wp (execs gl cal (.app m i e :: cs) fr) S QO = wp (readE gl cal m e fr) S fun d S => if xs.length < sizeLine then wp (execs gl cal cs (fr.set i (.own (xs ++ [d])))) S QO else False := by
  simp only [execs, exec, wp_bind, h]
  congr 1
  funext ds S
  split <;> simp only [wp_ret, wp_stk]
theorem wp_xfrz {i : Nat} {cs : List Cmd} {fr : Fr} {xs : List D} (h : fr[i]? = some (.own xs)) : wp (execs gl cal (.frz i :: cs) fr) S QO = wp (execs gl cal cs (fr.set i (.val (.lst xs)))) S QO := by
  simp only [execs, exec, wp_bind, h, wp_ret]
theorem wp_xexpr {m : Bool} {e : E} {cs : List Cmd} {fr : Fr} : wp (execs gl cal (.expr m e :: cs) fr) S QO = wp (readE gl cal m e fr) S fun _ S => wp (execs gl cal cs fr) S QO := by
  simp only [execs, exec, wp_bind, wp_ret]
theorem wp_xpass {cs : List Cmd} {fr : Fr} : wp (execs gl cal (.pass :: cs) fr) S QO = wp (execs gl cal cs fr) S QO := by simp only [execs, exec, wp_bind, wp_ret]
/-- o[i] = v, o a thing of the store -/
def setStep (a j d : D) (S : Store) (k : Store → Prop) : Prop := match a, j with
    | .loc n, .int j => (match S[n]? with
      | some (.lst xs) => (match L2.ixN xs.length j with
        | some q => k (S.set n (.lst (xs.set q d)))
        | none => False)
      | _ => False)
    | _, _ => False
theorem wp_xset {o i v : E} {cs : List Cmd} {fr : Fr} : wp (execs gl cal (.setIx o i v :: cs) fr) S QO = wp (readE gl cal true v fr) S fun d S => wp (readE gl cal true o fr) S fun a S => wp (readE gl cal true i fr) S fun j S => setStep a j d S fun S => wp (execs gl cal cs fr) S QO := by
  simp only [execs, exec, wp_bind]
  congr 1
  funext d S
  congr 1
  funext a S
  congr 1
  funext j S
  unfold wp setStep
  cases a <;> first | rfl | skip
  cases j <;> first | rfl | skip
  simp only []
  rename_i n j
  cases hS : S[n]? with
  | none => rfl
  | some o =>
    cases o with
    | lst xs =>
      simp only []
      cases L2.ixN xs.length j <;> rfl
/-- for -/
theorem wp_xfor {tg : Tg} {k : SK} {es : List E} {body cs : List Cmd} {fr : Fr} : wp (execs gl cal (.for_ tg k es body :: cs) fr) S QO = wp (evalEs gl cal es (fr.env false)) S fun ds S => wp (srcItems k ds) S fun items S => wp (forLoop (fun x fr => match storeT tg x fr with
    | some fr' => execs gl cal body fr'
    | none => M.stk) items fr) S fun o S => (match o with
      | .nx fr' => wp (execs gl cal cs fr') S QO
      | o => QO o S) := by
  simp only [execs, exec, wp_bind]
  congr 1
  funext d S
  congr 1
  funext a S
  congr 1
  funext o S
  cases o <;> simp only [wp_ret]
/-- a loop by an invariant -/
theorem wp_loop {f : D → Fr → M Out} (I : Nat → Fr → Store → Prop) {QO : Out → Store → Prop} : ∀ (items : List D) (n : Nat) (fr : Fr) (S : Store), I n fr S →
    (∀ j x fr S, items[j]? = some x → I (n + j) fr S → wp (f x fr) S fun o S => match o with
      | .nx fr' => I (n + j + 1) fr' S
      | .ct fr' => I (n + j + 1) fr' S
      | .bk fr' => QO (.nx fr') S
      | .ret d => QO (.ret d) S) → (∀ fr S, I (n + items.length) fr S → QO (.nx fr) S) → wp (forLoop f items fr) S QO
  | [], n, fr, S, h, _, he => by
    simp only [forLoop, wp_ret]
    exact he fr S h
  | x :: xs, n, fr, S, h, hs, he => by
    simp only [forLoop, wp_bind]
    have next : ∀ fr' S', I (n + 1) fr' S' → wp (forLoop f xs fr') S' QO := fun fr' S' h' => by
      refine wp_loop I xs (n + 1) fr' S' h' (fun j y fr S hy hI => ?_) fun fr S hI => he fr S ?_
      · have := hs (j + 1) y fr S (by simpa using hy) (by rw [show n + (j + 1) = n + 1 + j by omega]; exact hI)
        rw [show n + (j + 1) + 1 = n + 1 + j + 1 by omega] at this
        exact this
      · rw [List.length_cons, show n + (xs.length + 1) = n + 1 + xs.length by omega]
        exact hI
    refine wp_mono (hs 0 x fr S rfl h) fun o S' q => ?_
    cases o with
    | nx fr' => exact next fr' S' q
    | ct fr' => exact next fr' S' q
    | bk fr' => exact q
    | ret d => exact q
/-- a comprehension whose turns leave the store alone -/
theorem wp_comp_map {f : D → M (Option D)} {g : D → Option D} : ∀ {items : List D} {QL : List D → Store → Prop}, (∀ x ∈ items, f x S = .ok (g x) S) → wp (compLoop f items) S QL = QL (items.filterMap g) S
  | [], QL, _ => by simp only [compLoop, wp_ret, List.filterMap_nil]
  | x :: xs, QL, h => by
    simp only [compLoop, wp_bind]
    rw [wp_eq (h x List.mem_cons_self), wp_comp_map fun y m => h y (List.mem_cons_of_mem _ m)]
    simp only [wp_ret, List.filterMap_cons]
    cases g x <;> rfl
/-- .. by a relation -/
theorem wp_comp_all {f : D → M (Option D)} (I : Store → Prop) (P : D → D → Prop) : ∀ {items : List D} {S : Store} {QL : List D → Store → Prop}, I S → (∀ x ∈ items, ∀ S, I S → wp (f x) S fun o S' => I S' ∧ ∃ y, o = some y ∧ P x y) →
    (∀ ys S', I S' → ys.length = items.length → (∀ (i : Nat) x y, items[i]? = some x → ys[i]? = some y → P x y) → QL ys S') → wp (compLoop f items) S QL
  | [], S, QL, hI, _, he => by
    simp only [compLoop, wp_ret]
    exact he [] S hI rfl fun i x y h => by simp at h
  | x :: xs, S, QL, hI, hs, he => by
    simp only [compLoop, wp_bind]
    refine wp_mono (hs x List.mem_cons_self S hI) fun o S1 ⟨hI1, y, ho, hp⟩ => ?_
    subst ho
    refine wp_comp_all I P hI1 (fun z m => hs z (List.mem_cons_of_mem _ m)) fun ys S2 hI2 hl hys => ?_
    simp only [wp_ret]
    refine he (y :: ys) S2 hI2 (by rw [List.length_cons, List.length_cons, hl]) fun i u v hu hv => ?_
    cases i with
    | zero => cases hu; cases hv; exact hp
    | succ i => exact hys i u v (by simpa using hu) (by simpa using hv)
/-- a turn of a comprehension -/
def compT (gl : Nat → Option D) (cal : Nat → List D → M D) (own : List Nat) (elt : E) (tg : Tg) (ifs : List E) (env : Env) (x : D) : M (Option D) := match bindT tg x (wipe env own) with
    | some env' => M.bind (evalIfs gl cal ifs env') fun c => if c = true then M.bind (evalE gl cal elt env') fun y => M.ret (some y) else M.ret none
    | none => M.stk
theorem wp_compT0 {own : List Nat} {elt : E} {tg : Tg} {env : Env} {x : D} {QP : Option D → Store → Prop} : wp (compT gl cal own elt tg [] env x) S QP = match bindT tg x (wipe env own) with
    | some env' => wp (evalE gl cal elt env') S fun y S => QP (some y) S
    | none => False := by
  unfold compT
  cases bindT tg x (wipe env own) with
  | none => rfl
  | some env' =>
    simp only [evalIfs, M.ret_bind']
    rw [if_pos trivial, wp_bind]
    rfl
theorem wp_compT1 {own : List Nat} {elt c : E} {tg : Tg} {env : Env} {x : D} {QP : Option D → Store → Prop} : wp (compT gl cal own elt tg [c] env x) S QP = match bindT tg x (wipe env own) with
    | some env' => wp (evalE gl cal c env') S fun d S => wp (truth d) S fun b S => if b = true then wp (evalE gl cal elt env') S fun y S => QP (some y) S else QP none S
    | none => False := by
  unfold compT
  cases bindT tg x (wipe env own) with
  | none => rfl
  | some env' =>
    simp only [evalIfs, wp_bind, wp_ite, wp_ret, if_true, Bool.false_eq_true, if_false]
theorem wp_comp_sub {f : D → M (Option D)} (I : Store → Prop) (P : D → Prop) : ∀ {items : List D} {S : Store} {QL : List D → Store → Prop}, I S → (∀ x ∈ items, ∀ S, I S → wp (f x) S fun o S' => I S' ∧ ∀ y, o = some y → P y) →
    (∀ ys S', I S' → ys.length ≤ items.length → (∀ y ∈ ys, P y) → QL ys S') → wp (compLoop f items) S QL
  | [], S, QL, hI, _, he => by
    simp only [compLoop, wp_ret]
    exact he [] S hI (Nat.le_refl _) fun y m => by cases m
  | x :: xs, S, QL, hI, hs, he => by
    simp only [compLoop, wp_bind]
    refine wp_mono (hs x List.mem_cons_self S hI) fun o S1 ⟨hI1, hp⟩ => ?_
    refine wp_comp_sub I P hI1 (fun z m => hs z (List.mem_cons_of_mem _ m)) fun ys S2 hI2 hl hys => ?_
    simp only [wp_ret]
    cases o with
    | none => exact he ys S2 hI2 (by rw [List.length_cons]; omega) hys
    | some y =>
      refine he (y :: ys) S2 hI2 (by rw [List.length_cons, List.length_cons]; omega) fun z m => ?_
      rcases List.mem_cons.mp m with rfl | m
      · exact hp _ rfl
      · exact hys z m
theorem wp_compE {own : List Nat} {elt : E} {tg : Tg} {k : SK} {es ifs : List E} {env : Env} : wp (evalE gl cal (.comp own elt tg k es ifs) env) S Q = wp (evalEs gl cal es env) S fun ds S => wp (srcItems k ds) S fun items S => wp (compLoop (compT gl cal own elt tg ifs env) items) S fun ys S => Q (.lst ys) S := by
  simp only [evalE, wp_bind, wp_ret]
  rfl
end
/-- a call of a def by its body -/
theorem wp_run {gl : Nat → Option D} {prog : List Fn} {k f : Nat} {fn : Fn} {ds : List D} {S : Store} {Q : D → Store → Prop} (h : prog[f]? = some fn) (hl : ds.length = fn.np) : wp (run gl prog (k + 1) f ds) S Q = wp (execs gl (run gl prog k) fn.body (startF fn.ns ds)) S fun o S => (match o with
    | .ret d => Q d S
    | .nx _ => Q .non S
    | _ => False) := by
  conv => lhs; unfold run
  rw [h]
  show wp (if ds.length = fn.np then _ else M.stk) S Q = _
  rw [if_pos hl, wp_bind]
  congr 1
  funext o S
  cases o <;> rfl
end Z

/-! ZP2: operations, by what they give -/
namespace Z
open PySem
section
variable {S : Store} {Q : D → Store → Prop} {QL : List D → Store → Prop}
def isD (t : BT) (v : D) : Bool := isT [] t v
theorem okT_dat {v : D} (h : v.dat = true) : okT S v = true := by cases v <;> first | rfl | cases h
theorem isT_dat {v : D} {t : BT} (h : v.dat = true) : isT S t v = isD t v := by cases v <;> cases t <;> first | rfl | cases h
theorem wp_isi {v : D} {t : BT} (h : v.dat = true) : wp (opSem (.isi t) [v]) S Q = Q (.bl (isD t v)) S := by
  show wpR (if okT S v = true then Res.ok (D.bl (isT S t v)) S else .stuck) Q = _
  rw [if_pos (okT_dat h), isT_dat h]
  rfl
theorem wp_isis {v : D} {ts : List BT} (h : v.dat = true) : wp (opSem (.isis ts) [v]) S Q = Q (.bl (ts.any fun t => isD t v)) S := by
  show wpR (if okT S v = true then Res.ok (D.bl (ts.any fun t => isT S t v)) S else .stuck) Q = _
  have e : (fun t => isT S t v) = fun t => isD t v := funext fun t => isT_dat h
  rw [if_pos (okT_dat h), e]
  rfl
def eqD (a b : D) : Bool := PyData.eqv a.py b.py
def okD (a b : D) : Bool := a.dat && b.dat && decide (min a.dep b.dep ≤ many)
theorem wp_eq_ {a b : D} (h : okD a b = true) : wp (cmpSem .Eq a b) S Q = Q (.bl (eqD a b)) S := by
  have e : cmpSem .Eq a b = toB (dEq a b) := by simp only [cmpSem]
  have e2 : dEq a b = some (PyData.eqv a.py b.py) := if_pos h
  rw [e, e2]
  rfl
theorem wp_ne_ {a b : D} (h : okD a b = true) : wp (cmpSem .NotEq a b) S Q = Q (.bl (!eqD a b)) S := by
  have e : cmpSem .NotEq a b = toB ((dEq a b).map (!·)) := by simp only [cmpSem]
  have e2 : dEq a b = some (PyData.eqv a.py b.py) := if_pos h
  rw [e, e2]
  rfl
theorem okD_int {a : D} {i : Int} (h : a.dat = true) : okD a (.int i) = true := by
  unfold okD
  rw [h]
  simp [D.dat, D.dep]
theorem eqD_int {i j : Int} : eqD (.int i) (.int j) = decide (i = j) := by
  show PyData.eqv (.int i) (.int j) = _
  simp only [PyData.eqv]
  rw [Bool.beq_eq_decide_eq]
theorem wp_eqI {i j : Int} : wp (cmpSem .Eq (.int i) (.int j)) S Q = Q (.bl (decide (i = j))) S := by rw [wp_eq_ rfl, eqD_int]
theorem wp_neI {i j : Int} : wp (cmpSem .NotEq (.int i) (.int j)) S Q = Q (.bl (!decide (i = j))) S := by rw [wp_ne_ rfl, eqD_int]
theorem wp_ltI {i j : Int} : wp (cmpSem .Lt (.int i) (.int j)) S Q = Q (.bl (decide (i < j))) S := (rfl)
theorem wp_leI {i j : Int} : wp (cmpSem .LtE (.int i) (.int j)) S Q = Q (.bl (decide (i ≤ j))) S := (rfl)
theorem wp_gtI {i j : Int} : wp (cmpSem .Gt (.int i) (.int j)) S Q = Q (.bl (decide (j < i))) S := (rfl)
theorem wp_geI {i j : Int} : wp (cmpSem .GtE (.int i) (.int j)) S Q = Q (.bl (decide (j ≤ i))) S := (rfl)
theorem wp_isB {a b : Bool} : wp (cmpSem .Is (.bl a) (.bl b)) S Q = Q (.bl (decide (a = b))) S := (rfl)
theorem wp_isN {a : D} : wp (cmpSem .Is a .non) S Q = Q (.bl (match a with
    | .non => true
    | _ => false)) S := by cases a <;> rfl
def ltD (a b : D) : Bool := PySem.W.dataLt a.py b.py
theorem leD_eq (a b : D) : leD a b = !ltD b a := (rfl)
def okC (a b : D) : Bool := a.dat && b.dat && alk a b && decide (min a.dep b.dep ≤ many)
def notI : D → Bool
  | .int _ => false
  | _ => true
theorem wp_lt_ {a b : D} (n : notI a = true) (h : okC a b = true) : wp (cmpSem .Lt a b) S Q = Q (.bl (ltD a b)) S := by
  have e : cmpSem .Lt a b = toB (dLt a b) := by cases a <;> first | exact absurd n Bool.false_ne_true | (simp only [cmpSem])
  have e2 : dLt a b = some (PySem.W.dataLt a.py b.py) := if_pos h
  rw [e, e2]
  rfl
theorem wp_le_ {a b : D} (n : notI a = true) (h : okC a b = true) : wp (cmpSem .LtE a b) S Q = Q (.bl (leD a b)) S := by
  have e : cmpSem .LtE a b = toB (dLe a b) := by cases a <;> first | exact absurd n Bool.false_ne_true | (simp only [cmpSem])
  have e2 : dLe a b = some (!PySem.W.dataLt b.py a.py) := if_pos h
  rw [e, e2]
  rfl
theorem wp_add {i j : Int} : wp (opSem (.bin .Add) [.int i, .int j]) S Q = Q (.int (i + j)) S := (rfl)
theorem wp_sub {i j : Int} : wp (opSem (.bin .Sub) [.int i, .int j]) S Q = Q (.int (i - j)) S := (rfl)
theorem wp_mul {i j : Int} (h : i.natAbs < 2 ^ 64 ∨ j.natAbs < 2 ^ 64) : wp (opSem (.bin .Mult) [.int i, .int j]) S Q = Q (.int (i * j)) S := by
  show wp (if i.natAbs < 2 ^ 64 ∨ j.natAbs < 2 ^ 64 then M.ret (.int (i * j)) else M.stk) S Q = _
  rw [if_pos h]
  rfl
theorem wp_mod {i j : Int} (h : 0 < j) : wp (opSem (.bin .Mod) [.int i, .int j]) S Q = Q (.int (i % j)) S := by
  show wp (if 0 < j then M.ret (.int (i % j)) else M.stk) S Q = _
  rw [if_pos h]
  rfl
theorem wp_fdiv {i j : Int} (h : 0 < j ∧ j < 1073741824) : wp (opSem (.bin .FloorDiv) [.int i, .int j]) S Q = Q (.int (i / j)) S := by
  show wp (if 0 < j ∧ j < 1073741824 then M.ret (.int (i / j)) else M.stk) S Q = _
  rw [if_pos h]
  rfl
theorem wp_addS {a b : Str} (h : a.length + b.length ≤ sizeLine) : wp (opSem (.bin .Add) [.str a, .str b]) S Q = Q (.str (a ++ b)) S := by
  show wp (if a.length + b.length ≤ sizeLine then M.ret (.str (a ++ b)) else M.stk) S Q = _
  rw [if_pos h]
  rfl
theorem wp_addT {a b : List D} (h : a.length + b.length ≤ sizeLine) : wp (opSem (.bin .Add) [.tup a, .tup b]) S Q = Q (.tup (a ++ b)) S := by
  show wp (if a.length + b.length ≤ sizeLine then M.ret (.tup (a ++ b)) else M.stk) S Q = _
  rw [if_pos h]
  rfl
theorem wp_tup {ds : List D} (h : ds.length ≤ sizeLine) : wp (opSem .tup ds) S Q = Q (.tup ds) S := by
  have e : opSem .tup ds = (if ds.length ≤ sizeLine then M.ret (.tup ds) else M.stk) := by
    rcases ds with _ | ⟨a, _ | ⟨b, _ | ⟨c, r⟩⟩⟩ <;> rfl
  rw [e, if_pos h]
  rfl
theorem wp_lst {ds : List D} (h : ds.length ≤ sizeLine) : wp (opSem .lst ds) S Q = Q (.lst ds) S := by
  have e : opSem .lst ds = (if ds.length ≤ sizeLine then M.ret (.lst ds) else M.stk) := by
    rcases ds with _ | ⟨a, _ | ⟨b, _ | ⟨c, r⟩⟩⟩ <;> rfl
  rw [e, if_pos h]
  rfl
theorem wp_neg {i : Int} : wp (opSem .neg [.int i]) S Q = Q (.int (-i)) S := (rfl)
theorem wp_cmp {o : CmpOp} {a b : D} : wp (opSem (.cmp o) [a, b]) S Q = wp (cmpSem o a b) S Q := (rfl)
theorem wp_lenT {xs : List D} : wp (opSem (.bi .len) [.tup xs]) S Q = Q (.int xs.length) S := (rfl)
theorem wp_lenL {xs : List D} : wp (opSem (.bi .len) [.lst xs]) S Q = Q (.int xs.length) S := (rfl)
theorem wp_lenR {xs : List D} : wp (opSem (.bi .len) [.scr xs]) S Q = Q (.int xs.length) S := (rfl)
theorem wp_lenS {z : Str} : wp (opSem (.bi .len) [.str z]) S Q = Q (.int z.length) S := (rfl)
theorem allB_map {α : Type} {g : α → Bool} : ∀ xs : List α, allB (xs.map fun x => D.bl (g x)) = some (xs.map g)
  | [] => rfl
  | x :: xs => by
    simp only [List.map_cons, allB, allB_map xs]
    rfl
theorem wp_allM {α : Type} {g : α → Bool} {xs : List α} : wp (opSem (.bi .all) [.lst (xs.map fun x => D.bl (g x))]) S Q = Q (.bl (xs.all g)) S := by
  show wp (match allB (xs.map fun x => D.bl (g x)) with
    | some bs => okB (bs.all id)
    | none => M.stk) S Q = _
  rw [allB_map]
  show Q (.bl ((xs.map g).all id)) S = _
  rw [List.all_map]
  rfl
theorem wp_anyM {α : Type} {g : α → Bool} {xs : List α} : wp (opSem (.bi .any) [.lst (xs.map fun x => D.bl (g x))]) S Q = Q (.bl (xs.any g)) S := by
  show wp (match allB (xs.map fun x => D.bl (g x)) with
    | some bs => okB (bs.any id)
    | none => M.stk) S Q = _
  rw [allB_map]
  show Q (.bl ((xs.map g).any id)) S = _
  rw [List.any_map]
  rfl
theorem atI_nat {α : Type} {xs : List α} {i : Int} (h0 : 0 ≤ i) (h : i.toNat < xs.length) : L2.atI xs i = some xs[i.toNat] := by
  unfold L2.atI L2.ixN
  rw [if_pos h0, if_pos (by omega)]
  show xs[i.toNat]? = _
  exact List.getElem?_eq_getElem h
theorem wp_ixT {xs : List D} {i : Int} {d : D} (h : L2.atI xs i = some d) : wp (opSem .ix [.tup xs, .int i]) S Q = Q d S := by
  show wpR (at? xs i S) Q = _
  unfold at?
  rw [h]
  rfl
theorem wp_ixL {xs : List D} {i : Int} {d : D} (h : L2.atI xs i = some d) : wp (opSem .ix [.lst xs, .int i]) S Q = Q d S := by
  show wpR (at? xs i S) Q = _
  unfold at?
  rw [h]
  rfl
theorem wp_ixR {xs : List D} {i : Int} {d : D} (h : L2.atI xs i = some d) : wp (opSem .ix [.scr xs, .int i]) S Q = Q d S := by
  show wpR (at? xs i S) Q = _
  unfold at?
  rw [h]
  rfl
theorem wp_ixS {z : Str} {i : Int} {c : Nat} (h : L2.atI z.cps.toList i = some c) : wp (opSem .ix [.str z, .int i]) S Q = Q (.str ⟨#[c]⟩) S := by
  show wpR (match L2.atI z.cps.toList i with
      | some c => .ok (.str ⟨#[c]⟩) S
      | none => .stuck) Q = _
  rw [h]
  rfl
theorem wp_ixB {n : Nat} {xs : List D} {i : Int} {d : D} (hS : S[n]? = some (.lst xs)) (h : L2.atI xs i = some d) : wp (opSem .ix [.loc n, .int i]) S Q = Q d S := by
  show wpR (match seqOf S (.loc n) with
      | some xs => at? xs i S
      | none => .stuck) Q = _
  have e : seqOf S (.loc n) = some xs := by
    show (match S[n]? with
    | some (.lst xs) => some xs
    | _ => none) = _
    rw [hS]
  rw [e]
  show wpR (at? xs i S) Q = _
  unfold at?
  rw [h]
  rfl
theorem py_map : ∀ xs : List D, D.pys xs = xs.map D.py
  | [] => rfl
  | x :: xs => by rw [D.pys, py_map xs, List.map_cons]
theorem dats_all : ∀ xs : List D, D.dats xs = xs.all D.dat
  | [] => rfl
  | x :: xs => by rw [D.dats, dats_all xs, List.all_cons]
theorem dats_mem {xs : List D} : D.dats xs = true ↔ ∀ x ∈ xs, x.dat = true := by rw [dats_all, List.all_eq_true]
theorem deps_le : ∀ {xs : List D} {n : Nat}, D.deps xs ≤ n ↔ ∀ x ∈ xs, x.dep ≤ n
  | [], n => by simp [D.deps]
  | x :: xs, n => by
    rw [D.deps, Nat.max_le, deps_le]
    simp
/-! ### the order -/
theorem leD_trans (a b c : D) (h1 : leD a b = true) (h2 : leD b c = true) : leD a c = true := (PySem.W.sortLe_total _ false _).trans a b c h1 h2
theorem leD_total (a b : D) : (leD a b || leD b a) = true := by
  have := (PySem.W.sortLe_total (PyProof.Rows.listOrd PyProof.Rows.itemOrd) false fun b : D => PySem.W.keyToks b.py).total a b
  rw [Bool.or_eq_true]
  exact this
def adjLe : List D → Bool
  | a :: b :: r => leD a b && adjLe (b :: r)
  | _ => true
theorem adj_pair : ∀ {xs : List D}, adjLe xs = true → xs.Pairwise (fun a b => leD a b = true)
  | [], _ => .nil
  | [a], _ => List.pairwise_singleton _ _
  | a :: b :: r, h => by
    simp only [adjLe, Bool.and_eq_true] at h
    have p := adj_pair h.2
    refine .cons (fun c m => ?_) p
    rcases List.mem_cons.mp m with rfl | m
    · exact h.1
    · exact leD_trans _ _ _ h.1 ((List.pairwise_cons.mp p).1 c m)
theorem pair_adj : ∀ {xs : List D}, xs.Pairwise (fun a b => leD a b = true) → adjLe xs = true
  | [], _ => rfl
  | [a], _ => rfl
  | a :: b :: r, h => by
    simp only [adjLe, Bool.and_eq_true]
    exact ⟨(List.pairwise_cons.mp h).1 b List.mem_cons_self, pair_adj (List.pairwise_cons.mp h).2⟩
theorem sortD_adj (xs : List D) : adjLe (sortD xs) = true := pair_adj (List.pairwise_mergeSort leD_trans leD_total xs)
theorem sortD_of {xs : List D} (h : adjLe xs = true) : sortD xs = xs := List.mergeSort_of_pairwise (adj_pair h)
theorem eqvAll_cons {a b : PyData} {as bs : List PyData} : PyData.eqvAll (a :: as) (b :: bs) = (PyData.eqv a b && PyData.eqvAll as bs) := by rw [PyData.eqvAll]
/-- equal rows are ordered alike -/
theorem adj_eqv : ∀ {xs ys : List D}, (∀ x ∈ xs, ∀ y ∈ ys, PySem.W.alike x.py y.py = true) → PyData.eqvAll (xs.map D.py) (ys.map D.py) = true → adjLe ys = adjLe xs
  | [], [], _, _ => rfl
  | [], _ :: _, _, h => by simp [PyData.eqvAll] at h
  | _ :: _, [], _, h => by simp [PyData.eqvAll] at h
  | [a], [b], _, _ => rfl
  | [a], b :: c :: r, _, h => by simp [PyData.eqvAll] at h
  | a :: b :: r, [c], _, h => by simp [PyData.eqvAll] at h
  | a :: b :: r, c :: d :: t, hl, h => by
    rw [List.map_cons (a := a), List.map_cons (a := c), eqvAll_cons, Bool.and_eq_true] at h
    have ih := adj_eqv (xs := b :: r) (ys := d :: t) (fun x m y m' => hl x (List.mem_cons_of_mem _ m) y (List.mem_cons_of_mem _ m')) h.2
    have h2 := h.2
    rw [List.map_cons, List.map_cons, eqvAll_cons, Bool.and_eq_true] at h2
    have e1 := (PySem.W.toks_eqv a.py c.py (hl a (by simp) c (by simp))).1 h.1
    have e2 := (PySem.W.toks_eqv b.py d.py (hl b (by simp) d (by simp))).1 h2.1
    simp only [adjLe]
    rw [ih]
    have e : leD c d = leD a b := by
      rw [leD_eq, leD_eq]
      unfold ltD PySem.W.dataLt
      rw [e1, e2]
    rw [e]
/-- a row is its sorted self just if it rises -/
theorem eqv_sorted {xs : List D} (hl : ∀ x ∈ xs, ∀ y ∈ xs, PySem.W.alike x.py y.py = true) : eqD (.lst xs) (.lst (sortD xs)) = adjLe xs := by
  have e : eqD (.lst xs) (.lst (sortD xs)) = PyData.eqvAll (xs.map D.py) ((sortD xs).map D.py) := by
    show PyData.eqv (.list (D.pys xs)) (.list (D.pys (sortD xs))) = _
    rw [PyData.eqv, py_map, py_map]
  rw [e]
  cases q : adjLe xs with
  | true =>
    rw [sortD_of q]
    clear q e
    induction xs with
    | nil => rfl
    | cons a r ih =>
      rw [List.map_cons, eqvAll_cons, Bool.and_eq_true]
      exact ⟨PySem.W.eqv_refl_alike _ (hl a (by simp) a (by simp)), ih fun x m y m' => hl x (List.mem_cons_of_mem _ m) y (List.mem_cons_of_mem _ m')⟩
  | false =>
    cases z : PyData.eqvAll (xs.map D.py) ((sortD xs).map D.py) with
    | false => rfl
    | true =>
      have := adj_eqv (fun x m y m' => hl x m y (List.mem_mergeSort.mp m')) z
      have s := sortD_adj xs
      unfold sortD at s
      rw [s, q] at this
      cases this
theorem of_wp {α : Type} {m : M α} {a : α} {S S' : Store} (h : wp m S fun a' S'' => a' = a ∧ S'' = S') : m S = .ok a S' := by
  obtain ⟨a', S'', e, rfl, rfl⟩ := wp_ok h
  exact e
end
end Z

/-! ZP3: the drawing helpers that all laws share -/
namespace Z
open PySem
section
variable {S T : Store} {Q : D → Store → Prop} {x0 x1 x2 x3 d : D} {k : Store → Prop}
theorem bag_0 : wp (opSem .ix [.loc 0, .int 0]) (.lst [x0, x1, x2, x3] :: T) Q = Q x0 (.lst [x0, x1, x2, x3] :: T) := (rfl)
theorem bag_1 : wp (opSem .ix [.loc 0, .int 1]) (.lst [x0, x1, x2, x3] :: T) Q = Q x1 (.lst [x0, x1, x2, x3] :: T) := (rfl)
theorem bag_2 : wp (opSem .ix [.loc 0, .int 2]) (.lst [x0, x1, x2, x3] :: T) Q = Q x2 (.lst [x0, x1, x2, x3] :: T) := (rfl)
theorem bag_3 : wp (opSem .ix [.loc 0, .int 3]) (.lst [x0, x1, x2, x3] :: T) Q = Q x3 (.lst [x0, x1, x2, x3] :: T) := (rfl)
theorem set_1 : setStep (.loc 0) (.int 1) d (.lst [x0, x1, x2, x3] :: T) k = k (.lst [x0, d, x2, x3] :: T) := (rfl)
theorem set_2 : setStep (.loc 0) (.int 2) d (.lst [x0, x1, x2, x3] :: T) k = k (.lst [x0, x1, d, x3] :: T) := (rfl)
theorem set_3 : setStep (.loc 0) (.int 3) d (.lst [x0, x1, x2, x3] :: T) k = k (.lst [x0, x1, x2, d] :: T) := (rfl)
theorem wp_fitTI {i : Int} : wp (fitM true (.int i)) S Q = Q (.int i) S := wp_fitT rfl
theorem wp_fitTL {n : Nat} : wp (fitM true (.loc n)) S Q = Q (.loc n) S := wp_fitT rfl
theorem wp_fitTB {b : Bool} : wp (fitM true (.bl b)) S Q = Q (.bl b) S := wp_fitT rfl
theorem wp_int {i : Int} : wp (opSem (.bi .int) [.int i]) S Q = Q (.int i) S := (rfl)
theorem wp_abs {i : Int} : wp (opSem (.bi .abs) [.int i]) S Q = Q (.int (if i < 0 then -i else i)) S := (rfl)
theorem wp_pow18 : wp (opSem (.bin .Pow) [.int 10, .int 18]) S Q = Q (.int 1000000000000000000) S := (rfl)
end
/-- the bag: the script's numbers, where it stands, what is left of a great number, the last number made -/
def Bag (T S : Store) : Prop := ∃ (cells : List Int) (a b c : Int), S = .lst [.lst (cells.map D.int), .int a, .int b, .int c] :: T ∧ 0 ≤ a ∧ 0 ≤ b ∧ 0 ≤ c ∧ c < 2147483647
def pull0 : Cmd :=
  .ifs false (.bool true [(.op (.cmp .Eq) [(.op .ix [(.var 0), (.const (.int 2))]), (.const (.int 0))]), (.op (.cmp .Lt) [(.op .ix [(.var 0), (.const (.int 1))]), (.op (.bi .len) [(.op .ix [(.var 0), (.const (.int 0))])])])]) [.asg false (.name 3) (.op .ix [(.op .ix [(.var 0), (.const (.int 0))]), (.op .ix [(.var 0), (.const (.int 1))])]), .setIx (.var 0) (.const (.int 1)) (.op (.bin .Add) [(.op .ix [(.var 0), (.const (.int 1))]), (.const (.int 1))]), .ifs false (.op (.cmp .GtE) [(.op (.bi .abs) [(.var 3)]), (.op (.bin .Pow) [(.const (.int 10)), (.const (.int 18))])]) [.setIx (.var 0) (.const (.int 2)) (.op (.bi .abs) [(.var 3)])] [.setIx (.var 0) (.const (.int 3)) (.op (.bin .Mod) [(.op (.bi .int) [(.op (.bin .Add) [(.op (.bin .Add) [(.op (.bin .Mult) [(.op .ix [(.var 0), (.const (.int 3))]), (.const (.int 48271))]), (.op (.bin .Mult) [(.op (.bin .Mod) [(.op (.bi .int) [(.var 3)]), (.const (.int 1000003))]), (.const (.int 911))])]), (.const (.int 7))])]), (.const (.int 2147483647))])]] []
def pull1 : List Cmd := [
  .ifs false (.op (.cmp .Gt) [(.op .ix [(.var 0), (.const (.int 2))]), (.const (.int 0))]) [.asg false (.name 4) (.op (.bin .Mod) [(.op (.bi .int) [(.op .ix [(.var 0), (.const (.int 2))])]), (.var 1)]), .setIx (.var 0) (.const (.int 2)) (.op (.bin .FloorDiv) [(.op .ix [(.var 0), (.const (.int 2))]), (.var 1)]), .ret false (.var 4)] [],
  .asg false (.name 2) (.op (.bin .Mod) [(.op (.bi .int) [(.op (.bin .Mult) [(.op .ix [(.var 0), (.const (.int 3))]), (.op .ix [(.var 0), (.const (.int 3))])])]), (.const (.int 2147483629))]),
  .setIx (.var 0) (.const (.int 3)) (.op (.bin .Mod) [(.op (.bi .int) [(.op (.bin .Add) [(.op (.bin .Add) [(.op (.bin .Mult) [(.var 2), (.const (.int 16807))]), (.op (.bin .Mult) [(.op .ix [(.var 0), (.const (.int 3))]), (.const (.int 40692))])]), (.const (.int 12345))])]), (.const (.int 2147483647))]),
  .ret false (.op (.bin .Mod) [(.op (.bi .int) [(.op (.bin .FloorDiv) [(.op .ix [(.var 0), (.const (.int 3))]), (.const (.int 64))])]), (.var 1)])]
def pullB : List Cmd := pull0 :: pull1
section
variable {gl : Nat → Option D} {prog : List Fn} {S T : Store} {Q : D → Store → Prop}
/-- the second half of a draw -/
theorem pull_end {cal : Nat → List D → M D} {n : Int} (h0 : 0 < n) (hn : n < 1073741824) (hB : Bag T S) (q : ∀ r S', Bag T S' → 0 ≤ r → r < n → Q (.int r) S') {s3 s4 : Slot} :
    wp (execs gl cal pull1 [.val (.loc 0), .val (.int n), .no, s3, s4]) S fun o S => (match o with
    | .ret d => Q d S
    | .nx _ => Q .non S
    | _ => False) := by
  obtain ⟨cells, a, b, c, rfl, ha, hb, hc, hc2⟩ := hB
  simp only [pull1, wp_xif0, wp_read, wp_fitF, wp_op, wp_cons, wp_nil, wp_varM, wp_const, Fr.env, Bool.false_eq_true, if_false, List.map_cons, List.map_nil, List.getElem?_cons_zero, List.getElem?_cons_succ, Slot.str, bag_2, wp_cmp, wp_gtI, wp_truthB]
  by_cases hb0 : 0 < b
  · rw [if_pos (decide_eq_true hb0)]
    simp only [wp_xasgN, wp_xret, wp_xset, wp_read, wp_fitF, wp_fitTI, wp_fitTL, wp_op, wp_cons, wp_nil, wp_varM, wp_const, Fr.env, Bool.false_eq_true, if_false, if_true, List.map_cons, List.map_nil, List.set_cons_zero, List.set_cons_succ, List.getElem?_cons_zero, List.getElem?_cons_succ, Slot.str, Slot.brw, bag_2, wp_int, wp_mod h0, wp_fdiv ⟨h0, hn⟩, set_2]
    exact q _ _ ⟨cells, a, b / n, c, rfl, ha, Int.ediv_nonneg hb (by omega), hc, hc2⟩ (Int.emod_nonneg _ (by omega)) (Int.emod_lt_of_pos _ h0)
  · rw [if_neg (by simpa using hb0)]
    have m1 : c.natAbs < 2 ^ 64 ∨ c.natAbs < 2 ^ 64 := .inl (by omega)
    simp only [wp_xasgN, wp_xret, wp_xset, wp_read, wp_fitF, wp_fitTI, wp_fitTL, wp_op, wp_cons, wp_nil, wp_varM, wp_const, Fr.env, Bool.false_eq_true, if_false, if_true, List.map_cons, List.map_nil, List.set_cons_zero, List.set_cons_succ, List.getElem?_cons_zero, List.getElem?_cons_succ, Slot.str, Slot.brw, bag_3, wp_int, wp_mul m1, wp_mod (show (0 : Int) < 2147483629 by omega), wp_mod (show (0 : Int) < 2147483647 by omega), wp_mod h0, wp_mul (j := 16807) (.inr (by omega)), wp_mul (j := 40692) (.inr (by omega)), wp_add, wp_fdiv (show (0 : Int) < 64 ∧ (64 : Int) < 1073741824 by omega), set_3]
    exact q _ _ ⟨cells, a, b, _, rfl, ha, hb, Int.emod_nonneg _ (by omega), Int.emod_lt_of_pos _ (by omega)⟩ (Int.emod_nonneg _ (by omega)) (Int.emod_lt_of_pos _ h0)
theorem wp_pull {k i : Nat} (h : prog[i]? = some ⟨2, 5, pullB⟩) {n : Int} (h0 : 0 < n) (hn : n < 1073741824) (hB : Bag T S) (q : ∀ r S', Bag T S' → 0 ≤ r → r < n → Q (.int r) S') :
    wp (run gl prog (k + 1) i [.loc 0, .int n]) S Q := by
  rw [wp_run h rfl]
  show wp (execs gl _ pullB [.val (.loc 0), .val (.int n), .no, .no, .no]) S _
  obtain ⟨cells, a, b, c, rfl, ha, hb, hc, hc2⟩ := hB
  have fin : ∀ {s3 s4 : Slot} {S'}, Bag T S' → wp (execs gl (run gl prog k) pull1 [.val (.loc 0), .val (.int n), .no, s3, s4]) S' fun o S => (match o with
    | .ret d => Q d S
    | .nx _ => Q .non S
    | _ => False) := fun hB => pull_end h0 hn hB q
  simp only [pullB, pull0, wp_xif0, wp_read, wp_fitF, wp_op, wp_cons, wp_nil, wp_varM, wp_const, wp_boolE, wp_bool2, wp_bool1, Fr.env, Bool.false_eq_true, if_false, List.map_cons, List.map_nil, List.getElem?_cons_zero, List.getElem?_cons_succ, Slot.str, bag_0, bag_1, bag_2, wp_cmp, wp_eqI, wp_ltI, wp_truthB, wp_lenL, List.length_map]
  by_cases hb0 : b = 0
  · rw [if_pos (decide_eq_true hb0)]
    by_cases hl : a < cells.length
    · rw [if_pos (decide_eq_true hl)]
      have hat : L2.atI (cells.map D.int) a = some (.int (cells[a.toNat]'(by omega))) := by
        rw [atI_nat ha (by rw [List.length_map]; omega)]
        simp
      generalize cells[a.toNat]'(by omega) = ce at hat
      simp only [wp_xasgN, wp_x0, wp_xif, wp_xset, wp_read, wp_fitF, wp_fitTI, wp_fitTL, wp_op, wp_cons, wp_nil, wp_varM, wp_const, Fr.env, Bool.false_eq_true, if_false, if_true, List.map_cons, List.map_nil, List.set_cons_zero, List.set_cons_succ, List.getElem?_cons_zero, List.getElem?_cons_succ, Slot.str, Slot.brw, bag_0, bag_1, wp_ixL hat, wp_add, set_1, wp_abs, wp_pow18, wp_cmp, wp_geI, wp_truthB, bag_3, wp_int, wp_mul (j := 48271) (.inr (by omega)), wp_mod (show (0 : Int) < 1000003 by omega), wp_mul (j := 911) (.inr (by omega)), wp_mod (show (0 : Int) < 2147483647 by omega), set_2, set_3]
      have hu : 0 ≤ (if ce < 0 then -ce else ce) := by split <;> omega
      generalize (if ce < 0 then -ce else ce) = u at hu
      split
      · exact fin ⟨cells, a + 1, u, c, rfl, by omega, hu, hc, hc2⟩
      · exact fin ⟨cells, a + 1, b, _, rfl, by omega, hb, Int.emod_nonneg _ (by omega), Int.emod_lt_of_pos _ (by omega)⟩
    · rw [if_neg (by simpa using hl)]
      exact fin ⟨cells, a, b, c, rfl, ha, hb, hc, hc2⟩
  · rw [if_neg (by simpa using hb0), if_neg (by simpa using hb0)]
    exact fin ⟨cells, a, b, c, rfl, ha, hb, hc, hc2⟩
/-- one of some -/
theorem wp_ofL {k i j : Nat} (h : prog[i]? = some ⟨2, 2, [.ret false (.op .ix [(.var 1), (.call j [(.var 0), (.op (.bi .len) [(.var 1)])])])]⟩) (hp : prog[j]? = some ⟨2, 5, pullB⟩) {xs : List D} (h0 : 0 < xs.length) (hn : xs.length < 1073741824) (hB : Bag T S)
    (q : ∀ x S', Bag T S' → x ∈ xs → Q x S') : wp (run gl prog (k + 2) i [.loc 0, .lst xs]) S Q := by
  rw [wp_run h rfl]
  show wp (execs gl _ _ [.val (.loc 0), .val (.lst xs)]) S _
  simp only [wp_xret, wp_read, wp_fitF, wp_op, wp_call, wp_cons, wp_nil, wp_varM, Fr.env, Bool.false_eq_true, if_false, List.map_cons, List.map_nil, List.getElem?_cons_zero, List.getElem?_cons_succ, Slot.str, wp_lenL]
  refine wp_pull hp (by omega) (by omega) hB fun r S' hB' h1 h2 => ?_
  rw [wp_ixL (atI_nat h1 (by omega))]
  exact q _ _ hB' (List.getElem_mem _)
theorem wp_ofT {k i j : Nat} (h : prog[i]? = some ⟨2, 2, [.ret false (.op .ix [(.var 1), (.call j [(.var 0), (.op (.bi .len) [(.var 1)])])])]⟩) (hp : prog[j]? = some ⟨2, 5, pullB⟩) {xs : List D} (h0 : 0 < xs.length) (hn : xs.length < 1073741824) (hB : Bag T S)
    (q : ∀ x S', Bag T S' → x ∈ xs → Q x S') : wp (run gl prog (k + 2) i [.loc 0, .tup xs]) S Q := by
  rw [wp_run h rfl]
  show wp (execs gl _ _ [.val (.loc 0), .val (.tup xs)]) S _
  simp only [wp_xret, wp_read, wp_fitF, wp_op, wp_call, wp_cons, wp_nil, wp_varM, Fr.env, Bool.false_eq_true, if_false, List.map_cons, List.map_nil, List.getElem?_cons_zero, List.getElem?_cons_succ, Slot.str, wp_lenT]
  refine wp_pull hp (by omega) (by omega) hB fun r S' hB' h1 h2 => ?_
  rw [wp_ixT (atI_nat h1 (by omega))]
  exact q _ _ hB' (List.getElem_mem _)
theorem wp_ofS {k i j : Nat} (h : prog[i]? = some ⟨2, 2, [.ret false (.op .ix [(.var 1), (.call j [(.var 0), (.op (.bi .len) [(.var 1)])])])]⟩) (hp : prog[j]? = some ⟨2, 5, pullB⟩) {z : Str} (h0 : 0 < z.length) (hn : z.length < 1073741824) (hB : Bag T S)
    (q : ∀ c S', Bag T S' → c ∈ z.cps.toList → Q (.str ⟨#[c]⟩) S') : wp (run gl prog (k + 2) i [.loc 0, .str z]) S Q := by
  rw [wp_run h rfl]
  show wp (execs gl _ _ [.val (.loc 0), .val (.str z)]) S _
  have hl : z.cps.toList.length = z.length := by rw [Array.length_toList]; rfl
  simp only [wp_xret, wp_read, wp_fitF, wp_op, wp_call, wp_cons, wp_nil, wp_varM, Fr.env, Bool.false_eq_true, if_false, List.map_cons, List.map_nil, List.getElem?_cons_zero, List.getElem?_cons_succ, Slot.str, wp_lenS]
  refine wp_pull hp (by omega) (by omega) hB fun r S' hB' h1 h2 => ?_
  rw [wp_ixS (atI_nat h1 (by omega))]
  exact q _ _ hB' (List.getElem_mem _)
end
end Z

/-! ZP4: rows: all(..) of comprehensions, slices, sizes -/
namespace Z
open PySem
theorem cut_from {α : Type} (xs : List α) {i : Int} (h : 0 ≤ i) : cut xs (some i) none = xs.drop i.toNat := by
  unfold cut
  obtain ⟨k, rfl⟩ := Int.eq_ofNat_of_zero_le h
  rw [HT.sIx_nat, HT.sIx_none, Int.toNat_natCast]
  by_cases hk : k ≤ xs.length
  · rw [Nat.min_eq_left hk, List.take_of_length_le (by rw [List.length_drop]; omega)]
  · rw [Nat.min_eq_right (by omega), List.drop_length, List.drop_of_length_le (by omega)]
    simp
theorem cut_to {α : Type} (xs : List α) {i : Int} (h : 0 ≤ i) : cut xs none (some i) = xs.take i.toNat := by
  unfold cut
  obtain ⟨k, rfl⟩ := Int.eq_ofNat_of_zero_le h
  rw [HT.sIx_nat, HT.sIx_none, Int.toNat_natCast, List.drop_zero, Nat.sub_zero]
  by_cases hk : k ≤ xs.length
  · rw [Nat.min_eq_left hk]
  · rw [Nat.min_eq_right (by omega), List.take_length, List.take_of_length_le (by omega)]
section
variable {gl : Nat → Option D} {cal : Nat → List D → M D} {S : Store} {Q : D → Store → Prop} {env rest : Env}
theorem wp_slFT {xs : List D} {i : Int} (h : 0 ≤ i) : wp (opSem (.slice true false) [.tup xs, .int i]) S Q = Q (.tup (xs.drop i.toNat)) S := by
  rw [← cut_from xs h]
  rfl
theorem wp_slTT {xs : List D} {i : Int} (h : 0 ≤ i) : wp (opSem (.slice false true) [.tup xs, .int i]) S Q = Q (.tup (xs.take i.toNat)) S := by
  rw [← cut_to xs h]
  rfl
theorem wp_slTR {xs : List D} {i : Int} (h : 0 ≤ i) : wp (opSem (.slice false true) [.scr xs, .int i]) S Q = Q (.lst (xs.take i.toNat)) S := by
  rw [← cut_to xs h]
  rfl
theorem wp_slFS {z : Str} {i : Int} : wp (opSem (.slice true false) [.str z, .int i]) S Q = Q (.str (L2.cutS z (some i) none)) S := (rfl)
theorem wp_listT {xs : List D} : wp (opSem (.bi .list) [.tup xs]) S Q = Q (.lst xs) S := (rfl)
theorem wp_listL {xs : List D} : wp (opSem (.bi .list) [.lst xs]) S Q = Q (.lst xs) S := (rfl)
theorem wp_tupL {xs : List D} : wp (opSem (.bi .tuple) [.lst xs]) S Q = Q (.tup xs) S := (rfl)
theorem wp_sortT {xs : List D} (h : sortOk xs = true) : wp (opSem (.bi .sorted) [.tup xs]) S Q = Q (.lst (sortD xs)) S := by
  show wp (if sortOk xs = true then M.ret (.lst (sortD xs)) else M.stk) S Q = _
  rw [if_pos h]
  rfl
theorem wp_sortL {xs : List D} (h : sortOk xs = true) : wp (opSem (.bi .sorted) [.lst xs]) S Q = Q (.lst (sortD xs)) S := by
  show wp (if sortOk xs = true then M.ret (.lst (sortD xs)) else M.stk) S Q = _
  rw [if_pos h]
  rfl
theorem wp_sortS {z : Str} : wp (opSem (.bi .sorted) [.str z]) S Q = Q (.lst (sortD (signs z))) S := (rfl)
theorem wp_rev {xs : List D} : wp (opSem .rev [.tup xs]) S Q = Q (.tup xs.reverse) S := (rfl)
theorem wp_srcT {xs : List D} {QL : List D → Store → Prop} : wp (srcItems .val [.tup xs]) S QL = QL xs S := (rfl)
theorem wp_srcL {xs : List D} {QL : List D → Store → Prop} : wp (srcItems .val [.lst xs]) S QL = QL xs S := (rfl)
theorem wp_srcS {z : Str} {QL : List D → Store → Prop} : wp (srcItems .val [.str z]) S QL = QL (signs z) S := (rfl)
theorem wp_srcN {n : Int} {QL : List D → Store → Prop} (h : -(2 ^ 62) ≤ n ∧ n ≤ 16777216) : wp (srcItems .range1 [.int n]) S QL = QL ((List.range n.toNat).map fun i => D.int (i : Nat)) S := by
  show wp (if -(2 ^ 62) ≤ n ∧ n ≤ 16777216 then M.ret ((List.range n.toNat).map fun i => D.int (i : Nat)) else M.stk) S QL = _
  rw [if_pos h]
  rfl
theorem wp_srcE {xs : List D} {QL : List D → Store → Prop} : wp (srcItems .enum [.lst xs]) S QL = QL (xs.mapIdx fun i x => .tup [.int i, x]) S := (rfl)
theorem wp_srcZ {a b : D} {xs ys : List D} {QL : List D → Store → Prop} (h1 : sideOf a = some xs) (h2 : sideOf b = some ys) : wp (srcItems .zip [a, b]) S QL = QL ((xs.zip ys).map fun p => .tup [p.1, p.2]) S := by
  show wp (match sideOf a, sideOf b with
    | some xs, some ys => M.ret ((xs.zip ys).map fun p => D.tup [p.1, p.2])
    | _, _ => M.stk) S QL = _
  rw [h1, h2]
  rfl
theorem filterMap_some {α β : Type} (g : α → β) (xs : List α) : xs.filterMap (fun x => some (g x)) = xs.map g := by
  induction xs with
  | nil => rfl
  | cons x xs ih => rw [List.filterMap_cons, List.map_cons, ih]
/-- all([f(x) for x in v]) -/
theorem wp_allCall {f j : Nat} {e : E} {v : D} {xs : List D} {g : D → Bool} (hj : j < env.length) (he : ∀ Q : D → Store → Prop, wp (evalE gl cal e env) S Q = Q v S) (hs : ∀ QL : List D → Store → Prop, wp (srcItems .val [v]) S QL = QL xs S)
    (hg : ∀ x ∈ xs, cal f [x] S = .ok (.bl (g x)) S) : wp (evalE gl cal (.op (.bi .all) [.comp [j] (.call f [.var j]) (.name j) .val [e] []]) env) S Q = Q (.bl (xs.all g)) S := by
  rw [wp_op, wp_cons, wp_compE, wp_cons, he]
  simp only [wp_nil]
  rw [hs, wp_comp_map (g := fun x => some (.bl (g x))) fun x m => ?_, filterMap_some, wp_allM]
  refine of_wp ?_
  rw [wp_compT0]
  have hb : bindT (.name j) x (wipe env [j]) = some ((wipe env [j]).set j (some x)) := rfl
  rw [hb]
  simp only [wp_call, wp_cons, wp_nil, wp_varM]
  have hl : ((wipe env [j]).set j (some x))[j]? = some (some x) := by
    rw [List.getElem?_set_self]
    show j < (List.set _ _ _).length
    rw [List.length_set]
    exact hj
  rw [hl]
  simp only []
  rw [wp_eq (hg x m)]
  exact ⟨rfl, rfl⟩
/-- all([a op b for a, b in zip(v, v[1:])]) -/
def zE (o : CmpOp) : E := .op (.bi .all) [.comp [1, 2] (.op (.cmp o) [.var 1, .var 2]) (.tup [.name 1, .name 2]) .zip [.var 0, .op (.slice true false) [.var 0, .const (.int 1)]] []]
theorem wp_zipAll {o : CmpOp} {v v' : D} {xs xs' : List D} {g : D → D → Bool} (h1 : sideOf v = some xs) (h2 : ∀ Q : D → Store → Prop, wp (opSem (.slice true false) [v, .int 1]) S Q = Q v' S) (h3 : sideOf v' = some xs')
    (hc : ∀ a ∈ xs, ∀ b ∈ xs', cmpSem o a b S = .ok (.bl (g a b)) S) : wp (evalE gl cal (zE o) (some v :: none :: none :: rest)) S Q = Q (.bl ((xs.zip xs').all fun p => g p.1 p.2)) S := by
  unfold zE
  rw [wp_op, wp_cons, wp_compE]
  simp only [wp_cons, wp_nil, wp_varM, wp_op, wp_const, List.getElem?_cons_zero]
  rw [h2, wp_srcZ h1 h3, wp_comp_map (g := fun x => some (match x with
    | .tup [a, b] => .bl (g a b)
    | _ => .bl true)) fun x m => ?_, filterMap_some, List.map_map]
  · have e : ((fun x => (match x with
      | .tup [a, b] => D.bl (g a b)
      | _ => .bl true)) ∘ fun p : D × D => D.tup [p.1, p.2]) = fun p : D × D => D.bl (g p.1 p.2) := rfl
    rw [e, wp_allM]
  · obtain ⟨p, mp, rfl⟩ := List.mem_map.mp m
    obtain ⟨a, b⟩ := p
    have mm := List.of_mem_zip mp
    refine of_wp ?_
    rw [wp_compT0]
    have hb : bindT (.tup [.name 1, .name 2]) (.tup [a, b]) (wipe (some v :: none :: none :: rest) [1, 2]) = some (some v :: some a :: some b :: rest) := rfl
    rw [hb]
    simp only [wp_op, wp_cons, wp_nil, wp_varM, List.getElem?_cons_zero, List.getElem?_cons_succ, wp_cmp]
    rw [wp_eq (hc a mm.1 b mm.2)]
    exact ⟨rfl, rfl⟩
end
theorem adj_zip : ∀ xs : List D, ((xs.zip (xs.drop 1)).all fun p => leD p.1 p.2) = adjLe xs
  | [] => rfl
  | [a] => rfl
  | a :: b :: r => by
    have ih := adj_zip (b :: r)
    simp only [List.drop_succ_cons, List.drop_zero] at ih ⊢
    simp only [List.zip_cons_cons, List.all_cons, adjLe]
    rw [ih]
theorem signs_str {z : Str} {x : D} (h : x ∈ signs z) : ∃ c, x = .str ⟨#[c]⟩ ∧ c ∈ z.cps.toList := by
  unfold signs at h
  obtain ⟨c, hc, rfl⟩ := List.mem_map.mp h
  exact ⟨c, rfl, hc⟩
theorem cmp_of {o : CmpOp} {a b : D} {S : Store} {g : Bool} (h : ∀ Q : D → Store → Prop, wp (cmpSem o a b) S Q = Q (.bl g) S) : cmpSem o a b S = .ok (.bl g) S := of_wp (by rw [h]; exact ⟨rfl, rfl⟩)
theorem run_of {m : M D} {S : Store} {g : D} (h : ∀ Q : D → Store → Prop, wp m S Q = Q g S) : m S = .ok g S := of_wp (by rw [h]; exact ⟨rfl, rfl⟩)
theorem okC_str {a b : Str} : okC (.str a) (.str b) = true := by
  unfold okC alk
  simp [D.dat, D.py, PySem.W.alike, D.dep]
end Z

/-! ZP5: how big data are -/
namespace Z
open PySem
mutual
def D.wid : D → Nat
  | .tup xs => max xs.length (D.wids xs)
  | .lst xs => D.wids xs
  | _ => 0
def D.wids : List D → Nat
  | [] => 0
  | x :: xs => max (D.wid x) (D.wids xs)
end
theorem wids_le : ∀ {xs : List D} {n : Nat}, D.wids xs ≤ n ↔ ∀ x ∈ xs, x.wid ≤ n
  | [], n => by simp [D.wids]
  | x :: xs, n => by
    rw [D.wids, Nat.max_le, wids_le]
    simp
/-- plain data: tuples at most w wide, at most n deep -/
structure Fit (w n : Nat) (v : D) : Prop where
  dat : v.dat = true
  dep : v.dep ≤ n
  wid : v.wid ≤ w
theorem Fit.mono {w n w' n' : Nat} {v : D} (h : Fit w n v) (hw : w ≤ w') (hn : n ≤ n') : Fit w' n' v := ⟨h.dat, Nat.le_trans h.dep hn, Nat.le_trans h.wid hw⟩
theorem Fit.tup {w n : Nat} {xs : List D} (hl : xs.length ≤ w) (h : ∀ x ∈ xs, Fit w n x) : Fit w (n + 1) (.tup xs) :=
  ⟨by rw [D.dat]; exact dats_mem.mpr fun x m => (h x m).dat, by rw [D.dep]; exact Nat.succ_le_succ (deps_le.mpr fun x m => (h x m).dep), by rw [D.wid]; exact Nat.max_le.mpr ⟨hl, wids_le.mpr fun x m => (h x m).wid⟩⟩
theorem Fit.lst {w n : Nat} {xs : List D} (h : ∀ x ∈ xs, Fit w n x) : Fit w (n + 1) (.lst xs) :=
  ⟨by rw [D.dat]; exact dats_mem.mpr fun x m => (h x m).dat, by rw [D.dep]; exact Nat.succ_le_succ (deps_le.mpr fun x m => (h x m).dep), by rw [D.wid]; exact wids_le.mpr fun x m => (h x m).wid⟩
theorem Fit.len {w n : Nat} {xs : List D} (h : Fit w n (.tup xs)) : xs.length ≤ w := by
  have := h.wid
  rw [D.wid] at this
  omega
theorem Fit.pos {w n : Nat} {xs : List D} (h : Fit w n (.tup xs)) : 1 ≤ n := by
  have := h.dep
  rw [D.dep] at this
  omega
theorem Fit.mem {w n : Nat} {xs : List D} (h : Fit w (n + 1) (.tup xs)) {x : D} (m : x ∈ xs) : Fit w n x := by
  refine ⟨?_, ?_, ?_⟩
  · have := h.dat
    rw [D.dat] at this
    exact dats_mem.mp this x m
  · have := h.dep
    rw [D.dep] at this
    exact deps_le.mp (by omega) x m
  · have := h.wid
    rw [D.wid] at this
    exact wids_le.mp (by omega) x m
theorem Fit.int {w n : Nat} (i : Int) : Fit w n (.int i) := ⟨rfl, Nat.zero_le _, Nat.zero_le _⟩
theorem Fit.str {w n : Nat} (z : Str) : Fit w n (.str z) := ⟨rfl, Nat.zero_le _, Nat.zero_le _⟩
def fitB (w n : Nat) (v : D) : Bool := v.dat && decide (v.dep ≤ n) && decide (v.wid ≤ w)
theorem fit_by {w n : Nat} {v : D} (h : fitB w n v = true) : Fit w n v := by
  unfold fitB at h
  simp only [Bool.and_eq_true, decide_eq_true_eq] at h
  exact ⟨h.1.1, h.1.2, h.2⟩
theorem sizeL : (16777216 : Nat) = sizeLine := rfl
end Z

/-! ZH: letters, parts, heaps; the drawing of heaps (the helpers of most laws), for any places of the defs -/
namespace Z
open PySem
section
variable {gl : Nat → Option D} {prog : List Fn} {S T : Store} {Q : D → Store → Prop} {k : Nat}
def abc : Str := "abcdefghijklmnopqrstuvwxyz"
def letB : D → Bool
  | .str z => (match z.cps.toList with
    | [c] => decide (c ∈ abc.cps.toList)
    | _ => false)
  | _ => false
def witB (lo hi : Int) : D → Bool
  | .int i => decide (lo ≤ i) && decide (i ≤ hi)
  | _ => false
def withinC : List Cmd := [
  .ret false (.bool true [(.op (.isi .int) [(.var 0)]), (.not (.op (.isi .bool) [(.var 0)])), (.chain .LtE .LtE (.var 1) (.var 0) (.var 2))])]
def letterC (e : E) : List Cmd := [.ret false (.bool true [(.op (.isi .str) [(.var 0)]), (.op (.cmp .Eq) [(.op (.bi .len) [(.var 0)]), (.const (.int 1))]), (.op (.cmp .In) [(.var 0), e])])]
def partC (w l h : Nat) (e : E) : List Cmd := [
          .ifs false (.bool false [(.not (.op (.isi .tuple) [(.var 0)])), (.op (.cmp .NotEq) [(.op (.bi .len) [(.var 0)]), (.const (.int 3))])]) [.ret false (.const (.bl false))] [],
          .ret false (.bool true [(.call w [(.op .ix [(.var 0), (.const (.int 0))]), (.const (.int 1)), e]), (.call l [(.op .ix [(.var 0), (.const (.int 1))])]), (.call h [(.op .ix [(.var 0), (.const (.int 2))])])])]
def heapC0 (p j : Nat) : Cmd := .ifs false (.bool false [(.not (.op (.isi .tuple) [(.var 0)])), (.not (.op (.bi .all) [(.comp [j] (.call p [(.var j)]) (.name j) .val [(.var 0)] [])]))]) [.ret false (.const (.bl false))] []
def heapCA (p : Nat) : List Cmd := [heapC0 p 3, .ret false (zE .LtE)]
def heapCB (p : Nat) : List Cmd := [heapC0 p 1, .ret false (.op (.cmp .Eq) [(.op (.bi .list) [(.var 0)]), (.op (.bi .sorted) [(.var 0)])])]
def IsConst (gl : Nat → Option D) (e : E) (d : D) : Prop := ∀ (cal : Nat → List D → M D) (env : Env) (S : Store) (Q : D → Store → Prop), wp (evalE gl cal e env) S Q = Q d S
theorem isConst {d : D} : IsConst gl (.const d) d := fun _ _ _ _ => wp_const
theorem isGlob {g : Nat} {d : D} (h : gl g = some d) : IsConst gl (.glob g) d := fun _ _ _ _ => wp_glob h
/-- is_within, is_letter, is_part, is_heap, where they stand -/
structure HeapF (gl : Nat → Option D) (prog : List Fn) (w l p h : Nat) (el es : E) (A : Bool) : Prop where
  atW : prog[w]? = some ⟨3, 3, withinC⟩
  atL : prog[l]? = some ⟨1, 1, letterC el⟩
  atP : prog[p]? = some ⟨1, 1, partC w l h es⟩
  atH : prog[h]? = some (if A = true then ⟨1, 4, heapCA p⟩ else ⟨1, 2, heapCB p⟩)
  isL : IsConst gl el (.str abc)
  isS : IsConst gl es (.int 3)
theorem wp_within {f : Nat} (e : prog[f]? = some ⟨3, 3, withinC⟩) {v : D} {lo hi : Int} (h : v.dat = true) : wp (run gl prog (k + 1) f [v, .int lo, .int hi]) S Q = Q (.bl (witB lo hi v)) S := by
  rw [wp_run e rfl]
  show wp (execs _ _ withinC [.val v, .val (.int lo), .val (.int hi)]) S _ = _
  simp only [withinC, wp_xret, wp_read, wp_fitF, wp_boolE, wp_bool2, wp_bool1, wp_op, wp_cons, wp_nil, wp_varM, wp_not, wp_chain, Fr.env, Bool.false_eq_true, if_false, List.map_cons, List.map_nil, List.getElem?_cons_zero, List.getElem?_cons_succ, Slot.str, wp_isi h, wp_truthB]
  cases v with
  | int i =>
    simp only [isD, isT, if_true, Bool.not_false, wp_leI, wp_truthB]
    unfold witB
    by_cases h1 : lo ≤ i
    · simp [h1]
    · simp [h1]
  | bl b => rfl
  | loc _ => cases h
  | scr _ => cases h
  | _ => rfl
theorem in_abc {z w : Str} : z.length = 1 → wp (cmpSem .In (.str z) (.str w)) S Q = Q (.bl (match z.cps.toList with
    | [c] => decide (c ∈ w.cps.toList)
    | _ => false)) S := by
  intro hl
  have hl2 : z.cps.toList.length = 1 := by rw [Array.length_toList]; exact hl
  match hz : z.cps.toList, hl2 with
  | [c], _ =>
    have e : cmpSem .In (.str z) (.str w) = okB (decide (c ∈ w.cps.toList)) := by
      simp only [cmpSem, hz]
    rw [e]
    rfl
theorem let_len {z : Str} (h : z.length ≠ 1) : letB (.str z) = false := by
  have hl : z.cps.toList.length = z.length := by rw [Array.length_toList]; rfl
  match hz : z.cps.toList with
  | [] => simp only [letB, hz]
  | [c] => rw [hz] at hl; exact absurd hl.symm h
  | a :: b :: r => simp only [letB, hz]
theorem wp_letter {f : Nat} {e : E} (hf : prog[f]? = some ⟨1, 1, letterC e⟩) (he : IsConst gl e (.str abc)) {v : D} (h : v.dat = true) : wp (run gl prog (k + 1) f [v]) S Q = Q (.bl (letB v)) S := by
  rw [wp_run hf rfl]
  show wp (execs _ _ (letterC e) [.val v]) S _ = _
  have he : ∀ (Q : D → Store → Prop) S, wp (evalE gl (run gl prog k) e [some v]) S Q = Q (.str abc) S := fun Q S => he _ _ _ _
  simp only [letterC, wp_xret, wp_read, wp_fitF, wp_boolE, wp_bool2, wp_bool1, wp_op, wp_cons, wp_nil, wp_varM, wp_const, wp_not, wp_chain, Fr.env, Bool.false_eq_true, if_false, List.map_cons, List.map_nil, List.getElem?_cons_zero, List.getElem?_cons_succ, Slot.str, wp_isi h, wp_truthB]
  cases v with
  | str z =>
    simp only [isD, isT, if_true, wp_lenS, wp_cmp, wp_eqI, wp_truthB, he]
    by_cases hl : z.length = 1
    · have hl2 : (z.length : Int) = 1 := by omega
      rw [if_pos (decide_eq_true hl2), in_abc hl]
      rfl
    · have hl2 : ¬ (z.length : Int) = 1 := by omega
      rw [if_neg (by simpa using hl2), let_len hl, decide_eq_false hl2]
  | loc _ => cases h
  | scr _ => cases h
  | _ => rfl
/-! ### heaps -/
mutual
def partB : D → Bool
  | .tup xs => part3 xs
  | _ => false
def part3 : List D → Bool
  | a :: xs => witB 1 3 a && part2 xs
  | [] => false
def part2 : List D → Bool
  | b :: xs => letB b && part1 xs
  | [] => false
def part1 : List D → Bool
  | c :: xs => heapB c && xs.isEmpty
  | [] => false
def heapB : D → Bool
  | .tup xs => partsB xs && adjLe xs
  | _ => false
def partsB : List D → Bool
  | [] => true
  | x :: xs => partB x && partsB xs
end
theorem parts_all : ∀ xs : List D, partsB xs = xs.all partB
  | [] => by simp [partsB]
  | x :: xs => by rw [partsB, parts_all xs, List.all_cons]
theorem part_of {v : D} (h : partB v = true) : ∃ (i : Int) (z : Str) (c : D), v = .tup [.int i, .str z, c] ∧ heapB c = true := by
  cases v with
  | tup xs =>
    simp only [partB] at h
    match xs, h with
    | a :: xs, h =>
      simp only [part3, Bool.and_eq_true] at h
      match xs, h with
      | b :: xs, h =>
        simp only [part2, Bool.and_eq_true] at h
        match xs, h with
        | c :: xs, h =>
          simp only [part1, Bool.and_eq_true] at h
          obtain ⟨h1, h2, h3, h4⟩ := h
          match xs, h4 with
          | [], _ =>
            cases a with
            | int i =>
              cases b with
              | str z => exact ⟨i, z, c, rfl, h3⟩
              | _ => cases h2
            | _ => cases h1
        | [], h => simp [part1] at h
      | [], h => simp [part2] at h
    | [], h => simp [part3] at h
  | _ => simp [partB] at h
theorem alike_tup {xs ys : List D} : PySem.W.alike (D.tup xs).py (D.tup ys).py = PySem.W.alikeAll (D.pys xs) (D.pys ys) := by
  show PySem.W.alike (.tuple (D.pys xs)) (.tuple (D.pys ys)) = _
  rw [PySem.W.alike]
theorem al_cons {x y : D} {xs ys : List D} : PySem.W.alikeAll (D.pys (x :: xs)) (D.pys (y :: ys)) = (PySem.W.alike x.py y.py && PySem.W.alikeAll (D.pys xs) (D.pys ys)) := by
  rw [D.pys, D.pys, PySem.W.alikeAll]
/-- heaps, parts are alike -/
theorem heap_alike : ∀ (n : Nat) (a b : D), a.dep ≤ n → (heapB a = true → heapB b = true → PySem.W.alike a.py b.py = true) ∧ (partB a = true → partB b = true → PySem.W.alike a.py b.py = true)
  | n, a, b, hn => by
    have parts : ∀ (m : Nat), (∀ a b : D, a.dep ≤ m → partB a = true → partB b = true → PySem.W.alike a.py b.py = true) → ∀ xs ys : List D, D.deps xs ≤ m → partsB xs = true → partsB ys = true → PySem.W.alikeAll (D.pys xs) (D.pys ys) = true := by
      intro m ih xs
      induction xs with
      | nil => intro ys _ _ _; rw [D.pys]; cases D.pys ys <;> rw [PySem.W.alikeAll]
      | cons x xs ihx =>
        intro ys hd h1 h2
        cases ys with
        | nil => rw [D.pys, D.pys, PySem.W.alikeAll]
        | cons y ys =>
          rw [al_cons, Bool.and_eq_true]
          simp only [partsB, Bool.and_eq_true] at h1 h2
          have hd := deps_le.mp hd
          exact ⟨ih x y (hd x (by simp)) h1.1 h2.1, ihx ys (deps_le.mpr fun z m => hd z (by simp [m])) h1.2 h2.2⟩
    refine ⟨fun h1 h2 => ?_, fun h1 h2 => ?_⟩
    · cases a with
      | tup xs =>
        cases b with
        | tup ys =>
          simp only [heapB, Bool.and_eq_true] at h1 h2
          rw [alike_tup]
          rw [D.dep] at hn
          cases n with
          | zero => omega
          | succ n => exact parts n (fun a b h => (heap_alike n a b h).2) xs ys (by omega) h1.1 h2.1
        | _ => simp [heapB] at h2
      | _ => simp [heapB] at h1
    · obtain ⟨i, z, c, rfl, hc⟩ := part_of h1
      obtain ⟨j, w, d, rfl, hd⟩ := part_of h2
      have hdep : c.dep + 1 ≤ n := by
        rw [D.dep] at hn
        have := deps_le.mp (Nat.le_refl (D.deps [D.int i, .str z, c])) c (by simp)
        omega
      rw [alike_tup, al_cons, al_cons, al_cons]
      have e1 : PySem.W.alike (D.int i).py (D.int j).py = true := by
        show PySem.W.alike (.int i) (.int j) = true
        rw [PySem.W.alike]
      have e2 : PySem.W.alike (D.str z).py (D.str w).py = true := by
        show PySem.W.alike (.str z) (.str w) = true
        rw [PySem.W.alike]
      have e3 : PySem.W.alikeAll (D.pys []) (D.pys []) = true := by rw [D.pys, PySem.W.alikeAll]
      cases n with
      | zero => omega
      | succ n => rw [e1, e2, (heap_alike n c d (by omega)).1 hc hd, e3]; rfl
termination_by n => n
theorem heap_notI {x : D} (h : partB x = true) : notI x = true := by
  obtain ⟨i, z, c, rfl, _⟩ := part_of h
  rfl
theorem part_okC {x y : D} (h1 : partB x = true) (h2 : partB y = true) (d1 : x.dat = true) (d2 : y.dat = true) (hd : x.dep ≤ many) : okC x y = true := by
  unfold okC alk
  rw [d1, d2, (heap_alike x.dep x y (Nat.le_refl _)).2 h1 h2]
  obtain ⟨i, z, c, rfl, _⟩ := part_of h1
  simp only [Bool.true_and, Bool.and_true, decide_eq_true_eq]
  omega
theorem if_not {b c : Bool} {P : D → Store → Prop} : (if b = true then P (.bl false) S else P (.bl c) S) = P (.bl (!b && c)) S := by cases b <;> rfl
/-- is_part, is_heap -/
theorem wp_heap {w l p h : Nat} {el es : E} {A : Bool} (F : HeapF gl prog w l p h el es A) : ∀ (n k : Nat) (v : D), v.dat = true → v.dep ≤ n → n ≤ many →
    (∀ (S : Store) (Q : D → Store → Prop), wp (run gl prog (2 * n + 3 + k) h [v]) S Q = Q (.bl (heapB v)) S) ∧ ∀ (S : Store) (Q : D → Store → Prop), wp (run gl prog (2 * n + 2 + k) p [v]) S Q = Q (.bl (partB v)) S
  | n, k, v, hd, hn, hm => by
    have hpart : ∀ (S : Store) (Q : D → Store → Prop), wp (run gl prog (2 * n + 2 + k) p [v]) S Q = Q (.bl (partB v)) S := by
      intro S Q
      have hx : ∀ {ex : E} {fi : Nat → List D → M D}, (∀ (Q : D → Store → Prop) S, wp (evalE gl (run gl prog (2 * n + 1 + k)) ex [some v]) S Q = Q (.int 3) S) → wp (execs gl (run gl prog (2 * n + 1 + k)) (partC w l h ex) [.val v]) S (fun o S => (match o with
          | .ret d => Q d S
          | .nx _ => Q .non S
          | _ => False)) = Q (.bl (partB v)) S := by
        intro ex fi he
        simp only [partC, wp_xif0, wp_xret, wp_read, wp_fitF, wp_boolE, wp_bool2, wp_bool1, wp_op, wp_cons, wp_nil, wp_varM, wp_const, wp_not, Fr.env, Bool.false_eq_true, if_false, List.map_cons, List.map_nil, List.getElem?_cons_zero, List.getElem?_cons_succ, Slot.str, wp_isi hd, wp_truthB]
        cases v with
        | tup xs =>
          simp only [isD, isT, Bool.not_true, if_true, wp_lenT, wp_cmp, wp_neI, wp_truthB]
          by_cases hl : xs.length = 3
          · have hl2 : (xs.length : Int) = 3 := by omega
            simp only [decide_eq_true hl2, Bool.not_true, Bool.false_eq_true, if_false, wp_call, wp_cons, wp_nil, wp_op, wp_varM, wp_const, List.getElem?_cons_zero, he]
            match xs, hl with
            | [a, b, c], _ =>
              have hdd : a.dat = true ∧ b.dat = true ∧ c.dat = true := by
                simp only [D.dat, D.dats, Bool.and_eq_true] at hd
                exact ⟨hd.1, hd.2.1, hd.2.2.1⟩
              rw [wp_ixT (xs := [a, b, c]) (i := 0) (d := a) rfl]
              have ew : (run gl prog (2 * n + 1 + k)) = run gl prog (2 * n + k + 1) := by rw [show 2 * n + 1 + k = 2 * n + k + 1 by omega]
              rw [ew, wp_within F.atW hdd.1]
              simp only [wp_truthB]
              have hb : partB (.tup [a, b, c]) = (witB 1 3 a && (letB b && heapB c)) := by
                simp [partB, part3, part2, part1]
              rw [hb]
              by_cases h1 : witB 1 3 a = true
              · rw [if_pos h1, wp_ixT (xs := [a, b, c]) (i := 1) (d := b) rfl, wp_letter F.atL F.isL hdd.2.1]
                simp only [wp_truthB]
                by_cases h2 : letB b = true
                · rw [if_pos h2, wp_ixT (xs := [a, b, c]) (i := 2) (d := c) rfl]
                  have hdep : c.dep + 1 ≤ n := by
                    rw [D.dep] at hn
                    have := deps_le.mp (Nat.le_refl (D.deps [a, b, c])) c (by simp)
                    omega
                  cases n with
                  | zero => omega
                  | succ m =>
                    have := (wp_heap F m k c hdd.2.2 (by omega) (by omega)).1 S fun d S => wp (truth d) S fun b S => Q (.bl b) S
                    rw [show 2 * (m + 1) + k + 1 = 2 * m + 3 + k by omega, this, h1, h2]
                    rfl
                · rw [if_neg h2, h1, Bool.eq_false_iff.mpr h2]
                  rfl
              · rw [if_neg h1, Bool.eq_false_iff.mpr h1]
                rfl
          · have hl2 : ¬ (xs.length : Int) = 3 := by omega
            have hb : partB (.tup xs) = false := by
              rcases xs with _ | ⟨a, _ | ⟨b, _ | ⟨c, _ | ⟨d, r⟩⟩⟩⟩ <;> first | (exact absurd rfl hl) | simp [partB, part3, part2, part1]
            rw [hb, decide_eq_false hl2]
            rfl
        | loc _ => cases hd
        | scr _ => cases hd
        | _ => simp only [partB]; rfl
      rw [show 2 * n + 2 + k = (2 * n + 1 + k) + 1 by omega, wp_run F.atP rfl]
      exact hx (fi := run gl prog 0) fun Q S => F.isS _ _ _ _
    refine ⟨?_, hpart⟩
    intro S Q
    -- the first half: all parts are parts
    have hx : ∀ {j : Nat} {cs : List Cmd} {fr : Fr} {QO : Out → Store → Prop}, j < (fr.env false).length → (fr.env false)[0]? = some (some v) → (∀ xs, v = .tup xs → partsB xs = true → wp (execs gl (run gl prog (2 * n + 2 + k)) cs fr) S QO = QO (.ret (.bl (adjLe xs))) S) →
        wp (execs gl (run gl prog (2 * n + 2 + k)) (.ifs false (.bool false [(.not (.op (.isi .tuple) [(.var 0)])), (.not (.op (.bi .all) [(.comp [j] (.call p [(.var j)]) (.name j) .val [(.var 0)] [])]))]) [.ret false (.const (.bl false))] [] :: cs) fr) S QO = QO (.ret (.bl (heapB v))) S := by
      intro j cs fr QO hj h0 hcs
      have e1 : ∀ S (Q : D → Store → Prop), wp (evalE gl (run gl prog (2 * n + 2 + k)) (.op (.isi .tuple) [(.var 0)]) (fr.env false)) S Q = Q (.bl (isD .tuple v)) S := fun S Q => by
        simp only [wp_op, wp_cons, wp_nil, wp_varM, h0, wp_isi hd]
      rw [wp_xif0]
      simp only [wp_read, wp_fitF, wp_boolE, wp_bool2, wp_bool1, wp_not, e1, wp_truthB]
      have ret : ∀ S, (wp (execs gl (run gl prog (2 * n + 2 + k)) [.ret false (.const (.bl false))] fr) S fun o S => (match o with
          | .nx fr' => wp (execs gl (run gl prog (2 * n + 2 + k)) cs fr') S QO
          | o => QO o S)) = QO (.ret (.bl false)) S := fun S => by
        simp only [wp_xret, wp_read, wp_fitF, wp_const]
      cases v with
      | tup xs =>
        simp only [isD, isT, Bool.not_true, if_true]
        rw [wp_allCall (v := .tup xs) (xs := xs) (g := partB) hj (fun Q => by rw [wp_varM, h0]) (fun QL => wp_srcT) fun x m => ?_]
        · simp only [wp_truthB]
          have hb : heapB (.tup xs) = (xs.all partB && adjLe xs) := by rw [heapB, parts_all]
          rw [hb]
          by_cases hp : xs.all partB = true
          · rw [hp, hcs xs rfl (by rw [parts_all]; exact hp)]
            rfl
          · rw [Bool.eq_false_iff.mpr hp]
            simp only [Bool.not_false, if_true, ret]
            rfl
        · have hdx : x.dat = true := dats_mem.mp (by simpa [D.dat] using hd) x m
          have hdep : x.dep + 1 ≤ n := by
            rw [D.dep] at hn
            have := deps_le.mp (Nat.le_refl (D.deps xs)) x m
            omega
          cases n with
          | zero => omega
          | succ n =>
            have z := (wp_heap F n (k + 2) x hdx (by omega) (by omega)).2 S
            rw [show 2 * n + 2 + (k + 2) = 2 * (n + 1) + 2 + k by omega] at z
            exact run_of z
      | loc _ => cases hd
      | scr _ => cases hd
      | _ =>
        simp only [heapB]
        exact ret S
    have facts : ∀ xs, v = .tup xs → partsB xs = true → (∀ x ∈ xs, x.dat = true) ∧ (∀ x ∈ xs, partB x = true) ∧ ∀ x ∈ xs, x.dep ≤ many := by
      rintro xs rfl hp
      refine ⟨dats_mem.mp (by simpa [D.dat] using hd), fun x m => ?_, fun x m => ?_⟩
      · rw [parts_all] at hp
        exact List.all_eq_true.mp hp x m
      · rw [D.dep] at hn
        have := deps_le.mp (Nat.le_refl (D.deps xs)) x m
        omega
    rw [show 2 * n + 3 + k = (2 * n + 2 + k) + 1 by omega]
    have hh := F.atH
    cases A with
    | true =>
      rw [if_pos rfl] at hh
      rw [wp_run hh rfl]
      refine (hx (j := 3) (cs := [.ret false (zE .LtE)]) (fr := [.val v, .no, .no, .no]) (by show 3 < 4; omega) rfl fun xs hv hp => ?_).trans rfl
      obtain ⟨f1, f2, f3⟩ := facts xs hv hp
      subst hv
      rw [wp_xret, wp_read]
      show wp (evalE _ _ (zE .LtE) [some (.tup xs), none, none, none]) S _ = _
      rw [wp_zipAll (xs := xs) (v' := .tup (xs.drop 1)) (xs' := xs.drop 1) (g := leD) rfl (fun Q => wp_slFT (by omega)) rfl fun a ma b mb => ?_]
      · rw [wp_fitF, adj_zip]
      · have mb := List.mem_of_mem_drop mb
        exact cmp_of fun Q => wp_le_ (heap_notI (f2 a ma)) (part_okC (f2 a ma) (f2 b mb) (f1 a ma) (f1 b mb) (f3 a ma))
    | false =>
      rw [if_neg (by decide)] at hh
      rw [wp_run hh rfl]
      refine (hx (j := 1) (cs := [.ret false (.op (.cmp .Eq) [(.op (.bi .list) [(.var 0)]), (.op (.bi .sorted) [(.var 0)])])]) (fr := [.val v, .no]) (by show 1 < 2; omega) rfl fun xs hv hp => ?_).trans rfl
      obtain ⟨f1, f2, f3⟩ := facts xs hv hp
      subst hv
      have al : ∀ x ∈ xs, ∀ y ∈ xs, PySem.W.alike x.py y.py = true := fun x m y m' => (heap_alike x.dep x y (Nat.le_refl _)).2 (f2 x m) (f2 y m')
      have so : sortOk xs = true := by
        unfold sortOk
        simp only [Bool.and_eq_true, decide_eq_true_eq]
        refine ⟨dats_mem.mpr f1, ?_, ?_, deps_le.mpr f3⟩
        · unfold alikeD
          simp only [List.all_eq_true]
          exact al
        · unfold sortable
          rw [Bool.or_eq_true]
          refine .inl (List.all_eq_true.mpr fun x m => ?_)
          obtain ⟨i, z, c, rfl, _⟩ := part_of (f2 x m)
          rfl
      simp only [wp_xret, wp_read, wp_fitF, wp_op, wp_cons, wp_nil, wp_varM, Fr.env, Bool.false_eq_true, if_false, List.map_cons, List.map_nil, List.getElem?_cons_zero, Slot.str, wp_listT, wp_sortT so, wp_cmp]
      have ok : okD (.lst xs) (.lst (sortD xs)) = true := by
        unfold okD
        simp only [D.dat, D.dep, Bool.and_eq_true, decide_eq_true_eq]
        have e1 : ∀ x, x ∈ sortD xs ↔ x ∈ xs := fun x => List.mem_mergeSort
        refine ⟨⟨dats_mem.mpr f1, dats_mem.mpr fun x m => f1 x ((e1 x).mp m)⟩, ?_⟩
        have : D.deps xs + 1 ≤ many := by
          rw [D.dep] at hn
          omega
        exact decide_eq_true (Nat.le_trans (Nat.min_le_left _ _) this)
      rw [wp_eq_ ok, eqv_sorted al]
termination_by n => n
end
end Z

/-! ZH2: heaps drawn; things bent -/
namespace Z
open PySem
section
variable {gl : Nat → Option D} {prog : List Fn} {S T : Store} {Q : D → Store → Prop} {k : Nat}
def ofC (pl : Nat) : List Cmd := [.ret false (.op .ix [(.var 1), (.call pl [(.var 0), (.op (.bi .len) [(.var 1)])])])]
def oddC (ol : Nat) : List Cmd := [
  .ret false (.call ol [(.var 0), (.op .lst [(.const .non), (.const (.bl true)), (.const (.bl false)), (.const (.int 0)), (.const (.int 1)), (.const (.int 2)), (.const (.int 3)), (.const (.int 4)), (.op .neg [(.const (.int 1))]), (.const (.int 7)), (.const (.str "")), (.const (.str "a")), (.const (.str "b")), (.const (.str "A")), (.const (.str "ab")), (.const (.str "1")), (.op .tup []), (.op .lst []), (.op .tup [(.const (.int 1)), (.const (.str "a"))]), (.op .lst [(.const (.int 1))]), (.op .tup [(.const (.int 0))]), (.op .tup [(.const (.int 1))]), (.const (.str "z")), (.op .tup [(.const (.int 2)), (.const (.int 1))]), (.op .tup [(.const (.int 1)), (.const (.int 1))]), (.op .tup [(.const .non)])])])]
def bentC (pl dl tl : Nat) : List Cmd := [
  .ifs false (.bool false [(.not (.op (.isi .tuple) [(.var 1)])), (.op (.cmp .Eq) [(.var 1), (.op .tup [])]), (.op (.cmp .Eq) [(.call pl [(.var 0), (.const (.int 3))]), (.const (.int 0))])]) [.ret false (.call dl [(.var 0)])] [],
  .par false [2, 3] [(.call pl [(.var 0), (.op (.bi .len) [(.var 1)])]), (.call pl [(.var 0), (.const (.int 5))])],
  .ifs false (.op (.cmp .Eq) [(.var 3), (.const (.int 0))]) [.ret false (.op (.bin .Add) [(.op (.slice false true) [(.var 1), (.var 2)]), (.op (.slice true false) [(.var 1), (.op (.bin .Add) [(.var 2), (.const (.int 1))])])])] [],
  .ifs false (.op (.cmp .Eq) [(.var 3), (.const (.int 1))]) [.ret false (.op (.bin .Add) [(.op (.bin .Add) [(.op (.slice false true) [(.var 1), (.var 2)]), (.op .tup [(.op .ix [(.var 1), (.var 2)])])]), (.op (.slice true false) [(.var 1), (.var 2)])])] [],
  .ifs false (.op (.cmp .Eq) [(.var 3), (.const (.int 2))]) [.ret false (.op (.bi .list) [(.var 1)])] [],
  .ifs false (.op (.cmp .Eq) [(.var 3), (.const (.int 3))]) [.ret false (.op .rev [(.var 1)])] [],
  .ret false (.op (.bin .Add) [(.op (.bin .Add) [(.op (.slice false true) [(.var 1), (.var 2)]), (.op .tup [(.call tl [(.var 0), (.op .ix [(.var 1), (.var 2)])])])]), (.op (.slice true false) [(.var 1), (.op (.bin .Add) [(.var 2), (.const (.int 1))])])])]
def builtC (bl : Nat) : List Cmd := [
  .ret false (.op (.bi .tuple) [(.op (.bi .sorted) [(.comp [2, 3] (.op .tup [(.op .ix [(.var 3), (.const (.int 1))]), (.op .ix [(.var 3), (.const (.int 2))]), (.call bl [(.var 0), (.var 2)])]) (.tup [(.name 2), (.name 3)]) .enum [(.var 0)] [(.op (.cmp .Eq) [(.op .ix [(.var 3), (.const (.int 0))]), (.var 1)])])])])]
def drawC (pl ol bl : Nat) : List Cmd := [
  .own 5 [],
  .for_ (.name 6) .range1 [(.var 3)] [.asg false (.name 7) (.op (.bin .Sub) [(.call pl [(.var 0), (.op (.bin .Add) [(.var 6), (.const (.int 1))])]), (.const (.int 1))]), .asg true (.name 8) (.ife (.op (.cmp .Lt) [(.var 7), (.const (.int 0))]) (.const (.int 0)) (.op (.bin .Add) [(.op .ix [(.op .ix [(.var 5), (.var 7)]), (.const (.int 3))]), (.const (.int 1))])), .ifs false (.op (.cmp .GtE) [(.var 8), (.var 4)]) [.asg false (.tup [(.name 7), (.name 8)]) (.op .tup [(.op .neg [(.const (.int 1))]), (.const (.int 0))])] [], .app false 5 (.op .lst [(.var 7), (.op (.bin .Add) [(.const (.int 1)), (.call pl [(.var 0), (.var 2)])]), (.call ol [(.var 0), (.var 1)]), (.var 8)])],
  .frz 5,
  .ret false (.call bl [(.var 5), (.op .neg [(.const (.int 1))])])]
def anyC (pl ol hl : Nat) : List Cmd := [
  .asg false (.name 4) (.call hl [(.var 0), (.var 1), (.var 2), (.call pl [(.var 0), (.op (.bin .Add) [(.var 3), (.const (.int 1))])]), (.op (.bin .Add) [(.const (.int 1)), (.call pl [(.var 0), (.const (.int 5))])])]),
  .ifs false (.bool true [(.op (.cmp .NotEq) [(.var 4), (.op .tup [])]), (.op (.cmp .Eq) [(.call pl [(.var 0), (.const (.int 3))]), (.const (.int 0))])]) [.asg false (.name 4) (.op (.bi .tuple) [(.op (.bi .sorted) [(.op (.bin .Add) [(.var 4), (.op .tup [(.call ol [(.var 0), (.var 4)])])])])])] [],
  .ret false (.var 4)]
def odds : List D := [.non, .bl true, .bl false, .int 0, .int 1, .int 2, .int 3, .int 4, .int (-1), .int 7, .str "", .str "a", .str "b", .str "A", .str "ab", .str "1", .tup [], .lst [], .tup [.int 1, .str "a"], .lst [.int 1], .tup [.int 0], .tup [.int 1], .str "z", .tup [.int 2, .int 1], .tup [.int 1, .int 1], .tup [.non]]
theorem odds_fit : odds.all (fitB 2 2) = true := by decide +kernel
theorem wp_odd {pl ol dl : Nat} (hp : prog[pl]? = some ⟨2, 5, pullB⟩) (ho : prog[ol]? = some ⟨2, 2, ofC pl⟩) (hd : prog[dl]? = some ⟨1, 1, oddC ol⟩) (hB : Bag T S) (q : ∀ x S', Bag T S' → Fit 2 2 x → Q x S') : wp (run gl prog (k + 3) dl [.loc 0]) S Q := by
  rw [wp_run hd rfl]
  show wp (execs _ _ (oddC ol) [.val (.loc 0)]) S _
  have t0 : ∀ {S : Store} {Q : D → Store → Prop}, wp (opSem .tup []) S Q = Q (.tup []) S := wp_tup (Nat.zero_le _)
  have t1 : ∀ {S : Store} {Q : D → Store → Prop} {a : D}, wp (opSem .tup [a]) S Q = Q (.tup [a]) S := wp_tup (by show 1 ≤ 16777216; omega)
  have t2 : ∀ {S : Store} {Q : D → Store → Prop} {a b : D}, wp (opSem .tup [a, b]) S Q = Q (.tup [a, b]) S := wp_tup (by show 2 ≤ 16777216; omega)
  have l0 : ∀ {S : Store} {Q : D → Store → Prop}, wp (opSem .lst []) S Q = Q (.lst []) S := wp_lst (Nat.zero_le _)
  have l1 : ∀ {S : Store} {Q : D → Store → Prop} {a : D}, wp (opSem .lst [a]) S Q = Q (.lst [a]) S := wp_lst (by show 1 ≤ 16777216; omega)
  have ll : ∀ {S : Store} {Q : D → Store → Prop}, wp (opSem .lst odds) S Q = Q (.lst odds) S := wp_lst (by show 26 ≤ 16777216; omega)
  have ol : ∀ (d : D), D.lst [.non, .bl true, .bl false, .int 0, .int 1, .int 2, .int 3, .int 4, .int (-1), .int 7, .str "", .str "a", .str "b", .str "A", .str "ab", .str "1", .tup [], .lst [], .tup [.int 1, .str "a"], .lst [.int 1], .tup [.int 0], .tup [.int 1], .str "z", .tup [.int 2, .int 1], .tup [.int 1, .int 1], .tup [.non]] = .lst odds := fun _ => rfl
  unfold odds at ll
  simp only [oddC, wp_xret, wp_read, wp_fitF, wp_call, wp_op, wp_cons, wp_nil, wp_varM, wp_const, Fr.env, Bool.false_eq_true, if_false, List.map_cons, List.map_nil, List.getElem?_cons_zero, Slot.str, wp_neg, t0, t1, t2, l0, l1, ll]
  refine wp_ofL (xs := odds) ho hp (by show 0 < 26; omega) (by show 26 < 1073741824; omega) hB fun x S' hB' m => q x S' hB' ?_
  exact fit_by (List.all_eq_true.mp odds_fit x m)
theorem eq_unit {v : D} (h : v.dat = true) : wp (cmpSem .Eq v (.tup [])) S Q = Q (.bl (eqD v (.tup []))) S := wp_eq_ (by
  unfold okD
  rw [h]
  show (true && true && decide (min v.dep 1 ≤ many)) = true
  simp only [Bool.and_true, Bool.true_and]
  exact decide_eq_true (Nat.le_trans (Nat.min_le_right _ _) (by show 1 ≤ 200; omega)))
theorem eqD_unit {xs : List D} : eqD (.tup xs) (.tup []) = xs.isEmpty := by
  show PyData.eqv (.tuple (D.pys xs)) (.tuple (D.pys [])) = _
  rw [PyData.eqv, D.pys]
  cases xs with
  | nil => rw [D.pys, PyData.eqvAll]; rfl
  | cons x xs => rw [D.pys, PyData.eqvAll]; rfl
theorem wp_bent {pl ol dl tl : Nat} (hp : prog[pl]? = some ⟨2, 5, pullB⟩) (ho : prog[ol]? = some ⟨2, 2, ofC pl⟩) (hd : prog[dl]? = some ⟨1, 1, oddC ol⟩) (ht : prog[tl]? = some ⟨2, 4, bentC pl dl tl⟩) {w : Nat} (hw : 2 ≤ w) (hw2 : w < 1000) : ∀ (n k : Nat) (v : D) (S : Store) (Q : D → Store → Prop), Fit w n v → Bag T S → (∀ x S', Bag T S' → Fit (w + 1) (n + 2) x → Q x S') → wp (run gl prog (n + 4 + k) tl [.loc 0, v]) S Q
  | n, k, v, S, Q, hv, hB, q => by
    rw [show n + 4 + k = (n + 3 + k) + 1 by omega, wp_run ht rfl]
    show wp (execs _ (run gl prog (n + 3 + k)) (bentC pl dl tl) [.val (.loc 0), .val v, .no, .no]) S _
    have odd : ∀ S, Bag T S → wp (run gl prog (n + 3 + k) dl [.loc 0]) S (fun d S => Q d S) := fun S hB => by
      rw [show n + 3 + k = (n + k) + 3 by omega]
      exact wp_odd hp ho hd hB fun x S' hB' hx => q x S' hB' (hx.mono (by omega) (by omega))
    have t0 : ∀ {S : Store} {Q : D → Store → Prop}, wp (opSem .tup []) S Q = Q (.tup []) S := wp_tup (Nat.zero_le _)
    have t1 : ∀ {S : Store} {Q : D → Store → Prop} {a : D}, wp (opSem .tup [a]) S Q = Q (.tup [a]) S := wp_tup (by show 1 ≤ 16777216; omega)
    simp only [bentC, wp_xif0, wp_xret, wp_read, wp_fitF, wp_boolE, wp_bool2, wp_bool1, wp_not, wp_call, wp_op, wp_cons, wp_nil, wp_varM, wp_const, Fr.env, Bool.false_eq_true, if_false, List.map_cons, List.map_nil, List.getElem?_cons_zero, List.getElem?_cons_succ, Slot.str, wp_isi hv.dat, wp_truthB, t0, wp_cmp, eq_unit hv.dat]
    by_cases htt : isD .tuple v = true
    · simp only [htt, Bool.not_true, Bool.false_eq_true, if_false, if_true]
      cases v with
      | tup xs =>
        simp only [eqD_unit]
        have hl := hv.len
        cases hx : xs.isEmpty with
        | true =>
          simp only [Bool.true_eq_false, if_false, if_true]
          exact odd S hB
        | false =>
          have hpos : 0 < xs.length := by cases xs with
            | nil => cases hx
            | cons _ _ => exact Nat.succ_pos _
          simp only [if_true]
          rw [show n + 3 + k = (n + 2 + k) + 1 by omega] at odd ⊢
          refine wp_pull hp (by omega) (by omega) hB fun r S1 hB1 h1 h2 => ?_
          simp only [wp_eqI, wp_truthB]
          by_cases hr : r = 0
          · rw [if_pos (decide_eq_true hr)]
            exact odd S1 hB1
          · rw [if_neg (by simpa using hr)]
            simp only [wp_xpar, wp_readsF, wp_cons, wp_nil, wp_call, wp_op, wp_varM, wp_const, Fr.env, Bool.false_eq_true, if_false, List.map_cons, List.map_nil, List.getElem?_cons_zero, List.getElem?_cons_succ, Slot.str, wp_lenT]
            refine wp_pull hp (by omega) (by omega) hB1 fun at_ S2 hB2 a1 a2 => ?_
            refine wp_pull hp (by omega) (by omega) hB2 fun way S3 hB3 w1 w2 => ?_
            have e2 : ([D.int at_, D.int way] : List D).length = [2, 3].length := rfl
            rw [if_pos e2]
            have hfr : setAll [Slot.val (.loc 0), .val (.tup xs), .no, .no] ([2, 3].zip [Slot.val (.int at_), .val (.int way)]) = [.val (.loc 0), .val (.tup xs), .val (.int at_), .val (.int way)] := rfl
            rw [hfr]
            have hn := hv.pos
            obtain ⟨n', rfl⟩ : ∃ n', n = n' + 1 := ⟨n - 1, by omega⟩
            have hat : L2.atI xs at_ = some (xs[at_.toNat]'(by omega)) := atI_nat a1 (by omega)
            have hmem : xs[at_.toNat]'(by omega) ∈ xs := List.getElem_mem _
            generalize xs[at_.toNat]'(by omega) = y at hat hmem
            have hall : ∀ x ∈ xs, Fit (w + 1) (n' + 1) x := fun x m => (hv.mem m).mono (by omega) (by omega)
            simp only [wp_xif0, wp_xret, wp_read, wp_fitF, wp_call, wp_op, wp_cons, wp_nil, wp_varM, wp_const, Fr.env, Bool.false_eq_true, if_false, List.map_cons, List.map_nil, List.getElem?_cons_zero, List.getElem?_cons_succ, Slot.str, wp_cmp, wp_eqI, wp_truthB, wp_slTT a1, wp_add, wp_slFT (show (0 : Int) ≤ at_ + 1 by omega), wp_slFT a1, wp_ixT hat, t1, wp_listT, wp_rev]
            have hz : sizeLine = 16777216 := rfl
            have l1 : (xs.take at_.toNat).length ≤ w := by rw [List.length_take]; omega
            have l2 : (xs.drop (at_ + 1).toNat).length + at_.toNat + 1 = xs.length := by rw [List.length_drop]; omega
            have l3 : (xs.drop at_.toNat).length + at_.toNat = xs.length := by rw [List.length_drop]; omega
            have l4 : (xs.take at_.toNat).length = at_.toNat := by rw [List.length_take]; omega
            have m1 : ∀ x ∈ xs.take at_.toNat, x ∈ xs := fun x m => List.mem_of_mem_take m
            have m2 : ∀ x ∈ xs.drop (at_ + 1).toNat, x ∈ xs := fun x m => List.mem_of_mem_drop m
            have m3 : ∀ x ∈ xs.drop at_.toNat, x ∈ xs := fun x m => List.mem_of_mem_drop m
            split
            · rw [wp_addT (by omega)]
              refine q _ _ hB3 (Fit.mono (Fit.tup (w := w + 1) (n := n' + 1) (by rw [List.length_append]; omega) fun x m => ?_) (by omega) (by omega))
              rcases List.mem_append.mp m with m | m
              · exact hall x (m1 x m)
              · exact hall x (m2 x m)
            · split
              · rw [wp_addT (by rw [List.length_singleton]; omega), wp_addT (by rw [List.length_append, List.length_singleton]; omega)]
                refine q _ _ hB3 (Fit.mono (Fit.tup (w := w + 1) (n := n' + 1) (by rw [List.length_append, List.length_append, List.length_singleton]; omega) fun x m => ?_) (by omega) (by omega))
                rcases List.mem_append.mp m with m | m
                · rcases List.mem_append.mp m with m | m
                  · exact hall x (m1 x m)
                  · rw [List.mem_singleton.mp m]; exact hall y hmem
                · exact hall x (m3 x m)
              · split
                · exact q _ _ hB3 (Fit.mono (Fit.lst (w := w + 1) (n := n' + 1) hall) (by omega) (by omega))
                · split
                  · exact q _ _ hB3 (Fit.mono (Fit.tup (w := w + 1) (n := n' + 1) (by rw [List.length_reverse]; omega) fun x m => hall x (List.mem_reverse.mp m)) (by omega) (by omega))
                  · have ih := wp_bent hp ho hd ht hw hw2 n' (k) y S3
                    rw [show n' + 1 + 2 + k + 1 = n' + 4 + k by omega]
                    refine ih _ (hv.mem hmem) hB3 fun z S4 hB4 hz4 => ?_
                    rw [wp_addT (by rw [List.length_singleton]; omega), wp_addT (by rw [List.length_append, List.length_singleton]; omega)]
                    refine q _ _ hB4 (Fit.mono (Fit.tup (w := w + 1) (n := n' + 2) (by rw [List.length_append, List.length_append, List.length_singleton]; omega) fun x m => ?_) (by omega) (by omega))
                    rcases List.mem_append.mp m with m | m
                    · rcases List.mem_append.mp m with m | m
                      · exact (hall x (m1 x m)).mono (by omega) (by omega)
                      · rw [List.mem_singleton.mp m]; exact hz4
                    · exact (hall x (m2 x m)).mono (by omega) (by omega)
      | _ => cases htt
    · simp only [Bool.eq_false_iff.mpr htt, Bool.not_false, Bool.true_eq_false, if_false, if_true]
      exact odd S hB
def RowOk (i : Nat) (p : D) : Prop := ∃ (u j : Int) (c : Nat) (l : Int), p = .lst [.int u, .int j, .str ⟨#[c]⟩, .int l] ∧ -1 ≤ u ∧ u < i ∧ 1 ≤ j ∧ j ≤ 3 ∧ c ∈ abc.cps.toList
def RowsOk (ps : List D) : Prop := ∀ (i : Nat) (p : D), ps[i]? = some p → RowOk i p
theorem part_mk {j : Int} {c : Nat} {h : D} (h1 : 1 ≤ j) (h2 : j ≤ 3) (hc : c ∈ abc.cps.toList) (hh : heapB h = true) : partB (.tup [.int j, .str ⟨#[c]⟩, h]) = true := by
  have e : letB (.str ⟨#[c]⟩) = true := by
    show decide (c ∈ abc.cps.toList) = true
    exact decide_eq_true hc
  simp only [partB, part3, part2, part1, hh, e, witB, decide_eq_true h1, decide_eq_true h2, List.isEmpty_nil, Bool.and_true, Bool.true_and]
/-- parts put in order are a heap -/
theorem heap_sort {ys : List D} (h : ∀ y ∈ ys, partB y = true) : heapB (.tup (sortD ys)) = true := by
  rw [heapB, parts_all, Bool.and_eq_true]
  exact ⟨List.all_eq_true.mpr fun y m => h y (List.mem_mergeSort.mp m), sortD_adj ys⟩
theorem parts_sortOk {ys : List D} (h : ∀ y ∈ ys, partB y = true) {w n : Nat} (hf : ∀ y ∈ ys, Fit w n y) (hn : n ≤ many) : sortOk ys = true := by
  unfold sortOk
  simp only [Bool.and_eq_true, decide_eq_true_eq]
  refine ⟨dats_mem.mpr fun y m => (hf y m).dat, ?_, ?_, deps_le.mpr fun y m => Nat.le_trans (hf y m).dep hn⟩
  · unfold alikeD
    simp only [List.all_eq_true]
    exact fun x m y m' => (heap_alike x.dep x y (Nat.le_refl _)).2 (h x m) (h y m')
  · unfold sortable
    rw [Bool.or_eq_true]
    refine .inl (List.all_eq_true.mpr fun x m => ?_)
    obtain ⟨i, z, c, rfl, _⟩ := part_of (h x m)
    rfl
theorem wp_built {bl : Nat} (hb0 : prog[bl]? = some ⟨2, 4, builtC bl⟩) {ps : List D} {w : Nat} (hr : RowsOk ps) (hw : ps.length ≤ w) (hw3 : 3 ≤ w) (hw2 : w < 1000) : ∀ (n k : Nat) (up : Int) (S : Store) (Q : D → Store → Prop), n ≤ 90 → -1 ≤ up → (ps.length : Int) - 1 - up ≤ n → (∀ v, heapB v = true → Fit w (2 * n + 1) v → Q v S) → wp (run gl prog (n + 1 + k) bl [.lst ps, .int up]) S Q
  | n, k, up, S, Q, hn, h0, hl, q => by
    rw [show n + 1 + k = (n + k) + 1 by omega, wp_run hb0 rfl]
    show wp (execs _ (run gl prog (n + k)) (builtC bl) [.val (.lst ps), .val (.int up), .no, .no]) S _
    simp only [builtC, wp_xret, wp_read, wp_fitF]
    rw [wp_op, wp_cons, wp_op, wp_cons, wp_compE]
    simp only [wp_cons, wp_nil, wp_varM, Fr.env, Bool.false_eq_true, if_false, List.map_cons, List.map_nil, List.getElem?_cons_zero, Slot.str, wp_srcE]
    refine wp_comp_sub (fun S' => S' = S) (fun y => partB y = true ∧ Fit w (2 * n) y) rfl (fun x m S' hS => ?_) fun ys S' hS hlen hys => ?_
    · subst hS
      obtain ⟨i, hi, rfl⟩ := List.mem_mapIdx.mp m
      have hp := hr i (ps[i]) (List.getElem?_eq_getElem hi)
      obtain ⟨u, j, c, l, hp, u1, u2, j1, j2, hc⟩ := hp
      rw [wp_compT1]
      have hb : bindT (.tup [.name 2, .name 3]) (.tup [.int i, ps[i]]) (wipe [some (.lst ps), some (.int up), none, none] [2, 3]) = some [some (.lst ps), some (.int up), some (.int i), some ps[i]] := rfl
      rw [hb, hp]
      have a0 : L2.atI [D.int u, .int j, .str ⟨#[c]⟩, .int l] 0 = some (.int u) := rfl
      have a1 : L2.atI [D.int u, .int j, .str ⟨#[c]⟩, .int l] 1 = some (.int j) := rfl
      have a2 : L2.atI [D.int u, .int j, .str ⟨#[c]⟩, .int l] 2 = some (.str ⟨#[c]⟩) := rfl
      simp only [wp_op, wp_cons, wp_nil, wp_varM, wp_const, wp_call, List.getElem?_cons_zero, List.getElem?_cons_succ, wp_ixL a0, wp_ixL a1, wp_ixL a2, wp_cmp, wp_eqI, wp_truthB]
      by_cases hu : u = up
      · rw [if_pos (decide_eq_true hu)]
        have hi2 : (i : Int) < ps.length := by omega
        obtain ⟨n', rfl⟩ : ∃ n', n = n' + 1 := ⟨n - 1, by omega⟩
        rw [show n' + 1 + k = n' + 1 + k from rfl]
        refine wp_built hb0 hr hw hw3 hw2 n' k (i : Int) S' _ (by omega) (by omega) (by omega) fun v hv hfv => ?_
        rw [wp_tup (by show 3 ≤ 16777216; omega)]
        refine ⟨by first | rfl | trivial, fun y hy => ?_⟩
        cases hy
        refine ⟨part_mk j1 j2 hc hv, Fit.mono (Fit.tup (w := w) (n := 2 * n' + 1) (by show 3 ≤ w; exact hw3) fun z mz => ?_) (Nat.le_refl _) (by omega)⟩
        simp only [List.mem_cons, List.not_mem_nil, or_false] at mz
        rcases mz with rfl | rfl | rfl
        · exact Fit.int _
        · exact Fit.str _
        · exact hfv
      · rw [if_neg (by simpa using hu)]
        exact ⟨trivial, fun y hy => by cases hy⟩
    · subst hS
      have so := parts_sortOk (fun y m => (hys y m).1) (fun y m => (hys y m).2) (by show 2 * n ≤ 200; omega)
      rw [wp_sortL so, wp_tupL]
      refine q _ (heap_sort fun y m => (hys y m).1) (Fit.tup ?_ fun y m => (hys y (List.mem_mergeSort.mp m)).2)
      rw [show (sortD ys).length = ys.length from List.length_mergeSort ys]
      rw [List.length_mapIdx] at hlen
      omega
theorem wp_draw {pl ol bl hl M : Nat} (hp : prog[pl]? = some ⟨2, 5, pullB⟩) (ho : prog[ol]? = some ⟨2, 2, ofC pl⟩) (hb0 : prog[bl]? = some ⟨2, 4, builtC bl⟩) (hh : prog[hl]? = some ⟨5, 9, drawC pl ol bl⟩) {z : Str} (hz : ∀ c ∈ z.cps.toList, c ∈ abc.cps.toList) (hz0 : 0 < z.length) (hz1 : z.length < 1000) {many deep : Int} (hM : M ≤ 40) (h0 : 0 ≤ many) (h7 : many ≤ M) (hB : Bag T S) (q : ∀ v S', Bag T S' → heapB v = true → Fit (M + 3) (2 * M + 3) v → Q v S') : wp (run gl prog (k + M + 5) hl [.loc 0, .str z, .int 3, .int many, .int deep]) S Q := by
  rw [wp_run hh rfl]
  show wp (execs _ (run gl prog (k + M + 4)) (drawC pl ol bl) [.val (.loc 0), .val (.str z), .val (.int 3), .val (.int many), .val (.int deep), .no, .no, .no, .no]) S _
  have e0 : readEs gl (run gl prog (k + M + 4)) true [] [.val (.loc 0), .val (.str z), .val (.int 3), .val (.int many), .val (.int deep), .no, .no, .no, .no] S = .ok [] S := rfl
  unfold drawC
  rw [wp_xown, wp_eq e0, if_pos (by show 0 ≤ 16777216; omega)]
  show wp (execs _ (run gl prog (k + M + 4)) _ [.val (.loc 0), .val (.str z), .val (.int 3), .val (.int many), .val (.int deep), .own [], .no, .no, .no]) S _
  rw [wp_xfor]
  simp only [wp_cons, wp_nil, wp_varM, Fr.env, Bool.false_eq_true, if_false, List.map_cons, List.map_nil, List.getElem?_cons_zero, List.getElem?_cons_succ, Slot.str]
  rw [wp_srcN ⟨by omega, by omega⟩]
  refine wp_loop (fun n fr S => ∃ ps s6 s7 s8, fr = [.val (.loc 0), .val (.str z), .val (.int 3), .val (.int many), .val (.int deep), .own ps, s6, s7, s8] ∧ RowsOk ps ∧ ps.length = n ∧ Bag T S) _ 0 _ _ ⟨[], _, _, _, rfl, fun i p h => by simp at h, rfl, hB⟩ ?_ ?_
  · rintro j x fr S hx ⟨ps, s6, s7, s8, rfl, hps, hlen, hB⟩
    rw [Nat.zero_add] at hlen
    rw [List.getElem?_map] at hx
    obtain ⟨j', hj, rfl⟩ := Option.map_eq_some_iff.mp hx
    obtain ⟨hj1, hj2⟩ := List.getElem?_eq_some_iff.mp hj
    rw [List.length_range] at hj1
    rw [List.getElem_range] at hj2
    subst hj2
    have hst : storeT (.name 6) (.int j) [.val (.loc 0), .val (.str z), .val (.int 3), .val (.int many), .val (.int deep), .own ps, s6, s7, s8] = some [.val (.loc 0), .val (.str z), .val (.int 3), .val (.int many), .val (.int deep), .own ps, .val (.int j), s7, s8] := rfl
    rw [hst]
    simp only []
    rw [wp_xasgN]
    simp only [wp_read, wp_fitF, wp_op, wp_call, wp_cons, wp_nil, wp_varM, wp_const, Fr.env, Bool.false_eq_true, if_false, List.map_cons, List.map_nil, List.getElem?_cons_zero, List.getElem?_cons_succ, Slot.str, wp_add]
    refine wp_pull (k := k + M + 3) hp (by omega) (by omega) hB fun u S1 hB1 u1 u2 => ?_
    rw [wp_sub]
    simp only [List.set_cons_zero, List.set_cons_succ]
    -- the level
    have lev : ∀ Q' : D → Store → Prop, (∀ l, Q' (.int l) S1) → wp (readE gl (run gl prog (k + M + 4)) true (.ife (.op (.cmp .Lt) [(.var 7), (.const (.int 0))]) (.const (.int 0)) (.op (.bin .Add) [(.op .ix [(.op .ix [(.var 5), (.var 7)]), (.const (.int 3))]), (.const (.int 1))])) [.val (.loc 0), .val (.str z), .val (.int 3), .val (.int many), .val (.int deep), .own ps, .val (.int j), .val (.int (u - 1)), s8]) S1 Q' := fun Q' hQ => by
      simp only [wp_read, wp_ife, wp_op, wp_cons, wp_nil, wp_varM, wp_const, Fr.env, if_true, List.map_cons, List.map_nil, List.getElem?_cons_zero, List.getElem?_cons_succ, Slot.brw, wp_cmp, wp_ltI, wp_truthB]
      by_cases hu : u - 1 < 0
      · rw [if_pos (decide_eq_true hu), wp_fitTI]
        exact hQ 0
      · rw [if_neg (by simpa using hu)]
        have hlt : (u - 1).toNat < ps.length := by omega
        rw [wp_ixR (atI_nat (by omega) hlt)]
        obtain ⟨a, b, c, l, hp, _⟩ := hps _ _ (List.getElem?_eq_getElem hlt)
        rw [hp, wp_ixL (show L2.atI [D.int a, .int b, .str ⟨#[c]⟩, .int l] 3 = some (.int l) from rfl), wp_add, wp_fitTI]
        exact hQ _
    rw [wp_xasgN]
    refine lev _ fun l => ?_
    simp only [List.set_cons_zero, List.set_cons_succ]
    -- the row is put
    have put : ∀ (u' l' : Int) (s8' : Slot), -1 ≤ u' → u' < j → wp (execs gl (run gl prog (k + M + 4)) [.app false 5 (.op .lst [(.var 7), (.op (.bin .Add) [(.const (.int 1)), (.call pl [(.var 0), (.var 2)])]), (.call ol [(.var 0), (.var 1)]), (.var 8)])] [.val (.loc 0), .val (.str z), .val (.int 3), .val (.int many), .val (.int deep), .own ps, .val (.int j), .val (.int u'), .val (.int l')]) S1 fun o S => match o with
        | .nx fr' => ∃ ps s6 s7 s8, fr' = [.val (.loc 0), .val (.str z), .val (.int 3), .val (.int many), .val (.int deep), .own ps, s6, s7, s8] ∧ RowsOk ps ∧ ps.length = 0 + j + 1 ∧ Bag T S
        | .ct fr' => ∃ ps s6 s7 s8, fr' = [.val (.loc 0), .val (.str z), .val (.int 3), .val (.int many), .val (.int deep), .own ps, s6, s7, s8] ∧ RowsOk ps ∧ ps.length = 0 + j + 1 ∧ Bag T S
        | .bk _ => False
        | .ret d => False := fun u' l' s8' h1 h2 => by
      rw [wp_xapp (xs := ps) rfl]
      simp only [wp_read, wp_fitF, wp_op, wp_call, wp_cons, wp_nil, wp_varM, wp_const, Fr.env, Bool.false_eq_true, if_false, List.map_cons, List.map_nil, List.getElem?_cons_zero, List.getElem?_cons_succ, Slot.str]
      refine wp_pull (k := k + M + 3) hp (by omega) (by omega) hB1 fun r S2 hB2 r1 r2 => ?_
      rw [wp_add]
      refine wp_ofS (k := k + M + 2) ho hp hz0 (by omega) hB2 fun c S3 hB3 hc => ?_
      rw [wp_lst (by show 4 ≤ 16777216; omega), if_pos (by show ps.length < 16777216; omega)]
      simp only [wp_x0, List.set_cons_zero, List.set_cons_succ]
      refine ⟨ps ++ [.lst [.int u', .int (1 + r), .str ⟨#[c]⟩, .int l']], _, _, _, rfl, fun i p hp => ?_, by rw [List.length_append, List.length_singleton]; omega, hB3⟩
      by_cases hi : i < ps.length
      · rw [List.getElem?_append_left hi] at hp
        exact hps i p hp
      · have hi2 : i = ps.length := by
          have := (List.getElem?_eq_some_iff.mp hp).1
          rw [List.length_append, List.length_singleton] at this
          omega
        subst hi2
        rw [List.getElem?_append_right (Nat.le_refl _), Nat.sub_self] at hp
        cases hp
        exact ⟨u', 1 + r, c, l', rfl, h1, by omega, by omega, by omega, hz c hc⟩
    rw [wp_xif0]
    simp only [wp_read, wp_fitF, wp_op, wp_cons, wp_nil, wp_varM, Fr.env, Bool.false_eq_true, if_false, List.map_cons, List.map_nil, List.getElem?_cons_zero, List.getElem?_cons_succ, Slot.str, wp_cmp, wp_geI, wp_truthB]
    split
    · rw [wp_xasg]
      simp only [wp_read, wp_fitF, wp_op, wp_cons, wp_nil, wp_const, wp_neg]
      rw [wp_tup (by show 2 ≤ 16777216; omega)]
      have hst2 : storeT (.tup [.name 7, .name 8]) (.tup [.int (-1), .int 0]) [.val (.loc 0), .val (.str z), .val (.int 3), .val (.int many), .val (.int deep), .own ps, .val (.int j), .val (.int (u - 1)), .val (.int l)] = some [.val (.loc 0), .val (.str z), .val (.int 3), .val (.int many), .val (.int deep), .own ps, .val (.int j), .val (.int (-1)), .val (.int 0)] := rfl
      rw [hst2]
      simp only [wp_x0]
      refine wp_mono (put (-1) 0 .no (by omega) (by omega)) fun o S' z => ?_
      cases o <;> first | exact z | exact z.elim
    · refine wp_mono (put (u - 1) l .no (by omega) (by omega)) fun o S' z => ?_
      cases o <;> first | exact z | exact z.elim
  · rintro fr S ⟨ps, s6, s7, s8, rfl, hps, hlen, hB⟩
    rw [Nat.zero_add, List.length_map, List.length_range] at hlen
    simp only []
    rw [wp_xfrz (xs := ps) rfl]
    simp only [wp_xret, wp_read, wp_fitF, wp_op, wp_call, wp_cons, wp_nil, wp_varM, wp_const, Fr.env, Bool.false_eq_true, if_false, List.map_cons, List.map_nil, List.set_cons_zero, List.set_cons_succ, List.getElem?_cons_zero, List.getElem?_cons_succ, Slot.str, wp_neg]
    rw [show k + M + 4 = (M + 1) + 1 + (k + 2) by omega]
    refine wp_built hb0 (w := M + 3) hps (by omega) (by omega) (by omega) (M + 1) (k + 2) (-1) S _ (by omega) (by omega) (by omega) fun v hv hf => ?_
    exact q v S hB hv (hf.mono (by omega) (by omega))
theorem wp_fuel {a b f : Nat} {ds : List D} (h : a = b) (w : wp (run gl prog a f ds) S Q) : wp (run gl prog b f ds) S Q := h ▸ w
theorem heap_tup {v : D} (h : heapB v = true) : ∃ xs, v = .tup xs ∧ (∀ x ∈ xs, partB x = true) := by
  cases v with
  | tup xs =>
    rw [heapB, parts_all, Bool.and_eq_true] at h
    exact ⟨xs, rfl, List.all_eq_true.mp h.1⟩
  | _ => simp [heapB] at h
theorem wp_any {pl ol bl hl al M : Nat} (hp : prog[pl]? = some ⟨2, 5, pullB⟩) (ho : prog[ol]? = some ⟨2, 2, ofC pl⟩) (hb0 : prog[bl]? = some ⟨2, 4, builtC bl⟩) (hh : prog[hl]? = some ⟨5, 9, drawC pl ol bl⟩) (ha : prog[al]? = some ⟨4, 5, anyC pl ol hl⟩) {z : Str} (hz : ∀ c ∈ z.cps.toList, c ∈ abc.cps.toList) (hz0 : 0 < z.length) (hz1 : z.length < 1000) (hM : M ≤ 40) (hB : Bag T S) (q : ∀ v S', Bag T S' → heapB v = true → Fit (M + 4) (2 * M + 3) v → Q v S') : wp (run gl prog (k + M + 7) al [.loc 0, .str z, .int 3, .int M]) S Q := by
  rw [wp_run ha rfl]
  show wp (execs _ (run gl prog (k + M + 6)) (anyC pl ol hl) [.val (.loc 0), .val (.str z), .val (.int 3), .val (.int M), .no]) S _
  unfold anyC
  rw [wp_xasgN]
  simp only [wp_read, wp_fitF, wp_op, wp_call, wp_cons, wp_nil, wp_varM, wp_const, Fr.env, Bool.false_eq_true, if_false, List.map_cons, List.map_nil, List.getElem?_cons_zero, List.getElem?_cons_succ, Slot.str, wp_add]
  refine wp_pull (k := k + M + 5) hp (by omega) (by omega) hB fun many S1 hB1 m1 m2 => ?_
  refine wp_pull (k := k + M + 5) hp (by omega) (by omega) hB1 fun deep S2 hB2 d1 d2 => ?_
  rw [wp_add]
  refine wp_fuel (show (k + 1) + M + 5 = k + M + 6 by omega) (wp_draw hp ho hb0 hh hz hz0 hz1 hM m1 (by omega) hB2 fun v S3 hB3 hv hf => ?_)
  have t0 : ∀ {S : Store} {Q : D → Store → Prop}, wp (opSem .tup []) S Q = Q (.tup []) S := wp_tup (Nat.zero_le _)
  have okv : okD v (.tup []) = true := by
    unfold okD
    rw [hf.dat]
    show (true && true && decide (min v.dep 1 ≤ Z.many)) = true
    simp only [Bool.and_true, Bool.true_and]
    exact decide_eq_true (Nat.le_trans (Nat.min_le_right _ _) (by show 1 ≤ 200; omega))
  simp only [List.set_cons_zero, List.set_cons_succ, wp_xif0, wp_read, wp_fitF, wp_boolE, wp_bool2, wp_bool1, wp_call, wp_op, wp_cons, wp_nil, wp_varM, wp_const, Fr.env, Bool.false_eq_true, if_false, List.map_cons, List.map_nil, List.getElem?_cons_zero, List.getElem?_cons_succ, Slot.str, t0, wp_cmp, wp_ne_ okv, wp_truthB]
  have tail : ∀ S' v', Bag T S' → heapB v' = true → Fit (M + 4) (2 * M + 3) v' → wp (execs gl (run gl prog (k + M + 6)) [.ret false (.var 4)] [.val (.loc 0), .val (.str z), .val (.int 3), .val (.int M), .val v']) S' fun o S => (match o with
    | .ret d => Q d S
    | .nx _ => Q .non S
    | _ => False) := fun S' v' hB' h1 h2 => by
    simp only [wp_xret, wp_read, wp_fitF, wp_varM, Fr.env, Bool.false_eq_true, if_false, List.map_cons, List.map_nil, List.getElem?_cons_zero, List.getElem?_cons_succ, Slot.str]
    exact q v' S' hB' h1 h2
  obtain ⟨xs, rfl, hxs⟩ := heap_tup hv
  rw [eqD_unit]
  cases hx : xs.isEmpty with
  | true =>
    simp only [Bool.not_true, Bool.false_eq_true, if_false]
    exact tail _ _ hB3 hv (hf.mono (by omega) (by omega))
  | false =>
    have hpos : 0 < xs.length := by cases xs with
      | nil => cases hx
      | cons _ _ => exact Nat.succ_pos _
    have hlen := hf.len
    simp only [Bool.not_false, if_true]
    refine wp_pull (k := k + M + 5) hp (by omega) (by omega) hB3 fun r S4 hB4 r1 r2 => ?_
    simp only [wp_eqI, wp_truthB]
    split
    · simp only [wp_xasgN, wp_x0, wp_read, wp_fitF, wp_call, wp_op, wp_cons, wp_nil, wp_varM, Fr.env, Bool.false_eq_true, if_false, List.map_cons, List.map_nil, List.getElem?_cons_zero, List.getElem?_cons_succ, Slot.str]
      refine wp_ofT (k := k + M + 4) ho hp hpos (by omega) hB4 fun x S5 hB5 hm => ?_
      rw [wp_tup (by show 1 ≤ 16777216; omega), wp_addT (by show xs.length + 1 ≤ 16777216; omega)]
      have hp : ∀ y ∈ xs ++ [x], partB y = true := fun y m => by
        rcases List.mem_append.mp m with m | m
        · exact hxs y m
        · rw [List.mem_singleton.mp m]; exact hxs x hm
      have hfy : ∀ y ∈ xs ++ [x], Fit (M + 4) (2 * M + 2) y := fun y m => by
        have this : ∀ {y : D}, y ∈ xs → Fit (M + 3) (2 * M + 2) y := fun m => Fit.mem (w := M + 3) (n := 2 * M + 2) hf m
        rcases List.mem_append.mp m with m | m
        · exact (this m).mono (by omega) (by omega)
        · rw [List.mem_singleton.mp m]; exact (this hm).mono (by omega) (by omega)
      rw [wp_sortT (parts_sortOk hp hfy (by show 2 * M + 2 ≤ 200; omega)), wp_tupL]
      simp only [List.set_cons_zero, List.set_cons_succ]
      refine tail _ _ hB5 (heap_sort hp) (Fit.tup ?_ fun y m => hfy y (List.mem_mergeSort.mp m))
      rw [show (sortD (xs ++ [x])).length = (xs ++ [x]).length from List.length_mergeSort _, List.length_append, List.length_singleton]
      omega
    · exact tail _ _ hB4 hv (hf.mono (by omega) (by omega))
end
end Z

/-! ZH3: what is found is what is due -/
namespace Z
open PySem
section
variable {gl : Nat → Option D} {prog : List Fn} {S T : Store} {Q : D → Store → Prop} {k : Nat}
def sameC (sl : Nat) : List Cmd := [
  .ifs false (.bool false [(.op (.isis [.bool, .str]) [(.var 1)]), (.op (.cmp .Is) [(.var 1), (.const .non)])]) [.asg false (.name 2) (.op .lst [(.op (.cmp .Eq) [(.op (.isi .bool) [(.var 0)]), (.op (.isi .bool) [(.var 1)])]), (.op (.cmp .Eq) [(.op (.isi .str) [(.var 0)]), (.op (.isi .str) [(.var 1)])])]), .ret false (.bool true [(.op (.cmp .Eq) [(.var 2), (.op .lst [(.const (.bl true)), (.const (.bl true))])]), (.op (.cmp .Eq) [(.var 0), (.var 1)])])] [],
  .ifs false (.op (.isi .int) [(.var 1)]) [.ret false (.bool true [(.op (.isi .int) [(.var 0)]), (.not (.op (.isi .bool) [(.var 0)])), (.op (.cmp .Eq) [(.var 0), (.var 1)])])] [],
  .ifs false (.op (.isis [.list, .tuple]) [(.var 1)]) [.asg false (.name 2) (.op .lst [(.op (.cmp .Eq) [(.op (.isi .list) [(.var 0)]), (.op (.isi .list) [(.var 1)])]), (.op (.cmp .Eq) [(.op (.isi .tuple) [(.var 0)]), (.op (.isi .tuple) [(.var 1)])])]), .ifs false (.bool false [(.op (.cmp .NotEq) [(.var 2), (.op .lst [(.const (.bl true)), (.const (.bl true))])]), (.op (.cmp .NotEq) [(.op (.bi .len) [(.var 0)]), (.op (.bi .len) [(.var 1)])])]) [.ret false (.const (.bl false))] [], .ret false (.op (.bi .all) [(.comp [3, 4] (.call sl [(.var 3), (.var 4)]) (.tup [(.name 3), (.name 4)]) .zip [(.var 0), (.var 1)] [])])] [],
  .ret false (.op (.cmp .Eq) [(.var 0), (.var 1)])]
theorem eqv_all_refl : ∀ {xs : List D}, (∀ x ∈ xs, PyData.eqv x.py x.py = true) → PyData.eqvAll (xs.map D.py) (xs.map D.py) = true
  | [], _ => rfl
  | x :: xs, h => by
    rw [List.map_cons, eqvAll_cons, h x (by simp), eqv_all_refl fun y m => h y (by simp [m])]
    rfl
theorem zip_self : ∀ xs : List D, (xs.zip xs).map (fun p => D.tup [p.1, p.2]) = xs.map fun x => D.tup [x, x]
  | [] => rfl
  | x :: xs => by rw [List.zip_cons_cons, List.map_cons, List.map_cons, zip_self xs]
theorem okB2 {a b c d : Bool} : okD (.lst [.bl a, .bl b]) (.lst [.bl c, .bl d]) = true := by
  unfold okD
  simp [D.dat, D.dats, D.dep, D.deps, many]
theorem eqB {a b : Bool} : eqD (.bl a) (.bl b) = decide (a = b) := by cases a <;> cases b <;> rfl
theorem okBB {a b : Bool} : okD (.bl a) (.bl b) = true := rfl
theorem wp_lst2 {a b : D} : wp (opSem .lst [a, b]) S Q = Q (.lst [a, b]) S := wp_lst (by show 2 ≤ 16777216; omega)
theorem eqTT : eqD (.lst [.bl true, .bl true]) (.lst [.bl true, .bl true]) = true := rfl
theorem dep_okD {v : D} (hd : v.dat = true) (hn : v.dep ≤ many) : okD v v = true := by
  unfold okD
  rw [hd, Nat.min_self, decide_eq_true hn]
  rfl
/-- a thing is the same as itself -/
theorem wp_same {sl : Nat} (hs : prog[sl]? = some ⟨2, 5, sameC sl⟩) : ∀ (n k : Nat) (v : D), v.dat = true → v.dep ≤ n → n ≤ many → ∀ (S : Store) (Q : D → Store → Prop), wp (run gl prog (n + 1 + k) sl [v, v]) S Q = Q (.bl true) S
  | n, k, v, hd, hn, hm, S, Q => by
    rw [show n + 1 + k = (n + k) + 1 by omega, wp_run hs rfl]
    show wp (execs gl (run gl prog (n + k)) (sameC sl) [.val v, .val v, .no, .no, .no]) S _ = _
    have seq : ∀ (xs : List D) (w : D), (w = .tup xs ∨ w = .lst xs) → w = v → wp (evalE gl (run gl prog (n + k)) (.op (.bi .all) [(.comp [3, 4] (.call sl [(.var 3), (.var 4)]) (.tup [(.name 3), (.name 4)]) .zip [(.var 0), (.var 1)] [])]) [some v, some v, some (.lst [.bl true, .bl true]), none, none]) S Q = Q (.bl true) S := by
      intro xs w hw hv
      have hz : sideOf v = some xs := by rcases hw with rfl | rfl <;> (subst hv; rfl)
      have hdx : ∀ x ∈ xs, x.dat = true ∧ x.dep + 1 ≤ n := fun x m => by
        have h1 : D.dats xs = true := by rcases hw with rfl | rfl <;> (subst hv; simpa [D.dat] using hd)
        have h2 : D.deps xs + 1 ≤ n := by rcases hw with rfl | rfl <;> (subst hv; simpa [D.dep] using hn)
        exact ⟨dats_mem.mp h1 x m, by have := deps_le.mp (Nat.le_refl (D.deps xs)) x m; omega⟩
      rw [wp_op, wp_cons, wp_compE]
      simp only [wp_cons, wp_nil, wp_varM, List.getElem?_cons_zero, List.getElem?_cons_succ]
      rw [wp_srcZ hz hz, zip_self, wp_comp_map (g := fun x => some (.bl true)) fun x m => ?_, filterMap_some]
      · have e : (xs.map fun x => D.tup [x, x]).map (fun _ => D.bl true) = xs.map fun x => D.bl ((fun _ => true) x) := by rw [List.map_map]; rfl
        rw [e, wp_allM]
        have e2 : (xs.all fun _ => true) = true := List.all_eq_true.mpr fun _ _ => rfl
        rw [e2]
      · obtain ⟨y, my, rfl⟩ := List.mem_map.mp m
        refine of_wp ?_
        rw [wp_compT0]
        have hb : bindT (.tup [.name 3, .name 4]) (.tup [y, y]) (wipe [some v, some v, some (.lst [.bl true, .bl true]), none, none] [3, 4]) = some [some v, some v, some (.lst [.bl true, .bl true]), some y, some y] := rfl
        rw [hb]
        simp only [wp_call, wp_cons, wp_nil, wp_varM, List.getElem?_cons_zero, List.getElem?_cons_succ]
        obtain ⟨h1, h2⟩ := hdx y my
        cases n with
        | zero => omega
        | succ n' =>
          rw [show n' + 1 + k = n' + 1 + k from rfl, wp_same hs n' k y h1 (by omega) (by omega)]
          exact ⟨rfl, rfl⟩
    have ok := dep_okD hd (Nat.le_trans hn hm)
    simp only [sameC, wp_xif0, wp_xasgN, wp_xret, wp_read, wp_fitF, wp_boolE, wp_bool2, wp_bool1, wp_not, wp_op, wp_cons, wp_nil, wp_varM, wp_const, Fr.env, Bool.false_eq_true, if_false, List.map_cons, List.map_nil, List.getElem?_cons_zero, List.getElem?_cons_succ, Slot.str, wp_isi hd, wp_isis hd, wp_cmp, wp_eq_ ok, wp_isN, wp_truthB, wp_eq_ okBB, eqB, decide_true, wp_lst2, wp_eq_ okB2, wp_ne_ okB2, eqTT, if_true, Bool.not_true, List.set_cons_zero, List.set_cons_succ]
    cases v with
    | loc _ => cases hd
    | scr _ => cases hd
    | non => rfl
    | bl b => cases b <;> rfl
    | int i =>
      have e : eqD (.int i) (.int i) = true := by rw [eqD_int, decide_eq_true rfl]
      simp only [e]
      rfl
    | str z =>
      have e : eqD (.str z) (.str z) = true := by
        show PyData.eqv (.str z) (.str z) = true
        rw [PyData.eqv]
        exact beq_self_eq_true z
      simp only [e]
      rfl
    | tup xs =>
      have z := seq xs (.tup xs) (.inl rfl) rfl
      rw [wp_op, wp_cons] at z
      simp only [isD, isT, List.any_cons, List.any_nil, Bool.or_false, Bool.false_or, Bool.or_true, Bool.false_eq_true, if_false, if_true, wp_lenT, wp_neI, wp_truthB, decide_true, Bool.not_true] at z ⊢
      exact z
    | lst xs =>
      have z := seq xs (.lst xs) (.inr rfl) rfl
      rw [wp_op, wp_cons] at z
      simp only [isD, isT, List.any_cons, List.any_nil, Bool.or_false, Bool.false_or, Bool.or_true, Bool.true_or, Bool.false_eq_true, if_false, if_true, wp_lenL, wp_neI, wp_truthB, decide_true, Bool.not_true] at z ⊢
      exact z
termination_by n => n
end
end Z

/-! ZH4: how many parts a drawn heap has -/
namespace Z
open PySem
theorem sum_le_map {α : Type} {f g : α → Nat} : ∀ {l : List α}, (∀ x ∈ l, f x ≤ g x) → (l.map f).sum ≤ (l.map g).sum
  | [], _ => Nat.le_refl _
  | x :: l, h => by
    simp only [List.map_cons, List.sum_cons]
    exact Nat.add_le_add (h x (by simp)) (sum_le_map fun y m => h y (by simp [m]))
theorem sum_add_map {α : Type} {f g : α → Nat} : ∀ {l : List α}, (l.map fun x => f x + g x).sum = (l.map f).sum + (l.map g).sum
  | [] => rfl
  | x :: l => by
    simp only [List.map_cons, List.sum_cons]
    rw [sum_add_map]
    omega
theorem sum_zero {α : Type} {f : α → Nat} {l : List α} (h : ∀ x ∈ l, f x = 0) : (l.map f).sum = 0 := by
  induction l with
  | nil => rfl
  | cons x l ih =>
    simp only [List.map_cons, List.sum_cons]
    rw [h x (by simp), ih fun y m => h y (by simp [m])]
theorem sum_one : ∀ (n j a : Nat), ((List.range n).map fun k => if k = j then a else 0).sum ≤ a
  | 0, j, a => by simp
  | n + 1, j, a => by
    rw [List.range_succ, List.map_append, List.sum_append]
    simp only [List.map_cons, List.map_nil, List.sum_cons, List.sum_nil, Nat.add_zero]
    by_cases h : n = j
    · subst h
      rw [sum_zero (l := List.range n) fun k m => by
        have := List.mem_range.mp m
        rw [if_neg (by omega)], if_pos rfl]
      omega
    · rw [if_neg h]
      exact sum_one n j a
/-- the number of parts under up, by rows that stand under earlier ones -/
def cn (us : List Int) : Nat → Int → Nat
  | 0, _ => 0
  | n + 1, up => ((List.range us.length).map fun k => if us.getD k (-2) = up then 1 + cn us n k else 0).sum
theorem cn_mono (us : List Int) : ∀ (n : Nat) (up : Int), cn us n up ≤ cn us (n + 1) up
  | 0, up => Nat.zero_le _
  | n + 1, up => by
    rw [cn, cn]
    refine sum_le_map fun k _ => ?_
    split
    · exact Nat.add_le_add_left (cn_mono us n k) 1
    · exact Nat.le_refl _
def cg (us : List Int) (n j : Nat) : Nat := ((List.range us.length).map fun k => if j ≤ k ∧ us.getD k (-2) < j then 1 + cn us n k else 0).sum
theorem cg_step {us : List Int} (h : ∀ k : Nat, k < us.length → us.getD k (-2) < k) (n j : Nat) (hj : j < us.length) : cg us n j ≤ 1 + cg us n (j + 1) := by
  have e1 : cg us n j ≤ ((List.range us.length).map fun k => (if k = j then 1 + cn us n j else 0) + (if j + 1 ≤ k ∧ us.getD k (-2) < j then 1 + cn us n k else 0)).sum := by
    unfold cg
    refine sum_le_map fun k m => ?_
    by_cases hk : k = j
    · subst hk
      rw [if_pos rfl]
      split <;> omega
    · rw [if_neg hk]
      by_cases c : j ≤ k ∧ us.getD k (-2) < j
      · rw [if_pos c, if_pos ⟨by omega, c.2⟩]
        omega
      · rw [if_neg c]
        omega
  rw [sum_add_map] at e1
  have e2 := sum_one us.length j (1 + cn us n j)
  have e3 : cn us n j ≤ ((List.range us.length).map fun k => if us.getD k (-2) = (j : Int) then 1 + cn us n k else 0).sum := by
    have := cn_mono us n j
    rw [cn] at this
    exact this
  have e4 : ((List.range us.length).map fun k => if us.getD k (-2) = (j : Int) then 1 + cn us n k else 0).sum + ((List.range us.length).map fun k => if j + 1 ≤ k ∧ us.getD k (-2) < j then 1 + cn us n k else 0).sum ≤ cg us n (j + 1) := by
    rw [← sum_add_map]
    unfold cg
    refine sum_le_map fun k m => ?_
    have hk := h k (List.mem_range.mp m)
    by_cases c1 : us.getD k (-2) = (j : Int)
    · rw [if_pos c1, if_neg (by omega), if_pos ⟨by omega, by omega⟩]
      exact Nat.le_refl _
    · rw [if_neg c1]
      by_cases c2 : j + 1 ≤ k ∧ us.getD k (-2) < j
      · rw [if_pos c2, if_pos ⟨c2.1, by omega⟩]
        omega
      · rw [if_neg c2]
        omega
  omega
theorem cg_le {us : List Int} (h : ∀ k : Nat, k < us.length → us.getD k (-2) < k) (n : Nat) : ∀ (i j : Nat), j + i = us.length → cg us n j ≤ i
  | 0, j, e => by
    have : cg us n j = 0 := by
      unfold cg
      refine sum_zero fun k m => ?_
      have := List.mem_range.mp m
      rw [if_neg (by omega)]
    omega
  | i + 1, j, e => by
    have a := cg_step h n j (by omega)
    have b := cg_le h n i (j + 1) (by omega)
    omega
/-- all the parts are no more than the rows -/
theorem cn_top {us : List Int} (h : ∀ k : Nat, k < us.length → us.getD k (-2) < k) (n : Nat) : cn us n (-1) ≤ us.length := by
  have e3 : cn us n (-1) ≤ cg us n 0 := by
    have a := cn_mono us n (-1)
    rw [cn] at a
    refine Nat.le_trans a ?_
    unfold cg
    refine sum_le_map fun k m => ?_
    by_cases c1 : us.getD k (-2) = -1
    · rw [if_pos c1, if_pos ⟨by omega, by omega⟩]
      exact Nat.le_refl _
    · rw [if_neg c1]
      omega
  have := cg_le h n us.length 0 (by omega)
  omega
end Z

/-! ZH5: heaps drawn, with their sizes -/
namespace Z
open PySem
mutual
/-- how many things are in it -/
def D.sz : D → Nat
  | .tup xs => 1 + D.szs xs
  | .lst xs => 1 + D.szs xs
  | _ => 1
def D.szs : List D → Nat
  | [] => 0
  | x :: xs => D.sz x + D.szs xs
end
theorem szs_sum : ∀ xs : List D, D.szs xs = (xs.map D.sz).sum
  | [] => rfl
  | x :: xs => by rw [D.szs, szs_sum xs, List.map_cons, List.sum_cons]
theorem szs_sort (xs : List D) : D.szs (sortD xs) = D.szs xs := by
  rw [szs_sum, szs_sum]
  exact ((List.mergeSort_perm xs leD).map D.sz).sum_nat
section
variable {S : Store}
theorem wp_comp_sum {f : D → M (Option D)} (I : Store → Prop) (P : D → Prop) (g w : D → Nat) : ∀ {items : List D} {S : Store} {QL : List D → Store → Prop}, I S → (∀ x ∈ items, ∀ S, I S → wp (f x) S fun o S' => I S' ∧ ∀ y, o = some y → P y ∧ g y ≤ w x) →
    (∀ ys S', I S' → ys.length ≤ items.length → (∀ y ∈ ys, P y) → (ys.map g).sum ≤ (items.map w).sum → QL ys S') → wp (compLoop f items) S QL
  | [], S, QL, hI, _, he => by
    simp only [compLoop, wp_ret]
    exact he [] S hI (Nat.le_refl _) (fun y m => by cases m) (Nat.le_refl _)
  | x :: xs, S, QL, hI, hs, he => by
    simp only [compLoop, wp_bind]
    refine wp_mono (hs x List.mem_cons_self S hI) fun o S1 ⟨hI1, hp⟩ => ?_
    refine wp_comp_sum I P g w hI1 (fun z m => hs z (List.mem_cons_of_mem _ m)) fun ys S2 hI2 hl hys hsum => ?_
    simp only [wp_ret]
    cases o with
    | none => exact he ys S2 hI2 (by rw [List.length_cons]; omega) hys (by rw [List.map_cons, List.sum_cons]; omega)
    | some y =>
      have := hp y rfl
      refine he (y :: ys) S2 hI2 (by rw [List.length_cons, List.length_cons]; omega) (fun z m => ?_) (by simp only [List.map_cons, List.sum_cons]; omega)
      rcases List.mem_cons.mp m with rfl | m
      · exact this.1
      · exact hys z m
end
def rowU : D → Int
  | .lst (.int u :: _) => u
  | _ => -2
def wgt (ps : List D) (n : Nat) (up : Int) : D → Nat
  | .tup [.int i, _] => if (ps.map rowU).getD i.toNat (-2) = up then 4 * (1 + cn (ps.map rowU) n i) else 0
  | _ => 0
theorem wgt_sum (ps : List D) (n : Nat) (up : Int) : ((ps.mapIdx fun i x => D.tup [.int i, x]).map (wgt ps n up)).sum = 4 * cn (ps.map rowU) (n + 1) up := by
  have e : (ps.mapIdx fun i x => D.tup [.int i, x]).map (wgt ps n up) = (List.range ps.length).map fun k => 4 * (if (ps.map rowU).getD k (-2) = up then 1 + cn (ps.map rowU) n k else 0) := by
    apply List.ext_getElem
    · simp
    · intro i h1 h2
      simp only [List.getElem_map, List.getElem_mapIdx, List.getElem_range]
      show (if (ps.map rowU).getD (Int.toNat (i : Int)) (-2) = up then 4 * (1 + cn (ps.map rowU) n (i : Int)) else 0) = _
      rw [Int.toNat_natCast]
      split <;> rfl
  rw [e, cn, List.length_map]
  induction (List.range ps.length) with
  | nil => rfl
  | cons x l ih =>
    simp only [List.map_cons, List.sum_cons]
    rw [ih]
    omega
section
variable {gl : Nat → Option D} {prog : List Fn} {S T : Store} {Q : D → Store → Prop} {k : Nat}
theorem wp_built2 {bl : Nat} (hb0 : prog[bl]? = some ⟨2, 4, builtC bl⟩) {ps : List D} {w : Nat} (hr : RowsOk ps) (hw : ps.length ≤ w) (hw3 : 3 ≤ w) (hw2 : w < 1000) : ∀ (n k : Nat) (up : Int) (S : Store) (Q : D → Store → Prop), n ≤ 90 → -1 ≤ up → (ps.length : Int) - 1 - up ≤ n → (∀ v, heapB v = true → Fit w (2 * n + 1) v → v.sz ≤ 1 + 4 * cn (ps.map rowU) (n + 1) up → Q v S) → wp (run gl prog (n + 1 + k) bl [.lst ps, .int up]) S Q
  | n, k, up, S, Q, hn, h0, hl, q => by
    rw [show n + 1 + k = (n + k) + 1 by omega, wp_run hb0 rfl]
    show wp (execs _ (run gl prog (n + k)) (builtC bl) [.val (.lst ps), .val (.int up), .no, .no]) S _
    simp only [builtC, wp_xret, wp_read, wp_fitF]
    rw [wp_op, wp_cons, wp_op, wp_cons, wp_compE]
    simp only [wp_cons, wp_nil, wp_varM, Fr.env, Bool.false_eq_true, if_false, List.map_cons, List.map_nil, List.getElem?_cons_zero, Slot.str, wp_srcE]
    refine wp_comp_sum (fun S' => S' = S) (fun y => partB y = true ∧ Fit w (2 * n) y) D.sz (wgt ps n up) rfl (fun x m S' hS => ?_) fun ys S' hS hlen hys hsz => ?_
    · subst hS
      obtain ⟨i, hi, rfl⟩ := List.mem_mapIdx.mp m
      have hp := hr i (ps[i]) (List.getElem?_eq_getElem hi)
      obtain ⟨u, j, c, l, hp, u1, u2, j1, j2, hc⟩ := hp
      rw [wp_compT1]
      have hb : bindT (.tup [.name 2, .name 3]) (.tup [.int i, ps[i]]) (wipe [some (.lst ps), some (.int up), none, none] [2, 3]) = some [some (.lst ps), some (.int up), some (.int i), some ps[i]] := rfl
      rw [hb, hp]
      have a0 : L2.atI [D.int u, .int j, .str ⟨#[c]⟩, .int l] 0 = some (.int u) := rfl
      have a1 : L2.atI [D.int u, .int j, .str ⟨#[c]⟩, .int l] 1 = some (.int j) := rfl
      have a2 : L2.atI [D.int u, .int j, .str ⟨#[c]⟩, .int l] 2 = some (.str ⟨#[c]⟩) := rfl
      simp only [wp_op, wp_cons, wp_nil, wp_varM, wp_const, wp_call, List.getElem?_cons_zero, List.getElem?_cons_succ, wp_ixL a0, wp_ixL a1, wp_ixL a2, wp_cmp, wp_eqI, wp_truthB]
      by_cases hu : u = up
      · rw [if_pos (decide_eq_true hu)]
        have hi2 : (i : Int) < ps.length := by omega
        obtain ⟨n', rfl⟩ : ∃ n', n = n' + 1 := ⟨n - 1, by omega⟩
        rw [show n' + 1 + k = n' + 1 + k from rfl]
        refine wp_built2 hb0 hr hw hw3 hw2 n' k (i : Int) S' _ (by omega) (by omega) (by omega) fun v hv hfv hsv => ?_
        rw [wp_tup (by show 3 ≤ 16777216; omega)]
        refine ⟨by first | rfl | trivial, fun y hy => ?_⟩
        cases hy
        refine ⟨⟨part_mk j1 j2 hc hv, Fit.mono (Fit.tup (w := w) (n := 2 * n' + 1) (by show 3 ≤ w; exact hw3) fun z mz => ?_) (Nat.le_refl _) (by omega)⟩, ?_⟩
        · simp only [List.mem_cons, List.not_mem_nil, or_false] at mz
          rcases mz with rfl | rfl | rfl
          · exact Fit.int _
          · exact Fit.str _
          · exact hfv
        · have hrow : (ps.map rowU).getD i (-2) = up := by
            rw [List.getD_eq_getElem?_getD, List.getElem?_map, List.getElem?_eq_getElem hi, hp]
            exact hu
          have hw1 : wgt ps (n' + 1) up (.tup [.int i, ps[i]]) = 4 * (1 + cn (ps.map rowU) (n' + 1) i) := by
            show (if (ps.map rowU).getD (Int.toNat (i : Int)) (-2) = up then 4 * (1 + cn (ps.map rowU) (n' + 1) (i : Int)) else 0) = _
            rw [Int.toNat_natCast, if_pos hrow]
          rw [hp] at hw1
          rw [hw1]
          show 1 + (1 + (1 + (v.sz + 0))) ≤ _
          omega
      · rw [if_neg (by simpa using hu)]
        exact ⟨trivial, fun y hy => by cases hy⟩
    · subst hS
      have so := parts_sortOk (fun y m => (hys y m).1) (fun y m => (hys y m).2) (by show 2 * n ≤ 200; omega)
      rw [wp_sortL so, wp_tupL]
      refine q _ (heap_sort fun y m => (hys y m).1) (Fit.tup ?_ fun y m => (hys y (List.mem_mergeSort.mp m)).2) ?_
      rotate_left
      · rw [D.sz, szs_sort, szs_sum]
        have := wgt_sum ps n up
        omega
      rw [show (sortD ys).length = ys.length from List.length_mergeSort ys]
      rw [List.length_mapIdx] at hlen
      omega
end
end Z

/-! ZH6: heaps drawn, with their sizes: the draws -/
namespace Z
open PySem
theorem sz_mem : ∀ {xs : List D} {x : D}, x ∈ xs → x.sz ≤ D.szs xs
  | y :: ys, x, h => by
    rw [D.szs]
    rcases List.mem_cons.mp h with rfl | h
    · omega
    · have := sz_mem h
      omega
section
variable {gl : Nat → Option D} {prog : List Fn} {S T : Store} {Q : D → Store → Prop} {k : Nat}
theorem wp_draw2 {pl ol bl hl M : Nat} (hp : prog[pl]? = some ⟨2, 5, pullB⟩) (ho : prog[ol]? = some ⟨2, 2, ofC pl⟩) (hb0 : prog[bl]? = some ⟨2, 4, builtC bl⟩) (hh : prog[hl]? = some ⟨5, 9, drawC pl ol bl⟩) {z : Str} (hz : ∀ c ∈ z.cps.toList, c ∈ abc.cps.toList) (hz0 : 0 < z.length) (hz1 : z.length < 1000) {many deep : Int} (hM : M ≤ 40) (h0 : 0 ≤ many) (h7 : many ≤ M) (hB : Bag T S) (q : ∀ v S', Bag T S' → heapB v = true → Fit (M + 3) (2 * M + 3) v → v.sz ≤ 1 + 4 * M → Q v S') : wp (run gl prog (k + M + 5) hl [.loc 0, .str z, .int 3, .int many, .int deep]) S Q := by
  rw [wp_run hh rfl]
  show wp (execs _ (run gl prog (k + M + 4)) (drawC pl ol bl) [.val (.loc 0), .val (.str z), .val (.int 3), .val (.int many), .val (.int deep), .no, .no, .no, .no]) S _
  have e0 : readEs gl (run gl prog (k + M + 4)) true [] [.val (.loc 0), .val (.str z), .val (.int 3), .val (.int many), .val (.int deep), .no, .no, .no, .no] S = .ok [] S := rfl
  unfold drawC
  rw [wp_xown, wp_eq e0, if_pos (by show 0 ≤ 16777216; omega)]
  show wp (execs _ (run gl prog (k + M + 4)) _ [.val (.loc 0), .val (.str z), .val (.int 3), .val (.int many), .val (.int deep), .own [], .no, .no, .no]) S _
  rw [wp_xfor]
  simp only [wp_cons, wp_nil, wp_varM, Fr.env, Bool.false_eq_true, if_false, List.map_cons, List.map_nil, List.getElem?_cons_zero, List.getElem?_cons_succ, Slot.str]
  rw [wp_srcN ⟨by omega, by omega⟩]
  refine wp_loop (fun n fr S => ∃ ps s6 s7 s8, fr = [.val (.loc 0), .val (.str z), .val (.int 3), .val (.int many), .val (.int deep), .own ps, s6, s7, s8] ∧ RowsOk ps ∧ ps.length = n ∧ Bag T S) _ 0 _ _ ⟨[], _, _, _, rfl, fun i p h => by simp at h, rfl, hB⟩ ?_ ?_
  · rintro j x fr S hx ⟨ps, s6, s7, s8, rfl, hps, hlen, hB⟩
    rw [Nat.zero_add] at hlen
    rw [List.getElem?_map] at hx
    obtain ⟨j', hj, rfl⟩ := Option.map_eq_some_iff.mp hx
    obtain ⟨hj1, hj2⟩ := List.getElem?_eq_some_iff.mp hj
    rw [List.length_range] at hj1
    rw [List.getElem_range] at hj2
    subst hj2
    have hst : storeT (.name 6) (.int j) [.val (.loc 0), .val (.str z), .val (.int 3), .val (.int many), .val (.int deep), .own ps, s6, s7, s8] = some [.val (.loc 0), .val (.str z), .val (.int 3), .val (.int many), .val (.int deep), .own ps, .val (.int j), s7, s8] := rfl
    rw [hst]
    simp only []
    rw [wp_xasgN]
    simp only [wp_read, wp_fitF, wp_op, wp_call, wp_cons, wp_nil, wp_varM, wp_const, Fr.env, Bool.false_eq_true, if_false, List.map_cons, List.map_nil, List.getElem?_cons_zero, List.getElem?_cons_succ, Slot.str, wp_add]
    refine wp_pull (k := k + M + 3) hp (by omega) (by omega) hB fun u S1 hB1 u1 u2 => ?_
    rw [wp_sub]
    simp only [List.set_cons_zero, List.set_cons_succ]
    -- the level
    have lev : ∀ Q' : D → Store → Prop, (∀ l, Q' (.int l) S1) → wp (readE gl (run gl prog (k + M + 4)) true (.ife (.op (.cmp .Lt) [(.var 7), (.const (.int 0))]) (.const (.int 0)) (.op (.bin .Add) [(.op .ix [(.op .ix [(.var 5), (.var 7)]), (.const (.int 3))]), (.const (.int 1))])) [.val (.loc 0), .val (.str z), .val (.int 3), .val (.int many), .val (.int deep), .own ps, .val (.int j), .val (.int (u - 1)), s8]) S1 Q' := fun Q' hQ => by
      simp only [wp_read, wp_ife, wp_op, wp_cons, wp_nil, wp_varM, wp_const, Fr.env, if_true, List.map_cons, List.map_nil, List.getElem?_cons_zero, List.getElem?_cons_succ, Slot.brw, wp_cmp, wp_ltI, wp_truthB]
      by_cases hu : u - 1 < 0
      · rw [if_pos (decide_eq_true hu), wp_fitTI]
        exact hQ 0
      · rw [if_neg (by simpa using hu)]
        have hlt : (u - 1).toNat < ps.length := by omega
        rw [wp_ixR (atI_nat (by omega) hlt)]
        obtain ⟨a, b, c, l, hp, _⟩ := hps _ _ (List.getElem?_eq_getElem hlt)
        rw [hp, wp_ixL (show L2.atI [D.int a, .int b, .str ⟨#[c]⟩, .int l] 3 = some (.int l) from rfl), wp_add, wp_fitTI]
        exact hQ _
    rw [wp_xasgN]
    refine lev _ fun l => ?_
    simp only [List.set_cons_zero, List.set_cons_succ]
    -- the row is put
    have put : ∀ (u' l' : Int) (s8' : Slot), -1 ≤ u' → u' < j → wp (execs gl (run gl prog (k + M + 4)) [.app false 5 (.op .lst [(.var 7), (.op (.bin .Add) [(.const (.int 1)), (.call pl [(.var 0), (.var 2)])]), (.call ol [(.var 0), (.var 1)]), (.var 8)])] [.val (.loc 0), .val (.str z), .val (.int 3), .val (.int many), .val (.int deep), .own ps, .val (.int j), .val (.int u'), .val (.int l')]) S1 fun o S => match o with
        | .nx fr' => ∃ ps s6 s7 s8, fr' = [.val (.loc 0), .val (.str z), .val (.int 3), .val (.int many), .val (.int deep), .own ps, s6, s7, s8] ∧ RowsOk ps ∧ ps.length = 0 + j + 1 ∧ Bag T S
        | .ct fr' => ∃ ps s6 s7 s8, fr' = [.val (.loc 0), .val (.str z), .val (.int 3), .val (.int many), .val (.int deep), .own ps, s6, s7, s8] ∧ RowsOk ps ∧ ps.length = 0 + j + 1 ∧ Bag T S
        | .bk _ => False
        | .ret d => False := fun u' l' s8' h1 h2 => by
      rw [wp_xapp (xs := ps) rfl]
      simp only [wp_read, wp_fitF, wp_op, wp_call, wp_cons, wp_nil, wp_varM, wp_const, Fr.env, Bool.false_eq_true, if_false, List.map_cons, List.map_nil, List.getElem?_cons_zero, List.getElem?_cons_succ, Slot.str]
      refine wp_pull (k := k + M + 3) hp (by omega) (by omega) hB1 fun r S2 hB2 r1 r2 => ?_
      rw [wp_add]
      refine wp_ofS (k := k + M + 2) ho hp hz0 (by omega) hB2 fun c S3 hB3 hc => ?_
      rw [wp_lst (by show 4 ≤ 16777216; omega), if_pos (by show ps.length < 16777216; omega)]
      simp only [wp_x0, List.set_cons_zero, List.set_cons_succ]
      refine ⟨ps ++ [.lst [.int u', .int (1 + r), .str ⟨#[c]⟩, .int l']], _, _, _, rfl, fun i p hp => ?_, by rw [List.length_append, List.length_singleton]; omega, hB3⟩
      by_cases hi : i < ps.length
      · rw [List.getElem?_append_left hi] at hp
        exact hps i p hp
      · have hi2 : i = ps.length := by
          have := (List.getElem?_eq_some_iff.mp hp).1
          rw [List.length_append, List.length_singleton] at this
          omega
        subst hi2
        rw [List.getElem?_append_right (Nat.le_refl _), Nat.sub_self] at hp
        cases hp
        exact ⟨u', 1 + r, c, l', rfl, h1, by omega, by omega, by omega, hz c hc⟩
    rw [wp_xif0]
    simp only [wp_read, wp_fitF, wp_op, wp_cons, wp_nil, wp_varM, Fr.env, Bool.false_eq_true, if_false, List.map_cons, List.map_nil, List.getElem?_cons_zero, List.getElem?_cons_succ, Slot.str, wp_cmp, wp_geI, wp_truthB]
    split
    · rw [wp_xasg]
      simp only [wp_read, wp_fitF, wp_op, wp_cons, wp_nil, wp_const, wp_neg]
      rw [wp_tup (by show 2 ≤ 16777216; omega)]
      have hst2 : storeT (.tup [.name 7, .name 8]) (.tup [.int (-1), .int 0]) [.val (.loc 0), .val (.str z), .val (.int 3), .val (.int many), .val (.int deep), .own ps, .val (.int j), .val (.int (u - 1)), .val (.int l)] = some [.val (.loc 0), .val (.str z), .val (.int 3), .val (.int many), .val (.int deep), .own ps, .val (.int j), .val (.int (-1)), .val (.int 0)] := rfl
      rw [hst2]
      simp only [wp_x0]
      refine wp_mono (put (-1) 0 .no (by omega) (by omega)) fun o S' z => ?_
      cases o <;> first | exact z | exact z.elim
    · refine wp_mono (put (u - 1) l .no (by omega) (by omega)) fun o S' z => ?_
      cases o <;> first | exact z | exact z.elim
  · rintro fr S ⟨ps, s6, s7, s8, rfl, hps, hlen, hB⟩
    rw [Nat.zero_add, List.length_map, List.length_range] at hlen
    simp only []
    rw [wp_xfrz (xs := ps) rfl]
    simp only [wp_xret, wp_read, wp_fitF, wp_op, wp_call, wp_cons, wp_nil, wp_varM, wp_const, Fr.env, Bool.false_eq_true, if_false, List.map_cons, List.map_nil, List.set_cons_zero, List.set_cons_succ, List.getElem?_cons_zero, List.getElem?_cons_succ, Slot.str, wp_neg]
    rw [show k + M + 4 = (M + 1) + 1 + (k + 2) by omega]
    refine wp_built2 hb0 (w := M + 3) hps (by omega) (by omega) (by omega) (M + 1) (k + 2) (-1) S _ (by omega) (by omega) (by omega) fun v hv hf hs => ?_
    refine q v S hB hv (hf.mono (by omega) (by omega)) ?_
    have top := cn_top (us := ps.map rowU) (fun i hi => by
      rw [List.length_map] at hi
      obtain ⟨u, j, c, l, hp, _, h2, _⟩ := hps i _ (List.getElem?_eq_getElem hi)
      rw [List.getD_eq_getElem?_getD, List.getElem?_map, List.getElem?_eq_getElem hi, hp]
      exact h2) (M + 1 + 1)
    rw [List.length_map] at top
    omega
theorem wp_any2 {pl ol bl hl al M : Nat} (hp : prog[pl]? = some ⟨2, 5, pullB⟩) (ho : prog[ol]? = some ⟨2, 2, ofC pl⟩) (hb0 : prog[bl]? = some ⟨2, 4, builtC bl⟩) (hh : prog[hl]? = some ⟨5, 9, drawC pl ol bl⟩) (ha : prog[al]? = some ⟨4, 5, anyC pl ol hl⟩) {z : Str} (hz : ∀ c ∈ z.cps.toList, c ∈ abc.cps.toList) (hz0 : 0 < z.length) (hz1 : z.length < 1000) (hM : M ≤ 40) (hB : Bag T S) (q : ∀ v S', Bag T S' → heapB v = true → Fit (M + 4) (2 * M + 3) v → v.sz ≤ 2 + 8 * M → Q v S') : wp (run gl prog (k + M + 7) al [.loc 0, .str z, .int 3, .int M]) S Q := by
  rw [wp_run ha rfl]
  show wp (execs _ (run gl prog (k + M + 6)) (anyC pl ol hl) [.val (.loc 0), .val (.str z), .val (.int 3), .val (.int M), .no]) S _
  unfold anyC
  rw [wp_xasgN]
  simp only [wp_read, wp_fitF, wp_op, wp_call, wp_cons, wp_nil, wp_varM, wp_const, Fr.env, Bool.false_eq_true, if_false, List.map_cons, List.map_nil, List.getElem?_cons_zero, List.getElem?_cons_succ, Slot.str, wp_add]
  refine wp_pull (k := k + M + 5) hp (by omega) (by omega) hB fun many S1 hB1 m1 m2 => ?_
  refine wp_pull (k := k + M + 5) hp (by omega) (by omega) hB1 fun deep S2 hB2 d1 d2 => ?_
  rw [wp_add]
  refine wp_fuel (show (k + 1) + M + 5 = k + M + 6 by omega) (wp_draw2 hp ho hb0 hh hz hz0 hz1 hM m1 (by omega) hB2 fun v S3 hB3 hv hf hs => ?_)
  have t0 : ∀ {S : Store} {Q : D → Store → Prop}, wp (opSem .tup []) S Q = Q (.tup []) S := wp_tup (Nat.zero_le _)
  have okv : okD v (.tup []) = true := by
    unfold okD
    rw [hf.dat]
    show (true && true && decide (min v.dep 1 ≤ Z.many)) = true
    simp only [Bool.and_true, Bool.true_and]
    exact decide_eq_true (Nat.le_trans (Nat.min_le_right _ _) (by show 1 ≤ 200; omega))
  simp only [List.set_cons_zero, List.set_cons_succ, wp_xif0, wp_read, wp_fitF, wp_boolE, wp_bool2, wp_bool1, wp_call, wp_op, wp_cons, wp_nil, wp_varM, wp_const, Fr.env, Bool.false_eq_true, if_false, List.map_cons, List.map_nil, List.getElem?_cons_zero, List.getElem?_cons_succ, Slot.str, t0, wp_cmp, wp_ne_ okv, wp_truthB]
  have tail : ∀ S' v', Bag T S' → heapB v' = true → Fit (M + 4) (2 * M + 3) v' → v'.sz ≤ 2 + 8 * M → wp (execs gl (run gl prog (k + M + 6)) [.ret false (.var 4)] [.val (.loc 0), .val (.str z), .val (.int 3), .val (.int M), .val v']) S' fun o S => (match o with
    | .ret d => Q d S
    | .nx _ => Q .non S
    | _ => False) := fun S' v' hB' h1 h2 h3 => by
    simp only [wp_xret, wp_read, wp_fitF, wp_varM, Fr.env, Bool.false_eq_true, if_false, List.map_cons, List.map_nil, List.getElem?_cons_zero, List.getElem?_cons_succ, Slot.str]
    exact q v' S' hB' h1 h2 h3
  obtain ⟨xs, rfl, hxs⟩ := heap_tup hv
  rw [eqD_unit]
  cases hx : xs.isEmpty with
  | true =>
    simp only [Bool.not_true, Bool.false_eq_true, if_false]
    exact tail _ _ hB3 hv (hf.mono (by omega) (by omega)) (by omega)
  | false =>
    have hpos : 0 < xs.length := by cases xs with
      | nil => cases hx
      | cons _ _ => exact Nat.succ_pos _
    have hlen := hf.len
    simp only [Bool.not_false, if_true]
    refine wp_pull (k := k + M + 5) hp (by omega) (by omega) hB3 fun r S4 hB4 r1 r2 => ?_
    simp only [wp_eqI, wp_truthB]
    split
    · simp only [wp_xasgN, wp_x0, wp_read, wp_fitF, wp_call, wp_op, wp_cons, wp_nil, wp_varM, Fr.env, Bool.false_eq_true, if_false, List.map_cons, List.map_nil, List.getElem?_cons_zero, List.getElem?_cons_succ, Slot.str]
      refine wp_ofT (k := k + M + 4) ho hp hpos (by omega) hB4 fun x S5 hB5 hm => ?_
      rw [wp_tup (by show 1 ≤ 16777216; omega), wp_addT (by show xs.length + 1 ≤ 16777216; omega)]
      have hp : ∀ y ∈ xs ++ [x], partB y = true := fun y m => by
        rcases List.mem_append.mp m with m | m
        · exact hxs y m
        · rw [List.mem_singleton.mp m]; exact hxs x hm
      have hfy : ∀ y ∈ xs ++ [x], Fit (M + 4) (2 * M + 2) y := fun y m => by
        have this : ∀ {y : D}, y ∈ xs → Fit (M + 3) (2 * M + 2) y := fun m => Fit.mem (w := M + 3) (n := 2 * M + 2) hf m
        rcases List.mem_append.mp m with m | m
        · exact (this m).mono (by omega) (by omega)
        · rw [List.mem_singleton.mp m]; exact (this hm).mono (by omega) (by omega)
      rw [wp_sortT (parts_sortOk hp hfy (by show 2 * M + 2 ≤ 200; omega)), wp_tupL]
      simp only [List.set_cons_zero, List.set_cons_succ]
      refine tail _ _ hB5 (heap_sort hp) (Fit.tup ?_ fun y m => hfy y (List.mem_mergeSort.mp m)) ?_
      rotate_left
      · rw [D.sz, szs_sort, szs_sum, List.map_append, List.sum_append, ← szs_sum]
        rw [D.sz] at hs
        have hx := sz_mem hm
        simp only [List.map_cons, List.map_nil, List.sum_cons, List.sum_nil]
        omega
      rw [show (sortD (xs ++ [x])).length = (xs ++ [x]).length from List.length_mergeSort _, List.length_append, List.length_singleton]
      omega
    · exact tail _ _ hB4 hv (hf.mono (by omega) (by omega)) (by omega)
end
end Z

/-! ZT: texts joined; while -/
namespace Z
open PySem
theorem fold_flat : ∀ (zs : List Str) (acc : Array Nat), (zs.foldl (fun acc p => acc ++ ("" : Str).cps ++ p.cps) acc).toList = acc.toList ++ (zs.map fun z => z.cps.toList).flatten
  | [], acc => by simp
  | z :: zs, acc => by
    rw [List.foldl_cons, fold_flat zs]
    have e : ("" : Str).cps = #[] := by decide +kernel
    rw [e]
    simp
theorem join_flat (zs : List Str) : (PySem.Txt.join "" zs).cps.toList = (zs.map fun z => z.cps.toList).flatten := by
  show ((zs.drop 1).foldl (fun acc p => acc ++ ("" : Str).cps ++ p.cps) (zs.headD Str.empty).cps).toList = _
  rw [fold_flat]
  cases zs with
  | nil => rfl
  | cons z zs => simp
theorem allS_map {α : Type} {g : α → Str} : ∀ xs : List α, allS (xs.map fun x => D.str (g x)) = some (xs.map g)
  | [] => rfl
  | x :: xs => by
    simp only [List.map_cons, allS, allS_map xs]
    rfl
section
variable {gl : Nat → Option D} {cal : Nat → List D → M D} {S : Store} {Q : D → Store → Prop} {QO : Out → Store → Prop}
/-- ''.join of texts -/
theorem wp_joinM {α : Type} {g : α → Str} {xs : List α} (h : ((xs.map g).map (·.length)).sum ≤ 16777216) : wp (opSem (.meth .join) [.str "", .lst (xs.map fun x => D.str (g x))]) S Q = Q (.str (PySem.Txt.join "" (xs.map g))) S := by
  show wp (joinSem "" (xs.map fun x => D.str (g x))) S Q = _
  unfold joinSem
  rw [allS_map]
  have e0 : ("" : Str).length = 0 := by decide +kernel
  show wp (if ((xs.map g).map (·.length)).sum + (xs.map g).length * ("" : Str).length ≤ sizeLine then M.ret (.str (PySem.Txt.join "" (xs.map g))) else M.stk) S Q = _
  rw [if_pos (by rw [e0]; show _ ≤ 16777216; omega)]
  rfl
theorem wp_xwhl {n : Nat} {m : Bool} {t : E} {body cs : List Cmd} {fr : Fr} : wp (execs gl cal (.whl n m t body :: cs) fr) S QO = wp (whileLoop (fun fr => M.bind (readE gl cal m t fr) truth) (fun fr => execs gl cal body fr) n fr) S fun o S => (match o with
      | .nx fr' => wp (execs gl cal cs fr') S QO
      | o => QO o S) := by
  simp only [execs, exec, wp_bind]
  congr 1
  funext o S
  cases o <;> simp only [wp_ret]
/-- a while by an invariant with a measure: I d fr S, at most d more turns -/
theorem wp_while {t : Fr → M Bool} {f : Fr → M Out} (I : Nat → Fr → Store → Prop) {QO : Out → Store → Prop} (hs : ∀ d fr S, I d fr S → wp (t fr) S fun c S => if c = true then wp (f fr) S fun o S => (match o with
      | .nx fr' => ∃ d', d' < d ∧ I d' fr' S
      | .ct fr' => ∃ d', d' < d ∧ I d' fr' S
      | .bk fr' => QO (.nx fr') S
      | .ret d => QO (.ret d) S) else QO (.nx fr) S) : ∀ (n d : Nat) (fr : Fr) (S : Store), I d fr S → d < n → wp (whileLoop t f n fr) S QO
  | 0, d, fr, S, h, hd => absurd hd (Nat.not_lt_zero d)
  | n + 1, d, fr, S, h, hd => by
    simp only [whileLoop, wp_bind]
    refine wp_mono (hs d fr S h) fun c S1 q => ?_
    cases c with
    | false =>
      simp only [Bool.false_eq_true, if_false, wp_ret] at q ⊢
      exact q
    | true =>
      simp only [if_true, wp_bind] at q ⊢
      refine wp_mono q fun o S2 q2 => ?_
      cases o with
      | nx fr' =>
        obtain ⟨d', h1, h2⟩ := q2
        exact wp_while I hs n d' fr' S2 h2 (by omega)
      | ct fr' =>
        obtain ⟨d', h1, h2⟩ := q2
        exact wp_while I hs n d' fr' S2 h2 (by omega)
      | bk fr' => exact q2
      | ret d => exact q2
end
end Z

/-! ZX: the text of a heap -/
namespace Z
open PySem
def dig : D → List Nat
  | .int i => (strI i).cps.toList
  | _ => []
def chs : D → List Nat
  | .str z => z.cps.toList
  | _ => []
def brk (l : List Nat) : List Nat := if l = [] then [] else 40 :: (l ++ [41])
mutual
def txP : D → List Nat
  | .tup xs => tx3 xs
  | _ => []
def tx3 : List D → List Nat
  | a :: xs => dig a ++ tx2 xs
  | [] => []
def tx2 : List D → List Nat
  | b :: xs => chs b ++ tx1 xs
  | [] => []
def tx1 : List D → List Nat
  | c :: _ => brk (txH c)
  | [] => []
def txH : D → List Nat
  | .tup xs => txs xs
  | _ => []
def txs : List D → List Nat
  | [] => []
  | x :: xs => txP x ++ txs xs
end
theorem txs_flat : ∀ xs : List D, txs xs = (xs.map txP).flatten
  | [] => rfl
  | x :: xs => by rw [txs, txs_flat xs, List.map_cons, List.flatten_cons]
theorem tx_part (a b c : D) : txP (.tup [a, b, c]) = dig a ++ (chs b ++ brk (txH c)) := by
  rw [txP, tx3, tx2, tx1]
theorem dig_123 {i : Int} (h1 : 1 ≤ i) (h3 : i ≤ 3) : dig (.int i) = [48 + i.toNat] := by
  have h : i = 1 ∨ i = 2 ∨ i = 3 := by omega
  rcases h with rfl | rfl | rfl <;> decide +kernel
/-- what a part is -/
theorem part_is {v : D} (h : partB v = true) : ∃ (i : Int) (c : Nat) (s : D), v = .tup [.int i, .str ⟨#[c]⟩, s] ∧ heapB s = true ∧ 1 ≤ i ∧ i ≤ 3 ∧ c ∈ abc.cps.toList := by
  obtain ⟨i, z, s, rfl, hs⟩ := part_of h
  simp only [partB, part3, part2, part1, Bool.and_eq_true, witB, decide_eq_true_eq] at h
  obtain ⟨⟨h1, h2⟩, h3, _⟩ := h
  have : ∃ c, z = ⟨#[c]⟩ ∧ c ∈ abc.cps.toList := by
    have h3 : (match z.cps.toList with
      | [c] => decide (c ∈ abc.cps.toList)
      | _ => false) = true := h3
    match hz : z.cps.toList with
    | [] => rw [hz] at h3; cases h3
    | [c] =>
      rw [hz] at h3
      refine ⟨c, ?_, of_decide_eq_true h3⟩
      have e : z.cps = #[c] := by
        rw [← Array.toList_inj, hz]
      cases z
      simp only [Str.mk.injEq]
      exact e
    | a :: b :: r => rw [hz] at h3; cases h3
  obtain ⟨c, rfl, hc⟩ := this
  exact ⟨i, c, s, rfl, hs, h1, h2, hc⟩
/-- a text is no longer than its heap is big -/
theorem tx_len : ∀ (n : Nat) (v : D), v.dep ≤ n → (partB v = true → (txP v).length ≤ v.sz) ∧ (heapB v = true → (txH v).length + 1 ≤ v.sz)
  | n, v, hn => by
    refine ⟨fun h => ?_, fun h => ?_⟩
    · obtain ⟨i, c, s, rfl, hs, h1, h2, hc⟩ := part_is h
      have hd : s.dep + 1 ≤ n := by
        rw [D.dep] at hn
        have := deps_le.mp (Nat.le_refl (D.deps [D.int i, .str ⟨#[c]⟩, s])) s (by simp)
        omega
      rw [tx_part, dig_123 h1 h2]
      cases n with
      | zero => omega
      | succ n =>
        have := (tx_len n s (by omega)).2 hs
        simp only [D.sz, D.szs, List.length_append, List.length_cons, List.length_nil, chs]
        unfold brk
        split
        · simp only [List.length_nil]
          omega
        · simp only [List.length_cons, List.length_append, List.length_nil]
          omega
    · obtain ⟨xs, rfl, hx⟩ : ∃ xs, v = .tup xs ∧ ∀ x ∈ xs, partB x = true := heap_tup h
      rw [txH, D.sz]
      have hd : ∀ x ∈ xs, x.dep + 1 ≤ n := fun x m => by
        rw [D.dep] at hn
        have := deps_le.mp (Nat.le_refl (D.deps xs)) x m
        omega
      have key : (txs xs).length ≤ D.szs xs := by
        clear h
        induction xs with
        | nil => exact Nat.le_refl _
        | cons x xs ih =>
          rw [txs, D.szs, List.length_append]
          have hx1 := hx x (by simp)
          have hd1 := hd x (by simp)
          cases n with
          | zero => omega
          | succ n =>
            have a := (tx_len n x (by omega)).1 hx1
            have b := ih (fun y m => hx y (by simp [m])) (by
              rw [D.dep] at hn ⊢
              rw [D.deps] at hn
              omega) (fun y m => hd y (by simp [m]))
            omega
      omega
termination_by n => n
end Z

/-! ZX2: the defs that write a heap's text -/
namespace Z
open PySem
def mkS (l : List Nat) : Str := ⟨l.toArray⟩
theorem mkS_len (l : List Nat) : (mkS l).length = l.length := by
  show l.toArray.size = _
  simp
theorem mkS_list (l : List Nat) : (mkS l).cps.toList = l := by
  show l.toArray.toList = l
  simp
theorem mkS_of (z : Str) : mkS z.cps.toList = z := by
  cases z
  simp [mkS]
theorem mkS_add (a b : List Nat) : mkS a ++ mkS b = mkS (a ++ b) := by
  have e : (mkS a ++ mkS b).cps = (mkS (a ++ b)).cps := by
    show a.toArray ++ b.toArray = (a ++ b).toArray
    simp
  cases h1 : mkS a ++ mkS b
  cases h2 : mkS (a ++ b)
  rw [h1, h2] at e
  simp only [Str.mk.injEq]
  exact e
theorem mkS_inj {a b : List Nat} : mkS a = mkS b ↔ a = b := by
  constructor
  · intro h
    have := congrArg (fun s : Str => s.cps.toList) h
    simpa [mkS] using this
  · rintro rfl
    rfl
section
variable {gl : Nat → Option D} {prog : List Fn} {cal : Nat → List D → M D} {S T : Store} {Q : D → Store → Prop} {k : Nat}
theorem wp_addM {a b : List Nat} (h : a.length + b.length ≤ 16777216) : wp (opSem (.bin .Add) [.str (mkS a), .str (mkS b)]) S Q = Q (.str (mkS (a ++ b))) S := by
  rw [wp_addS (by rw [mkS_len, mkS_len]; exact h), mkS_add]
theorem str_123 {i : Int} (h1 : 1 ≤ i) (h3 : i ≤ 3) : wp (opSem (.bi .str) [.int i]) S Q = Q (.str (mkS (dig (.int i)))) S := by
  show wp (if i.natAbs.log2 < 1920 ∧ (strI i).length ≤ sizeLine ∧ PySem.PyData.strOk (strI i) = true then M.ret (.str (strI i)) else M.stk) S Q = _
  have hc : i.natAbs.log2 < 1920 ∧ (strI i).length ≤ sizeLine ∧ PySem.PyData.strOk (strI i) = true := by
    have h : i = 1 ∨ i = 2 ∨ i = 3 := by omega
    rcases h with rfl | rfl | rfl <;> decide +kernel
  rw [if_pos hc]
  show Q (.str (strI i)) S = Q (.str (mkS (strI i).cps.toList)) S
  rw [mkS_of]
theorem join_mkS {α : Type} {g : α → List Nat} {xs : List α} (h : (xs.map g).flatten.length ≤ 16777216) : wp (opSem (.meth .join) [.str "", .lst (xs.map fun x => D.str (mkS (g x)))]) S Q = Q (.str (mkS (xs.map g).flatten)) S := by
  rw [wp_joinM (g := fun x => mkS (g x))]
  · have e : PySem.Txt.join "" (xs.map fun x => mkS (g x)) = mkS (xs.map g).flatten := by
      rw [← mkS_of (PySem.Txt.join "" (xs.map fun x => mkS (g x))), join_flat, List.map_map]
      have : ((fun z : Str => z.cps.toList) ∘ fun x => mkS (g x)) = g := by
        funext x
        exact mkS_list (g x)
      rw [this]
    rw [e]
  · rw [List.map_map]
    rw [List.length_flatten, List.map_map] at h
    have : ((fun z : Str => z.length) ∘ fun x => mkS (g x)) = (List.length ∘ g) := by
      funext x
      exact mkS_len (g x)
    rw [this]
    exact h
/-- the part's text: e puts the brackets -/
def ptextC (f : Nat) (e : E) : List Cmd := [
  .asg false (.name 1) (.op (.meth .join) [(.const (.str "")), (.comp [2] (.call f [(.var 2)]) (.name 2) .val [(.op .ix [(.var 0), (.const (.int 2))])] [])]),
  .ret false (.op (.bin .Add) [(.op (.bin .Add) [(.op (.bi .str) [(.op .ix [(.var 0), (.const (.int 0))])]), (.op .ix [(.var 0), (.const (.int 1))])]), e])]
def Brk (gl : Nat → Option D) (e : E) : Prop := ∀ (cal : Nat → List D → M D) (a : Option D) (l : List Nat) (c : Option D) (S : Store) (Q : D → Store → Prop), l.length ≤ 1000000 → wp (evalE gl cal e [a, some (.str (mkS l)), c]) S Q = Q (.str (mkS (brk l))) S
theorem eqD_str {a b : Str} : eqD (.str a) (.str b) = decide (a = b) := by
  show PyData.eqv (.str a) (.str b) = _
  rw [PyData.eqv, Bool.beq_eq_decide_eq]
theorem okSS {a b : Str} : okD (.str a) (.str b) = true := rfl
theorem mkS_nil : ("" : Str) = mkS [] := by decide +kernel
theorem mkS_o : ("(" : Str) = mkS [40] := by decide +kernel
theorem mkS_c : (")" : Str) = mkS [41] := by decide +kernel
theorem brkE {cal : Nat → List D → M D} {a c : Option D} {l : List Nat} (h : l.length ≤ 1000000) : wp (evalE gl cal (.op (.bin .Add) [(.op (.bin .Add) [(.const (.str "(")), (.var 1)]), (.const (.str ")"))]) [a, some (.str (mkS l)), c]) S Q = Q (.str (mkS (40 :: (l ++ [41])))) S := by
  simp only [wp_op, wp_cons, wp_nil, wp_const, wp_varM, List.getElem?_cons_zero, List.getElem?_cons_succ]
  rw [mkS_o, mkS_c, wp_addM (by simp; omega), wp_addM (by simp; omega)]
  simp
theorem brkA : Brk gl (.ife (.op (.cmp .NotEq) [(.var 1), (.const (.str ""))]) (.op (.bin .Add) [(.op (.bin .Add) [(.const (.str "(")), (.var 1)]), (.const (.str ")"))]) (.const (.str ""))) := by
  intro cal a l c S Q h
  rw [wp_ife]
  rw [wp_op, wp_cons, wp_varM]
  simp only [List.getElem?_cons_zero, List.getElem?_cons_succ, wp_cons, wp_nil, wp_const, wp_cmp, wp_ne_ okSS, eqD_str, wp_truthB]
  rw [brkE h, mkS_nil]
  unfold brk
  by_cases hl : l = []
  · subst hl
    simp
  · have : ¬ mkS l = mkS [] := fun e => hl (mkS_inj.mp e)
    rw [if_pos (by simp [this]), if_neg hl]
theorem brkB : Brk gl (.ife (.op (.cmp .Eq) [(.var 1), (.const (.str ""))]) (.const (.str "")) (.op (.bin .Add) [(.op (.bin .Add) [(.const (.str "(")), (.var 1)]), (.const (.str ")"))])) := by
  intro cal a l c S Q h
  rw [wp_ife]
  rw [wp_op, wp_cons, wp_varM]
  simp only [List.getElem?_cons_zero, List.getElem?_cons_succ, wp_cons, wp_nil, wp_const, wp_cmp, wp_eq_ okSS, eqD_str, wp_truthB]
  rw [brkE h, mkS_nil]
  unfold brk
  by_cases hl : l = []
  · subst hl
    simp
  · have : ¬ mkS l = mkS [] := fun e => hl (mkS_inj.mp e)
    rw [if_neg (by simp [this]), if_neg hl]
theorem wp_ptext {f : Nat} {e : E} (hf : prog[f]? = some ⟨1, 3, ptextC f e⟩) (he : Brk gl e) : ∀ (n k : Nat) (v : D), v.dep ≤ n → partB v = true → v.sz ≤ 100000 → ∀ (S : Store) (Q : D → Store → Prop), wp (run gl prog (n + 1 + k) f [v]) S Q = Q (.str (mkS (txP v))) S
  | n, k, v, hn, hp, hz, S, Q => by
    obtain ⟨i, c, s, rfl, hs, h1, h2, hc⟩ := part_is hp
    obtain ⟨xs, rfl, hx⟩ := heap_tup hs
    have hd : ∀ x ∈ xs, x.dep + 2 ≤ n := fun x m => by
      rw [D.dep] at hn
      have a := deps_le.mp (Nat.le_refl (D.deps [D.int i, .str ⟨#[c]⟩, .tup xs])) (.tup xs) (by simp)
      rw [D.dep] at a
      have := deps_le.mp (Nat.le_refl (D.deps xs)) x m
      omega
    have hlen := (tx_len _ (.tup xs) (Nat.le_refl _)).2 hs
    have hsz : (D.tup xs).sz ≤ 100000 := by
      simp only [D.sz, D.szs] at hz ⊢
      omega
    rw [show n + 1 + k = (n + k) + 1 by omega, wp_run hf rfl]
    show wp (execs gl (run gl prog (n + k)) (ptextC f e) [.val (.tup [.int i, .str ⟨#[c]⟩, .tup xs]), .no, .no]) S _ = _
    have a0 : L2.atI [D.int i, .str ⟨#[c]⟩, .tup xs] 0 = some (.int i) := rfl
    have a1 : L2.atI [D.int i, .str ⟨#[c]⟩, .tup xs] 1 = some (.str ⟨#[c]⟩) := rfl
    have a2 : L2.atI [D.int i, .str ⟨#[c]⟩, .tup xs] 2 = some (.tup xs) := rfl
    unfold ptextC
    rw [wp_xasgN]
    simp only [wp_read, wp_fitF]
    rw [wp_op, wp_cons, wp_const, wp_cons, wp_compE]
    simp only [wp_cons, wp_nil, wp_op, wp_varM, wp_const, Fr.env, Bool.false_eq_true, if_false, List.map_cons, List.map_nil, List.getElem?_cons_zero, Slot.str, wp_ixT a2]
    rw [wp_srcT, wp_comp_map (g := fun x => some (.str (mkS (txP x)))) fun x m => ?_, filterMap_some, join_mkS (g := txP)]
    · simp only [wp_xret, wp_read, wp_fitF, List.set_cons_zero, List.set_cons_succ]
      rw [wp_op, wp_cons]
      simp only [wp_cons, wp_nil, wp_op, wp_varM, wp_const, Fr.env, Bool.false_eq_true, if_false, List.map_cons, List.map_nil, List.getElem?_cons_zero, Slot.str, wp_ixT a0, wp_ixT a1, str_123 h1 h2]
      have hb : (txs xs).length ≤ 100000 := by
        rw [txH] at hlen
        omega
      rw [← txs_flat]
      have ec : (⟨#[c]⟩ : Str) = mkS [c] := rfl
      rw [ec, wp_addM (by rw [dig_123 h1 h2]; simp), he _ _ _ _ _ _ (by omega), wp_addM]
      · rw [tx_part, txH, List.append_assoc]
        rfl
      · rw [dig_123 h1 h2]
        unfold brk
        split <;> simp <;> omega
    · rw [← txs_flat]
      rw [txH] at hlen
      omega
    · refine of_wp ?_
      rw [wp_compT0]
      have hb : ∀ e0 e1 e2 : Option D, bindT (.name 2) x (wipe [e0, e1, e2] [2]) = some [e0, e1, some x] := fun _ _ _ => rfl
      rw [hb]
      simp only [wp_call, wp_cons, wp_nil, wp_varM, List.getElem?_cons_zero, List.getElem?_cons_succ]
      have hd1 := hd x m
      have hsx := sz_mem m
      rw [D.sz] at hsz
      cases n with
      | zero => omega
      | succ n' =>
        rw [show n' + 1 + k = n' + 1 + k from rfl, wp_ptext hf he n' k x (by omega) (hx x m) (by omega)]
        exact ⟨rfl, rfl⟩
termination_by n => n
end
end Z

/-! ZX3: signs of a text -/
namespace Z
open PySem
theorem cut_one (W : List Nat) (a : Nat) : L2.cutS (mkS W) (some (a : Int)) (some ((a : Int) + 1)) = mkS ((W.drop a).take 1) := by
  have hc : (mkS W).cps.toList = W := mkS_list W
  have hl : (mkS W).length = W.length := mkS_len W
  unfold L2.cutS
  rw [hc, hl, HT.sIx_nat, show ((a : Int) + 1) = ((a + 1 : Nat) : Int) by omega, HT.sIx_nat]
  show mkS _ = mkS _
  congr 1
  by_cases h : a < W.length
  · rw [Nat.min_eq_left (by omega), Nat.min_eq_left (by omega), Nat.add_sub_cancel_left]
  · rw [List.drop_of_length_le (i := a) (by omega), List.drop_of_length_le (by omega)]
    simp
theorem head_of {pre rest : List Nat} : ((pre ++ rest).drop pre.length).take 1 = rest.take 1 := by
  rw [List.drop_left]
section
variable {S : Store} {Q : D → Store → Prop}
theorem wp_one {W : List Nat} {a : Nat} : wp (opSem (.slice true true) [.str (mkS W), .int a, .int ((a : Int) + 1)]) S Q = Q (.str (mkS ((W.drop a).take 1))) S := by
  show wp (M.ret (.str (L2.cutS (mkS W) (some (a : Int)) (some ((a : Int) + 1))))) S Q = _
  rw [cut_one]
  rfl
theorem wp_sgn {W : List Nat} {a : Nat} {c : Nat} (h : W[a]? = some c) : wp (opSem .ix [.str (mkS W), .int a]) S Q = Q (.str (mkS [c])) S := by
  refine wp_ixS (z := mkS W) (i := (a : Int)) (c := c) ?_
  rw [mkS_list]
  have hl := (List.getElem?_eq_some_iff.mp h).1
  rw [atI_nat (by omega) (by omega)]
  simp only [Int.toNat_natCast]
  rw [← List.getElem?_eq_getElem hl]
  exact h
theorem int_123 {c : Nat} (h : c = 49 ∨ c = 50 ∨ c = 51) : wp (opSem (.bi .int) [.str (mkS [c])]) S Q = Q (.int ((c : Int) - 48)) S := by
  have e : ∀ n : Int, PySem.intText? (mkS [c]) = some n → wp (opSem (.bi .int) [.str (mkS [c])]) S Q = Q (.int n) S := fun n hn => by
    show wp (match PySem.intText? (mkS [c]) with
      | some n => if (mkS [c]).length ≤ 640 then M.ret (.int n) else M.stk
      | none => M.stk) S Q = _
    rw [hn]
    show wp (if (mkS [c]).length ≤ 640 then M.ret (.int n) else M.stk) S Q = _
    rw [if_pos (by rw [mkS_len]; simp)]
    rfl
  rcases h with rfl | rfl | rfl
  · exact e 1 (by decide +kernel)
  · exact e 2 (by decide +kernel)
  · exact e 3 (by decide +kernel)
theorem in_123 {l : List Nat} : wp (cmpSem .In (.str (mkS l)) (.tup [.str "1", .str "2", .str "3"])) S Q = Q (.bl (decide (l = [49] ∨ l = [50] ∨ l = [51]))) S := by
  have e1 : ("1" : Str) = mkS [49] := by decide +kernel
  have e2 : ("2" : Str) = mkS [50] := by decide +kernel
  have e3 : ("3" : Str) = mkS [51] := by decide +kernel
  have e : cmpSem .In (.str (mkS l)) (.tup [.str "1", .str "2", .str "3"]) = okB ([D.str "1", .str "2", .str "3"].any fun x => PyData.eqv x.py (D.str (mkS l)).py) := by
    simp only [cmpSem]
    rw [if_pos (by rfl)]
  rw [e]
  show Q (.bl ([D.str "1", .str "2", .str "3"].any fun x => eqD x (.str (mkS l)))) S = _
  rw [e1, e2, e3]
  simp only [List.any_cons, List.any_nil, Bool.or_false, eqD_str, mkS_inj]
  congr 2
  rw [Bool.eq_iff_iff]
  simp only [Bool.or_eq_true, decide_eq_true_eq]
  constructor
  · rintro (h | h | h)
    · exact .inl h.symm
    · exact .inr (.inl h.symm)
    · exact .inr (.inr h.symm)
  · rintro (h | h | h)
    · exact .inl h.symm
    · exact .inr (.inl h.symm)
    · exact .inr (.inr h.symm)
end
end Z

/-! ZX4: a text read -/
namespace Z
open PySem
def patT (il : Nat) : E := (.bool true [(.op (.cmp .In) [(.op (.slice true true) [(.var 0), (.var 3), (.op (.bin .Add) [(.var 3), (.const (.int 1))])]), (.op .tup [(.const (.str "1")), (.const (.str "2")), (.const (.str "3"))])]), (.call il [(.op (.slice true true) [(.var 0), (.op (.bin .Add) [(.var 3), (.const (.int 1))]), (.op (.bin .Add) [(.var 3), (.const (.int 2))])])])])
def patB (pa : Nat) : List Cmd := [.par false [4, 5, 6] [(.op (.bi .int) [(.op .ix [(.var 0), (.var 3)])]), (.op .ix [(.var 0), (.op (.bin .Add) [(.var 3), (.const (.int 1))])]), (.op .tup [])], .asg false (.name 3) (.op (.bin .Add) [(.var 3), (.const (.int 2))]), .ifs false (.op (.cmp .Eq) [(.op (.slice true true) [(.var 0), (.var 3), (.op (.bin .Add) [(.var 3), (.const (.int 1))])]), (.const (.str "("))]) [.asg false (.tup [(.name 6), (.name 3)]) (.call pa [(.var 0), (.op (.bin .Add) [(.var 3), (.const (.int 1))])]), .ifs false (.bool false [(.op (.cmp .Eq) [(.var 6), (.op .tup [])]), (.op (.cmp .NotEq) [(.op (.slice true true) [(.var 0), (.var 3), (.op (.bin .Add) [(.var 3), (.const (.int 1))])]), (.const (.str ")"))])]) [.dead] [], .asg false (.name 3) (.op (.bin .Add) [(.var 3), (.const (.int 1))])] [], .app false 2 (.op .tup [(.var 4), (.var 5), (.var 6)])]
def patC (il pa : Nat) : List Cmd := [.own 2 [], .asg false (.name 3) (.var 1), .whl 10000 false (patT il) (patB pa), .frz 2, .ret false (.op .tup [(.op (.bi .tuple) [(.var 2)]), (.var 3)])]
/-- where reading stops -/
def Stops (rest : List Nat) : Prop := rest = [] ∨ ∃ r, rest = 41 :: r
theorem txP_cons {v : D} (h : partB v = true) : ∃ (i : Int) (c : Nat) (s : D), v = .tup [.int i, .str ⟨#[c]⟩, s] ∧ heapB s = true ∧ 1 ≤ i ∧ i ≤ 3 ∧ c ∈ abc.cps.toList ∧ txP v = (48 + i.toNat) :: c :: brk (txH s) := by
  obtain ⟨i, c, s, rfl, hs, h1, h2, hc⟩ := part_is h
  refine ⟨i, c, s, rfl, hs, h1, h2, hc, ?_⟩
  rw [tx_part, dig_123 h1 h2]
  rfl
theorem txP_ne {v : D} (h : partB v = true) : txP v ≠ [] := by
  obtain ⟨i, c, s, _, _, _, _, _, e⟩ := txP_cons h
  rw [e]
  exact List.cons_ne_nil _ _
section
variable {gl : Nat → Option D} {prog : List Fn} {S : Store} {Q : D → Store → Prop}
theorem let_one {c : Nat} : letB (.str (mkS [c])) = decide (c ∈ abc.cps.toList) := by
  simp only [letB, mkS_list]
theorem let_none {l : List Nat} (h : l.length ≠ 1) : letB (.str (mkS l)) = false := let_len (by rw [mkS_len]; exact h)
/-- the loop's question -/
theorem pat_test {il k : Nat} {el : E} (hl : prog[il]? = some ⟨1, 1, letterC el⟩) (he : IsConst gl el (.str abc)) {W : List Nat} {a : Nat} {e1 e2 e4 e5 e6 : Option D} {b : Bool}
    (hb : b = (decide ((W.drop a).take 1 = [49] ∨ (W.drop a).take 1 = [50] ∨ (W.drop a).take 1 = [51]) && letB (.str (mkS ((W.drop (a + 1)).take 1))))) :
    wp (evalE gl (run gl prog (k + 1)) (patT il) [some (.str (mkS W)), e1, e2, some (.int a), e4, e5, e6]) S Q = Q (.bl b) S := by
  have t3 : ∀ {S : Store} {Q : D → Store → Prop} {a b c : D}, wp (opSem .tup [a, b, c]) S Q = Q (.tup [a, b, c]) S := wp_tup (by show 3 ≤ 16777216; omega)
  unfold patT
  simp only [wp_boolE, wp_bool2, wp_bool1, wp_op, wp_call, wp_cons, wp_nil, wp_varM, wp_const, List.getElem?_cons_zero, List.getElem?_cons_succ, wp_add, wp_one, t3, wp_cmp, in_123, wp_truthB]
  have e1 : ((a : Int) + 1) = ((a + 1 : Nat) : Int) := by omega
  have e2 : ((a : Int) + 2) = ((a + 1 : Nat) : Int) + 1 := by omega
  rw [e2, e1, wp_one, wp_letter hl he rfl, hb]
  simp only [wp_truthB]
  cases decide ((W.drop a).take 1 = [49] ∨ (W.drop a).take 1 = [50] ∨ (W.drop a).take 1 = [51]) <;> rfl
end
end Z

/-! ZX5: a text read: the parts -/
namespace Z
open PySem
theorem txs_append (a b : List D) : txs (a ++ b) = txs a ++ txs b := by
  rw [txs_flat, txs_flat, txs_flat, List.map_append, List.flatten_append]
section
variable {gl : Nat → Option D} {prog : List Fn} {S : Store} {Q : D → Store → Prop}
theorem heap_empty {s : D} (h : heapB s = true) (e : txH s = []) : s = .tup [] := by
  obtain ⟨xs, rfl, hx⟩ := heap_tup h
  cases xs with
  | nil => rfl
  | cons x xs =>
    exfalso
    rw [txH, txs] at e
    exact txP_ne (hx x (by simp)) (List.append_eq_nil_iff.mp e).1
theorem heap_dat : ∀ (n : Nat) (v : D), v.dep ≤ n → (heapB v = true → v.dat = true) ∧ (partB v = true → v.dat = true)
  | n, v, hn => by
    refine ⟨fun h => ?_, fun h => ?_⟩
    · obtain ⟨xs, rfl, hx⟩ := heap_tup h
      rw [D.dat]
      refine dats_mem.mpr fun x m => ?_
      rw [D.dep] at hn
      have := deps_le.mp (Nat.le_refl (D.deps xs)) x m
      cases n with
      | zero => omega
      | succ n => exact (heap_dat n x (by omega)).2 (hx x m)
    · obtain ⟨i, z, c, rfl, hc⟩ := part_of h
      have : c.dep + 1 ≤ n := by
        rw [D.dep] at hn
        have := deps_le.mp (Nat.le_refl (D.deps [D.int i, .str z, c])) c (by simp)
        omega
      cases n with
      | zero => omega
      | succ n =>
        simp only [D.dat, D.dats, (heap_dat n c (by omega)).1 hc, Bool.and_true]
termination_by n => n
theorem part_dat {v : D} (h : heapB v = true) : v.dat = true := (heap_dat v.dep v (Nat.le_refl _)).1 h
theorem txs_len : ∀ {ss : List D}, (∀ x ∈ ss, partB x = true) → ss.length ≤ (txs ss).length
  | [], _ => Nat.le_refl _
  | y :: ys, h => by
    have h0 : 0 < (txP y).length := List.length_pos_iff.mpr (txP_ne (h y (by simp)))
    have h1 := txs_len (ss := ys) fun z m => h z (by simp [m])
    rw [txs, List.length_append, List.length_cons]
    omega
theorem get_drop {W l : List Nat} {a c : Nat} (h : W.drop a = c :: l) : W[a]? = some c := by
  have : (W.drop a)[0]? = some c := by rw [h]; rfl
  rw [List.getElem?_drop] at this
  simpa using this
theorem drop_more {W l : List Nat} {a c : Nat} (h : W.drop a = c :: l) : W.drop (a + 1) = l := by
  rw [← List.drop_drop, h]
  rfl
theorem drop_at {pre a rest : List Nat} {n : Nat} (h : n = pre.length + a.length) (b : List Nat) : (pre ++ ((a ++ b) ++ rest)).drop n = b ++ rest := by
  rw [h, ← List.append_assoc, ← List.append_assoc, List.append_assoc (pre ++ a), ← List.length_append, List.drop_left]
theorem wp_parts {il pa : Nat} {el : E} (hl : prog[il]? = some ⟨1, 1, letterC el⟩) (he : IsConst gl el (.str abc)) (hp : prog[pa]? = some ⟨2, 7, patC il pa⟩) : ∀ (n k : Nat) (ps : List D) (pre rest : List Nat), (∀ x ∈ ps, partB x = true) → D.deps ps ≤ n → Stops rest → (pre ++ (txs ps ++ rest)).length ≤ 9000 → ps.length < 10000 →
    ∀ (S : Store) (Q : D → Store → Prop), Q (.tup [.tup ps, .int ((pre.length + (txs ps).length : Nat) : Int)]) S → wp (run gl prog (n + 2 + k) pa [.str (mkS (pre ++ (txs ps ++ rest))), .int (pre.length : Nat)]) S Q
  | n, k, ps, pre, rest, hps, hd, hst, hW, hlen, S, Q, q => by
    have t0 : ∀ {S : Store} {Q : D → Store → Prop}, wp (opSem .tup []) S Q = Q (.tup []) S := wp_tup (Nat.zero_le _)
    have t2 : ∀ {S : Store} {Q : D → Store → Prop} {a b : D}, wp (opSem .tup [a, b]) S Q = Q (.tup [a, b]) S := wp_tup (by show 2 ≤ 16777216; omega)
    have t3 : ∀ {S : Store} {Q : D → Store → Prop} {a b c : D}, wp (opSem .tup [a, b, c]) S Q = Q (.tup [a, b, c]) S := wp_tup (by show 3 ≤ 16777216; omega)
    rw [show n + 2 + k = (n + 1 + k) + 1 by omega, wp_run hp rfl]
    generalize hWe : pre ++ (txs ps ++ rest) = W at hW
    show wp (execs gl (run gl prog (n + 1 + k)) (patC il pa) [.val (.str (mkS W)), .val (.int (pre.length : Nat)), .no, .no, .no, .no, .no]) S _
    unfold patC
    have e0 : readEs gl (run gl prog (n + 1 + k)) true [] [.val (.str (mkS W)), .val (.int (pre.length : Nat)), .no, .no, .no, .no, .no] S = .ok [] S := rfl
    rw [wp_xown, wp_eq e0, if_pos (by show 0 ≤ 16777216; omega), wp_xasgN]
    simp only [wp_read, wp_fitF, wp_varM, Fr.env, Bool.false_eq_true, if_false, List.map_cons, List.map_nil, List.set_cons_zero, List.set_cons_succ, List.getElem?_cons_zero, List.getElem?_cons_succ, Slot.str]
    rw [wp_xwhl]
    refine wp_while (fun d fr S' => ∃ qs rs s4 s5 s6, ps = qs ++ rs ∧ rs.length = d ∧ fr = [.val (.str (mkS W)), .val (.int (pre.length : Nat)), .own qs, .val (.int ((pre.length + (txs qs).length : Nat) : Int)), s4, s5, s6] ∧ S' = S) ?_ 10000 ps.length _ _ ⟨[], ps, _, _, _, rfl, rfl, by rw [txs]; rfl, rfl⟩ hlen
    rintro d fr S' ⟨qs, rs, s4, s5, s6, hq, hr, rfl, rfl⟩
    have hdr : W.drop (pre.length + (txs qs).length) = txs rs ++ rest := by
      rw [← hWe, hq, txs_append]
      exact drop_at rfl _
    have test : ∀ (QB : Bool → Store → Prop) (b : Bool), b = (decide ((W.drop (pre.length + (txs qs).length)).take 1 = [49] ∨ (W.drop (pre.length + (txs qs).length)).take 1 = [50] ∨ (W.drop (pre.length + (txs qs).length)).take 1 = [51]) && letB (.str (mkS ((W.drop (pre.length + (txs qs).length + 1)).take 1)))) → QB b S' →
        wp (M.bind (readE gl (run gl prog (n + 1 + k)) false (patT il) [.val (.str (mkS W)), .val (.int (pre.length : Nat)), .own qs, .val (.int ((pre.length + (txs qs).length : Nat) : Int)), s4, s5, s6]) truth) S' QB := fun QB b hb hQ => by
      rw [wp_bind, wp_read]
      show wp (evalE gl (run gl prog (n + 1 + k)) (patT il) [some (.str (mkS W)), some (.int (pre.length : Nat)), none, some (.int ((pre.length + (txs qs).length : Nat) : Int)), s4.str, s5.str, s6.str]) S' _
      rw [show n + 1 + k = (n + k) + 1 by omega, pat_test hl he hb, wp_fitF]
      exact hQ
    cases rs with
    | nil =>
      have hd1 : (W.drop (pre.length + (txs qs).length)).take 1 = rest.take 1 := by rw [hdr]; rfl
      refine test _ false ?_ ?_
      · rw [hd1]
        rcases hst with rfl | ⟨r, rfl⟩
        · rfl
        · have : ¬ (([41] : List Nat) = [49] ∨ ([41] : List Nat) = [50] ∨ ([41] : List Nat) = [51]) := by decide
          show false = (decide (([41] : List Nat) = [49] ∨ ([41] : List Nat) = [50] ∨ ([41] : List Nat) = [51]) && _)
          rw [decide_eq_false this]
          rfl
      · rw [if_neg (by decide)]
        rw [List.append_nil] at hq
        subst hq
        simp only []
        rw [wp_xfrz rfl]
        simp only [wp_xret, wp_read, wp_fitF, wp_op, wp_cons, wp_nil, wp_varM, Fr.env, Bool.false_eq_true, if_false, List.map_cons, List.map_nil, List.set_cons_zero, List.set_cons_succ, List.getElem?_cons_zero, List.getElem?_cons_succ, Slot.str, wp_tupL, t2]
        exact q
    | cons x rs =>
      have hx : partB x = true := hps x (by rw [hq]; simp)
      obtain ⟨i, c, s, hxe, hs, h1, h2, hc, htx⟩ := txP_cons hx
      have hd0 : W.drop (pre.length + (txs qs).length) = (48 + i.toNat) :: (c :: (brk (txH s) ++ (txs rs ++ rest))) := by
        rw [hdr, txs, htx]
        simp
      generalize ha : pre.length + (txs qs).length = a at hd0 test hdr
      have hd1 := drop_more hd0
      have hd2 := drop_more hd1
      have hi : 48 + i.toNat = 49 ∨ 48 + i.toNat = 50 ∨ 48 + i.toNat = 51 := by omega
      refine test _ true ?_ ?_
      · rw [hd0, hd1]
        show true = (decide ([48 + i.toNat] = [49] ∨ [48 + i.toNat] = [50] ∨ [48 + i.toNat] = [51]) && letB (.str (mkS [c])))
        rw [let_one, decide_eq_true hc, decide_eq_true (by simpa using hi)]
        rfl
      · rw [if_pos rfl]
        have w1 : wp (opSem .ix [.str (mkS W), .int a]) = fun S Q => Q (.str (mkS [48 + i.toNat])) S := by
          funext S Q
          exact wp_sgn (get_drop hd0)
        have e1 : ((a : Int) + 1) = ((a + 1 : Nat) : Int) := by omega
        have e2 : ((a : Int) + 2) = ((a + 2 : Nat) : Int) := by omega
        have w2 : wp (opSem .ix [.str (mkS W), .int ((a + 1 : Nat) : Int)]) = fun S Q => Q (.str (mkS [c])) S := by
          funext S Q
          exact wp_sgn (get_drop hd1)
        have e3 : (((48 + i.toNat : Nat) : Int) - 48) = i := by omega
        -- the row is put
        have put : ∀ (b : Nat) (u : D), u = s → b = pre.length + (txs (qs ++ [x])).length → wp (execs gl (run gl prog (n + 1 + k)) [.app false 2 (.op .tup [(.var 4), (.var 5), (.var 6)])] [.val (.str (mkS W)), .val (.int (pre.length : Nat)), .own qs, .val (.int (b : Nat)), .val (.int i), .val (.str (mkS [c])), .val u]) S' fun o S => (match o with
            | .nx fr' => ∃ d', d' < d ∧ ∃ qs rs s4 s5 s6, ps = qs ++ rs ∧ rs.length = d' ∧ fr' = [.val (.str (mkS W)), .val (.int (pre.length : Nat)), .own qs, .val (.int ((pre.length + (txs qs).length : Nat) : Int)), s4, s5, s6] ∧ S = S'
            | .ct fr' => ∃ d', d' < d ∧ ∃ qs rs s4 s5 s6, ps = qs ++ rs ∧ rs.length = d' ∧ fr' = [.val (.str (mkS W)), .val (.int (pre.length : Nat)), .own qs, .val (.int ((pre.length + (txs qs).length : Nat) : Int)), s4, s5, s6] ∧ S = S'
            | _ => False) := fun b u hu hb => by
          subst hu
          rw [wp_xapp (xs := qs) rfl]
          simp only [wp_read, wp_fitF, wp_op, wp_cons, wp_nil, wp_varM, Fr.env, Bool.false_eq_true, if_false, List.map_cons, List.map_nil, List.getElem?_cons_zero, List.getElem?_cons_succ, Slot.str, t3]
          rw [if_pos (by rw [hq, List.length_append] at hlen; show qs.length < 16777216; omega)]
          simp only [wp_x0, List.set_cons_zero, List.set_cons_succ]
          refine ⟨rs.length, by rw [List.length_cons] at hr; omega, qs ++ [x], rs, .val (.int i), .val (.str (mkS [c])), .val u, by rw [hq]; simp, rfl, ?_, by first | rfl | trivial⟩
          rw [← hb, hxe]
          rfl
        have fin : ∀ {o : Out} {S : Store}, (match o with
            | .nx fr' => ∃ d', d' < d ∧ ∃ qs rs s4 s5 s6, ps = qs ++ rs ∧ rs.length = d' ∧ fr' = [.val (.str (mkS W)), .val (.int (pre.length : Nat)), .own qs, .val (.int ((pre.length + (txs qs).length : Nat) : Int)), s4, s5, s6] ∧ S = S'
            | .ct fr' => ∃ d', d' < d ∧ ∃ qs rs s4 s5 s6, ps = qs ++ rs ∧ rs.length = d' ∧ fr' = [.val (.str (mkS W)), .val (.int (pre.length : Nat)), .own qs, .val (.int ((pre.length + (txs qs).length : Nat) : Int)), s4, s5, s6] ∧ S = S'
            | _ => False) → (match o with
            | .nx fr' => ∃ d', d' < d ∧ ∃ qs rs s4 s5 s6, ps = qs ++ rs ∧ rs.length = d' ∧ fr' = [.val (.str (mkS W)), .val (.int (pre.length : Nat)), .own qs, .val (.int ((pre.length + (txs qs).length : Nat) : Int)), s4, s5, s6] ∧ S = S'
            | .ct fr' => ∃ d', d' < d ∧ ∃ qs rs s4 s5 s6, ps = qs ++ rs ∧ rs.length = d' ∧ fr' = [.val (.str (mkS W)), .val (.int (pre.length : Nat)), .own qs, .val (.int ((pre.length + (txs qs).length : Nat) : Int)), s4, s5, s6] ∧ S = S'
            | o => True) := fun {o S} z => by cases o <;> first | exact z | trivial
        unfold patB
        rw [wp_xpar, wp_readsF]
        simp only [wp_cons, wp_nil, wp_op, wp_varM, wp_const, Fr.env, Bool.false_eq_true, if_false, List.map_cons, List.map_nil, List.getElem?_cons_zero, List.getElem?_cons_succ, Slot.str, wp_add, t0, e1, w1, w2, int_123 hi, e3]
        have el3 : ([D.int i, .str (mkS [c]), .tup []] : List D).length = [4, 5, 6].length := rfl
        rw [if_pos el3]
        have hfr : setAll [Slot.val (.str (mkS W)), .val (.int (pre.length : Nat)), .own qs, .val (.int (a : Nat)), s4, s5, s6] ([4, 5, 6].zip [Slot.val (.int i), .val (.str (mkS [c])), .val (.tup [])]) = [.val (.str (mkS W)), .val (.int (pre.length : Nat)), .own qs, .val (.int (a : Nat)), .val (.int i), .val (.str (mkS [c])), .val (.tup [])] := rfl
        rw [hfr, wp_xasgN]
        simp only [wp_read, wp_fitF, wp_cons, wp_nil, wp_op, wp_varM, wp_const, Fr.env, Bool.false_eq_true, if_false, List.map_cons, List.map_nil, List.set_cons_zero, List.set_cons_succ, List.getElem?_cons_zero, List.getElem?_cons_succ, Slot.str, wp_add, e2]
        rw [wp_xif0]
        simp only [wp_read, wp_fitF, wp_cons, wp_nil, wp_op, wp_varM, wp_const, Fr.env, Bool.false_eq_true, if_false, List.map_cons, List.map_nil, List.getElem?_cons_zero, List.getElem?_cons_succ, Slot.str, wp_add, wp_one, wp_cmp, wp_eq_ okSS, eqD_str, wp_truthB]
        rw [show a + 2 = a + 1 + 1 from rfl, hd2, mkS_o]
        by_cases hse : txH s = []
        · have hs0 := heap_empty hs hse
          have hb : brk (txH s) = [] := by rw [hse]; rfl
          rw [hb]
          have hn40 : ¬ mkS (([] ++ (txs rs ++ rest)).take 1) = mkS [40] := by
            intro e
            have e := mkS_inj.mp e
            rw [List.nil_append] at e
            cases rs with
            | nil =>
              rw [txs, List.nil_append] at e
              rcases hst with rfl | ⟨r, rfl⟩
              · cases e
              · cases e
            | cons y rs =>
              obtain ⟨i2, c2, s2, _, _, g1, g2, _, ht⟩ := txP_cons (hps y (by rw [hq]; simp))
              rw [txs, ht] at e
              have e : [48 + i2.toNat] = [40] := e
              simp at e
              omega
          rw [if_neg (by simpa using hn40)]
          refine wp_mono (put (a + 1 + 1) (.tup []) hs0.symm ?_) fun o S2 z => ?_
          · rw [txs_append, txs, txs, htx, hb, ← ha]
            simp
            omega
          · cases o <;> first | exact z | exact z.elim
        · obtain ⟨ss, rfl, hss⟩ := heap_tup hs
          have hb : brk (txH (.tup ss)) = 40 :: (txs ss ++ [41]) := by
            unfold brk
            rw [if_neg hse, txH]
          have hdep : D.deps ss + 2 ≤ n := by
            have := deps_le.mp hd x (by rw [hq]; simp)
            rw [hxe, D.dep] at this
            have z := deps_le.mp (Nat.le_refl (D.deps [D.int i, .str ⟨#[c]⟩, .tup ss])) (.tup ss) (by simp)
            rw [D.dep] at z
            omega
          obtain ⟨n', rfl⟩ : ∃ n', n = n' + 2 := ⟨n - 2, by omega⟩
          rw [hb] at hd2 ⊢
          have hd3 := drop_more (by rw [hd2]; rfl : W.drop (a + 1 + 1) = 40 :: (txs ss ++ [41] ++ (txs rs ++ rest)))
          have hd3 : W.drop (a + 3) = txs ss ++ (41 :: (txs rs ++ rest)) := by
            rw [show a + 3 = a + 1 + 1 + 1 from rfl, hd3]
            simp
          have hal : a + 3 ≤ W.length := by
            have := congrArg List.length hd2
            rw [List.length_drop] at this
            simp only [List.length_append, List.length_cons] at this
            omega
          have hWs : W.take (a + 3) ++ (txs ss ++ (41 :: (txs rs ++ rest))) = W := by
            rw [← hd3, List.take_append_drop]
          have hpl : (W.take (a + 3)).length = a + 3 := by
            rw [List.length_take]
            omega
          have hssl : ss.length ≤ (txs ss).length := txs_len hss
          have hlW : (txs ss).length ≤ 9000 := by
            have := congrArg List.length hWs
            simp only [List.length_append] at this
            omega
          have hhd : (40 :: (txs ss ++ [41]) ++ (txs rs ++ rest)).take 1 = [40] := rfl
          rw [hhd, if_pos (by simp)]
          rw [wp_xasg]
          simp only [wp_read, wp_call, wp_cons, wp_nil, wp_op, wp_varM, wp_const, Fr.env, Bool.false_eq_true, if_false, List.map_cons, List.map_nil, List.getElem?_cons_zero, List.getElem?_cons_succ, Slot.str, wp_add]
          have ih := wp_parts hl he hp n' (k + 1) ss (W.take (a + 3)) (41 :: (txs rs ++ rest)) hss (by omega) (.inr ⟨_, rfl⟩) (by rw [hWs]; exact hW) (by omega) S'
          rw [hWs, hpl] at ih
          rw [show ((a + 1 + 1 : Nat) : Int) + 1 = ((a + 3 : Nat) : Int) by omega]
          refine wp_fuel (show n' + 2 + (k + 1) = n' + 2 + 1 + k by omega) (ih _ ?_)
          have hfr2 : storeT (.tup [.name 6, .name 3]) (.tup [.tup ss, .int ((a + 3 + (txs ss).length : Nat) : Int)]) [Slot.val (.str (mkS W)), .val (.int (pre.length : Nat)), .own qs, .val (.int ((a + 1 + 1 : Nat) : Int)), .val (.int i), .val (.str (mkS [c])), .val (.tup [])] = some [.val (.str (mkS W)), .val (.int (pre.length : Nat)), .own qs, .val (.int ((a + 3 + (txs ss).length : Nat) : Int)), .val (.int i), .val (.str (mkS [c])), .val (.tup ss)] := rfl
          rw [wp_fitF, hfr2]
          simp only []
          have hne : ss.isEmpty = false := by
            cases ss with
            | nil => exact absurd (by rw [txH, txs]) hse
            | cons _ _ => rfl
          have okt : okD (.tup ss) (.tup []) = true := by
            unfold okD
            have hdat : (D.tup ss).dat = true := part_dat hs
            rw [hdat]
            show (true && true && decide (min (D.tup ss).dep 1 ≤ many)) = true
            simp only [Bool.and_true, Bool.true_and]
            exact decide_eq_true (Nat.le_trans (Nat.min_le_right _ _) (by show 1 ≤ 200; omega))
          have hdE : W.drop (a + 3 + (txs ss).length) = 41 :: (txs rs ++ rest) := by
            rw [← List.drop_drop, hd3, List.drop_left]
          rw [wp_xif0]
          simp only [wp_read, wp_fitF, wp_boolE, wp_bool2, wp_bool1, wp_cons, wp_nil, wp_op, wp_varM, wp_const, Fr.env, Bool.false_eq_true, if_false, List.map_cons, List.map_nil, List.getElem?_cons_zero, List.getElem?_cons_succ, Slot.str, wp_add, t0, wp_cmp, wp_eq_ okt, eqD_unit, hne, wp_truthB, if_true, wp_one, hdE, mkS_c, wp_ne_ okSS, eqD_str]
          have h41 : (41 :: (txs rs ++ rest)).take 1 = [41] := rfl
          rw [h41]
          simp only [decide_true, Bool.not_true, Bool.false_eq_true, if_false, wp_xasgN, wp_read, wp_fitF, wp_cons, wp_nil, wp_op, wp_varM, wp_const, Fr.env, List.map_cons, List.map_nil, List.getElem?_cons_zero, List.getElem?_cons_succ, Slot.str, wp_add, wp_x0, List.set_cons_zero, List.set_cons_succ]
          rw [show ((a + 3 + (txs ss).length : Nat) : Int) + 1 = ((a + 3 + (txs ss).length + 1 : Nat) : Int) by omega]
          refine wp_mono (put (a + 3 + (txs ss).length + 1) (.tup ss) rfl ?_) fun o S2 z => ?_
          · rw [txs_append, txs, txs, htx, hb, ← ha]
            simp
            omega
          · cases o <;> first | exact z | exact z.elim
termination_by n => n
end
end Z

/-! ZX6: the texts of whole heaps -/
namespace Z
open PySem
section
variable {gl : Nat → Option D} {prog : List Fn} {S : Store} {Q : D → Store → Prop}
/-- ''.join([part_text(part) for part in heap]) -/
theorem wp_htext {f k n : Nat} {e : E} (hf : prog[f]? = some ⟨1, 3, ptextC f e⟩) (he : Brk gl e) {xs : List D} (hx : ∀ x ∈ xs, partB x = true) (hs : heapB (.tup xs) = true) (hd : D.deps xs ≤ n) (hz : D.szs xs ≤ 99999) :
    wp (evalE gl (run gl prog (n + 1 + k)) (.op (.meth .join) [(.const (.str "")), (.comp [1] (.call f [(.var 1)]) (.name 1) .val [(.var 0)] [])]) [some (.tup xs), none]) S Q = Q (.str (mkS (txs xs))) S := by
  have hlen := (tx_len _ (.tup xs) (Nat.le_refl _)).2 hs
  rw [txH, D.sz] at hlen
  rw [wp_op, wp_cons, wp_const, wp_cons, wp_compE]
  simp only [wp_cons, wp_nil, wp_varM, List.getElem?_cons_zero]
  rw [wp_srcT, wp_comp_map (g := fun x => some (.str (mkS (txP x)))) fun x m => ?_, filterMap_some, join_mkS (g := txP), ← txs_flat]
  · rw [← txs_flat]
    omega
  · refine of_wp ?_
    rw [wp_compT0]
    have hb : ∀ e0 e1 : Option D, bindT (.name 1) x (wipe [e0, e1] [1]) = some [e0, some x] := fun _ _ => rfl
    rw [hb]
    simp only [wp_call, wp_cons, wp_nil, wp_varM, List.getElem?_cons_zero, List.getElem?_cons_succ]
    have hsx := sz_mem m
    rw [wp_ptext hf he n k x (deps_le.mp hd x m) (hx x m) (by omega)]
    exact ⟨rfl, rfl⟩
end
end Z

/-! ZX7: how deep the brackets of a text go -/
namespace Z
open PySem
def dstep (p : Int × Int) (c : Nat) : Int × Int := if c = 40 then (p.1 + 1, if p.1 + 1 > p.2 then p.1 + 1 else p.2) else if c = 41 then (p.1 - 1, p.2) else p
theorem abc_no {c : Nat} (h : c ∈ abc.cps.toList) : c ≠ 40 ∧ c ≠ 41 := by
  have : ∀ c ∈ abc.cps.toList, c ≠ 40 ∧ c ≠ 41 := by decide +kernel
  exact this c h
/-- the text of parts: the depth is as before, the most grows by their depth at most -/
theorem deep_txs : ∀ (n : Nat) (xs : List D) (d m : Int), (∀ x ∈ xs, partB x = true) → D.deps xs ≤ n → ∃ m', (txs xs).foldl dstep (d, m) = (d, m') ∧ (m' ≤ m ∨ m' ≤ d + n)
  | n, [], d, m, _, _ => ⟨m, by rw [txs]; rfl, .inl (Int.le_refl _)⟩
  | n, x :: xs, d, m, hx, hd => by
    obtain ⟨i, c, s, hxe, hs, h1, h2, hc, ht⟩ := txP_cons (hx x (by simp))
    have hn := abc_no hc
    have hdx : x.dep ≤ n ∧ D.deps xs ≤ n := by
      rw [D.deps] at hd
      exact Nat.max_le.mp hd
    have first : ∃ m1, (txP x).foldl dstep (d, m) = (d, m1) ∧ (m1 ≤ m ∨ m1 ≤ d + n) := by
      rw [ht, List.foldl_cons, List.foldl_cons]
      have s1 : dstep (d, m) (48 + i.toNat) = (d, m) := by
        unfold dstep
        rw [if_neg (by omega), if_neg (by omega)]
      have s2 : dstep (d, m) c = (d, m) := by
        unfold dstep
        rw [if_neg hn.1, if_neg hn.2]
      rw [s1, s2]
      obtain ⟨ss, rfl, hss⟩ := heap_tup hs
      unfold brk
      by_cases he : txH (.tup ss) = []
      · rw [if_pos he]
        exact ⟨m, rfl, .inl (Int.le_refl _)⟩
      · rw [if_neg he, List.foldl_cons, List.foldl_append, txH]
        have hdd : D.deps ss + 2 ≤ n := by
          have a := hdx.1
          rw [hxe, D.dep] at a
          have z := deps_le.mp (Nat.le_refl (D.deps [D.int i, .str ⟨#[c]⟩, .tup ss])) (.tup ss) (by simp)
          rw [D.dep] at z
          omega
        obtain ⟨n', rfl⟩ : ∃ n', n = n' + 2 := ⟨n - 2, by omega⟩
        have s3 : dstep (d, m) 40 = (d + 1, if d + 1 > m then d + 1 else m) := rfl
        rw [s3]
        obtain ⟨m2, e2, h2⟩ := deep_txs n' ss (d + 1) (if d + 1 > m then d + 1 else m) hss (by omega)
        rw [e2]
        refine ⟨m2, ?_, ?_⟩
        · show dstep (d + 1, m2) 41 = (d, m2)
          unfold dstep
          rw [if_neg (by decide), if_pos rfl]
          simp
        · rcases h2 with h2 | h2
          · split at h2
            · exact .inr (by omega)
            · exact .inl h2
          · exact .inr (by omega)
    obtain ⟨m1, e1, g1⟩ := first
    obtain ⟨m2, e2, g2⟩ := deep_txs n xs d m1 (fun y m => hx y (by simp [m])) hdx.2
    refine ⟨m2, by rw [txs, List.foldl_append, e1, e2], ?_⟩
    rcases g2 with g2 | g2
    · rcases g1 with g1 | g1
      · exact .inl (by omega)
      · exact .inr (by omega)
    · exact .inr g2
termination_by n xs => (n, xs.length)
end Z

/-! ZX8: deepest_bracket -/
namespace Z
open PySem
def deepC : List Cmd := [
  .asg false (.tup [(.name 2), (.name 3)]) (.op .tup [(.const (.int 0)), (.const (.int 0))]),
  .for_ (.name 1) .val [(.var 0)] [.ifs false (.op (.cmp .Eq) [(.var 1), (.const (.str "("))]) [.asg false (.name 2) (.op (.bin .Add) [(.var 2), (.const (.int 1))]), .asg false (.name 3) (.op (.bi .max) [(.var 3), (.var 2)])] [.ifs false (.op (.cmp .Eq) [(.var 1), (.const (.str ")"))]) [.asg false (.name 2) (.op (.bin .Sub) [(.var 2), (.const (.int 1))])] []]],
  .ret false (.var 3)]
section
variable {gl : Nat → Option D} {prog : List Fn} {S : Store} {Q : D → Store → Prop}
theorem wp_max2 {i j : Int} : wp (opSem (.bi .max) [.int i, .int j]) S Q = Q (.int (if j > i then j else i)) S := (rfl)
theorem wp_deep {f k : Nat} (hf : prog[f]? = some ⟨1, 4, deepC⟩) {l : List Nat} (q : Q (.int (l.foldl dstep (0, 0)).2) S) : wp (run gl prog (k + 1) f [.str (mkS l)]) S Q := by
  have t2 : ∀ {S : Store} {Q : D → Store → Prop} {a b : D}, wp (opSem .tup [a, b]) S Q = Q (.tup [a, b]) S := wp_tup (by show 2 ≤ 16777216; omega)
  rw [wp_run hf rfl]
  show wp (execs gl (run gl prog k) deepC [.val (.str (mkS l)), .no, .no, .no]) S _
  unfold deepC
  rw [wp_xasg]
  simp only [wp_read, wp_fitF, wp_op, wp_cons, wp_nil, wp_const, t2]
  have h1 : storeT (.tup [.name 2, .name 3]) (.tup [.int 0, .int 0]) [Slot.val (.str (mkS l)), .no, .no, .no] = some [.val (.str (mkS l)), .no, .val (.int 0), .val (.int 0)] := rfl
  rw [h1]
  simp only []
  rw [wp_xfor]
  simp only [wp_cons, wp_nil, wp_varM, Fr.env, Bool.false_eq_true, if_false, List.map_cons, List.map_nil, List.getElem?_cons_zero, Slot.str]
  rw [wp_srcS]
  refine wp_loop (fun n fr S' => S' = S ∧ ∃ s1, fr = [.val (.str (mkS l)), s1, .val (.int ((l.take n).foldl dstep (0, 0)).1), .val (.int ((l.take n).foldl dstep (0, 0)).2)]) _ 0 _ _ ⟨rfl, _, rfl⟩ ?_ ?_
  · rintro j x fr S' hx ⟨rfl, s1, rfl⟩
    rw [Nat.zero_add]
    have hsg : signs (mkS l) = l.map fun c => D.str (mkS [c]) := by
      unfold signs
      rw [mkS_list]
      rfl
    rw [hsg, List.getElem?_map] at hx
    obtain ⟨c, hc, rfl⟩ := Option.map_eq_some_iff.mp hx
    have htake : (l.take (j + 1)).foldl dstep (0, 0) = dstep ((l.take j).foldl dstep (0, 0)) c := by
      rw [List.take_add_one, hc, List.foldl_append]
      rfl
    rw [htake]
    generalize (l.take j).foldl dstep (0, 0) = p
    obtain ⟨d, m⟩ := p
    have hst : storeT (.name 1) (.str (mkS [c])) [Slot.val (.str (mkS l)), s1, .val (.int d), .val (.int m)] = some [.val (.str (mkS l)), .val (.str (mkS [c])), .val (.int d), .val (.int m)] := rfl
    rw [hst]
    simp only []
    rw [wp_xif]
    simp only [wp_read, wp_fitF, wp_cons, wp_nil, wp_op, wp_varM, wp_const, Fr.env, Bool.false_eq_true, if_false, List.map_cons, List.map_nil, List.getElem?_cons_zero, List.getElem?_cons_succ, Slot.str, wp_cmp, wp_eq_ okSS, eqD_str, wp_truthB, mkS_o, mkS_c, mkS_inj]
    by_cases h4 : c = 40
    · subst h4
      rw [if_pos (by simp)]
      simp only [wp_xasgN, wp_x0, wp_read, wp_fitF, wp_cons, wp_nil, wp_op, wp_varM, wp_const, Fr.env, Bool.false_eq_true, if_false, List.map_cons, List.map_nil, List.set_cons_zero, List.set_cons_succ, List.getElem?_cons_zero, List.getElem?_cons_succ, Slot.str, wp_add, wp_max2]
      exact ⟨trivial, _, rfl⟩
    · rw [if_neg (by simpa using h4), wp_xif0]
      simp only [wp_read, wp_fitF, wp_cons, wp_nil, wp_op, wp_varM, wp_const, Fr.env, Bool.false_eq_true, if_false, List.map_cons, List.map_nil, List.getElem?_cons_zero, List.getElem?_cons_succ, Slot.str, wp_cmp, wp_eq_ okSS, eqD_str, wp_truthB, mkS_c, mkS_inj]
      by_cases h5 : c = 41
      · subst h5
        rw [if_pos (by simp)]
        simp only [wp_xasgN, wp_x0, wp_read, wp_fitF, wp_cons, wp_nil, wp_op, wp_varM, wp_const, Fr.env, Bool.false_eq_true, if_false, List.map_cons, List.map_nil, List.set_cons_zero, List.set_cons_succ, List.getElem?_cons_zero, List.getElem?_cons_succ, Slot.str, wp_sub]
        exact ⟨trivial, _, rfl⟩
      · rw [if_neg (by simpa using h5)]
        simp only [wp_x0]
        refine ⟨trivial, .val (.str (mkS [c])), ?_⟩
        unfold dstep
        rw [if_neg h4, if_neg h5]
  · rintro fr S' ⟨rfl, s1, rfl⟩
    have hlen : 0 + (signs (mkS l)).length = l.length := by
      unfold signs
      rw [mkS_list]
      simp
    rw [hlen, List.take_length]
    simp only [wp_xret, wp_read, wp_fitF, wp_varM, Fr.env, Bool.false_eq_true, if_false, List.map_cons, List.map_nil, List.getElem?_cons_zero, List.getElem?_cons_succ, Slot.str]
    exact q
end
end Z

namespace K07
open PySem PySem.Spec PyProof.Rows L2 Z
def top (i : Nat) : Stmt := PySem.Challenge.pw_shownagain_k07_whole_texts_of_heaps.main.body.getD i (.Pass ⟨0, 0, 0, 0⟩)
/-- is_within -/
def b0 : List Cmd := [
  .ret false (.bool true [(.op (.isi .int) [(.var 0)]), (.not (.op (.isi .bool) [(.var 0)])), (.chain .LtE .LtE (.var 1) (.var 0) (.var 2))])]
def e0 : Ent := ⟨"is_within", top 7, ["value", "low", "high"], 3, b0⟩
/-- is_letter -/
def b1 : List Cmd := [
  .ret false (.bool true [(.op (.isi .str) [(.var 0)]), (.op (.cmp .Eq) [(.op (.bi .len) [(.var 0)]), (.const (.int 1))]), (.op (.cmp .In) [(.var 0), (.glob 1)])])]
def e1 : Ent := ⟨"is_letter", top 8, ["value"], 1, b1⟩
/-- is_part -/
def b2 : List Cmd := [
  .ifs false (.bool false [(.not (.op (.isi .tuple) [(.var 0)])), (.op (.cmp .NotEq) [(.op (.bi .len) [(.var 0)]), (.const (.int 3))])]) [.ret false (.const (.bl false))] [],
  .ret false (.bool true [(.call 0 [(.op .ix [(.var 0), (.const (.int 0))]), (.const (.int 1)), (.glob 0)]), (.call 1 [(.op .ix [(.var 0), (.const (.int 1))])]), (.call 3 [(.op .ix [(.var 0), (.const (.int 2))])])])]
def e2 : Ent := ⟨"is_part", top 9, ["value"], 1, b2⟩
/-- is_heap -/
def b3 : List Cmd := [
  .ifs false (.bool false [(.not (.op (.isi .tuple) [(.var 0)])), (.not (.op (.bi .all) [(.comp [3] (.call 2 [(.var 3)]) (.name 3) .val [(.var 0)] [])]))]) [.ret false (.const (.bl false))] [],
  .ret false (.op (.bi .all) [(.comp [1, 2] (.op (.cmp .LtE) [(.var 1), (.var 2)]) (.tup [(.name 1), (.name 2)]) .zip [(.var 0), (.op (.slice true false) [(.var 0), (.const (.int 1))])] [])])]
def e3 : Ent := ⟨"is_heap", top 10, ["value", "one", "other", "part"], 1, b3⟩
/-- need_heap -/
def b4 : List Cmd := [
  .ifs false (.not (.call 3 [(.var 0)])) [.dead] []]
def e4 : Ent := ⟨"need_heap", top 11, ["value"], 1, b4⟩
/-- part_text -/
def b5 : List Cmd := [
  .asg false (.name 1) (.op (.meth .join) [(.const (.str "")), (.comp [2] (.call 5 [(.var 2)]) (.name 2) .val [(.op .ix [(.var 0), (.const (.int 2))])] [])]),
  .ret false (.op (.bin .Add) [(.op (.bin .Add) [(.op (.bi .str) [(.op .ix [(.var 0), (.const (.int 0))])]), (.op .ix [(.var 0), (.const (.int 1))])]), (.ife (.op (.cmp .NotEq) [(.var 1), (.const (.str ""))]) (.op (.bin .Add) [(.op (.bin .Add) [(.const (.str "(")), (.var 1)]), (.const (.str ")"))]) (.const (.str "")))])]
def e5 : Ent := ⟨"part_text", top 14, ["part", "inner", "one"], 1, b5⟩
/-- heap_text -/
def b6 : List Cmd := [
  .expr false (.call 4 [(.var 0)]),
  .ret false (.ife (.op (.cmp .NotEq) [(.var 0), (.op .tup [])]) (.op (.meth .join) [(.const (.str "")), (.comp [1] (.call 5 [(.var 1)]) (.name 1) .val [(.var 0)] [])]) (.const (.str "-")))]
def e6 : Ent := ⟨"heap_text", top 15, ["heap", "part"], 1, b6⟩
/-- parts_at -/
def b7 : List Cmd := [
  .own 2 [],
  .asg false (.name 3) (.var 1),
  .whl 10000 false (.bool true [(.op (.cmp .In) [(.op (.slice true true) [(.var 0), (.var 3), (.op (.bin .Add) [(.var 3), (.const (.int 1))])]), (.op .tup [(.const (.str "1")), (.const (.str "2")), (.const (.str "3"))])]), (.call 1 [(.op (.slice true true) [(.var 0), (.op (.bin .Add) [(.var 3), (.const (.int 1))]), (.op (.bin .Add) [(.var 3), (.const (.int 2))])])])]) [.par false [4, 5, 6] [(.op (.bi .int) [(.op .ix [(.var 0), (.var 3)])]), (.op .ix [(.var 0), (.op (.bin .Add) [(.var 3), (.const (.int 1))])]), (.op .tup [])], .asg false (.name 3) (.op (.bin .Add) [(.var 3), (.const (.int 2))]), .ifs false (.op (.cmp .Eq) [(.op (.slice true true) [(.var 0), (.var 3), (.op (.bin .Add) [(.var 3), (.const (.int 1))])]), (.const (.str "("))]) [.asg false (.tup [(.name 6), (.name 3)]) (.call 7 [(.var 0), (.op (.bin .Add) [(.var 3), (.const (.int 1))])]), .ifs false (.bool false [(.op (.cmp .Eq) [(.var 6), (.op .tup [])]), (.op (.cmp .NotEq) [(.op (.slice true true) [(.var 0), (.var 3), (.op (.bin .Add) [(.var 3), (.const (.int 1))])]), (.const (.str ")"))])]) [.dead] [], .asg false (.name 3) (.op (.bin .Add) [(.var 3), (.const (.int 1))])] [], .app false 2 (.op .tup [(.var 4), (.var 5), (.var 6)])],
  .frz 2,
  .ret false (.op .tup [(.op (.bi .tuple) [(.var 2)]), (.var 3)])]
def e7 : Ent := ⟨"parts_at", top 16, ["text", "start", "parts", "at", "joint", "letter", "inner"], 2, b7⟩
/-- deepest_bracket -/
def b8 : List Cmd := [
  .asg false (.tup [(.name 2), (.name 3)]) (.op .tup [(.const (.int 0)), (.const (.int 0))]),
  .for_ (.name 1) .val [(.var 0)] [.ifs false (.op (.cmp .Eq) [(.var 1), (.const (.str "("))]) [.asg false (.name 2) (.op (.bin .Add) [(.var 2), (.const (.int 1))]), .asg false (.name 3) (.op (.bi .max) [(.var 3), (.var 2)])] [.ifs false (.op (.cmp .Eq) [(.var 1), (.const (.str ")"))]) [.asg false (.name 2) (.op (.bin .Sub) [(.var 2), (.const (.int 1))])] []]],
  .ret false (.var 3)]
def e8 : Ent := ⟨"deepest_bracket", top 17, ["text", "sign", "depth", "most"], 1, b8⟩
/-- read_heap -/
def b9 : List Cmd := [
  .ifs false (.bool false [(.not (.op (.isi .str) [(.var 0)])), (.op (.cmp .Gt) [(.call 8 [(.var 0)]), (.glob 2)])]) [.dead] [],
  .ifs false (.op (.cmp .Eq) [(.var 0), (.const (.str "-"))]) [.ret false (.op .tup [])] [],
  .asg false (.tup [(.name 1), (.name 2)]) (.call 7 [(.var 0), (.const (.int 0))]),
  .ifs false (.bool false [(.op (.cmp .Eq) [(.var 1), (.op .tup [])]), (.op (.cmp .NotEq) [(.var 2), (.op (.bi .len) [(.var 0)])]), (.not (.call 3 [(.var 1)]))]) [.dead] [],
  .ret false (.var 1)]
def e9 : Ent := ⟨"read_heap", top 18, ["text", "parts", "end"], 1, b9⟩
/-- _law_bag -/
def b10 : List Cmd := [
  .ret false (.alloc [(.op (.bi .list) [(.op (.slice false true) [(.var 0), (.const (.int 63))])]), (.const (.int 0)), (.const (.int 0)), (.const (.int 5617))])]
def e10 : Ent := ⟨"_law_bag", top 20, ["_law_script"], 1, b10⟩
/-- _law_pull -/
def b11 : List Cmd := [
  .ifs false (.bool true [(.op (.cmp .Eq) [(.op .ix [(.var 0), (.const (.int 2))]), (.const (.int 0))]), (.op (.cmp .Lt) [(.op .ix [(.var 0), (.const (.int 1))]), (.op (.bi .len) [(.op .ix [(.var 0), (.const (.int 0))])])])]) [.asg false (.name 3) (.op .ix [(.op .ix [(.var 0), (.const (.int 0))]), (.op .ix [(.var 0), (.const (.int 1))])]), .setIx (.var 0) (.const (.int 1)) (.op (.bin .Add) [(.op .ix [(.var 0), (.const (.int 1))]), (.const (.int 1))]), .ifs false (.op (.cmp .GtE) [(.op (.bi .abs) [(.var 3)]), (.op (.bin .Pow) [(.const (.int 10)), (.const (.int 18))])]) [.setIx (.var 0) (.const (.int 2)) (.op (.bi .abs) [(.var 3)])] [.setIx (.var 0) (.const (.int 3)) (.op (.bin .Mod) [(.op (.bi .int) [(.op (.bin .Add) [(.op (.bin .Add) [(.op (.bin .Mult) [(.op .ix [(.var 0), (.const (.int 3))]), (.const (.int 48271))]), (.op (.bin .Mult) [(.op (.bin .Mod) [(.op (.bi .int) [(.var 3)]), (.const (.int 1000003))]), (.const (.int 911))])]), (.const (.int 7))])]), (.const (.int 2147483647))])]] [],
  .ifs false (.op (.cmp .Gt) [(.op .ix [(.var 0), (.const (.int 2))]), (.const (.int 0))]) [.asg false (.name 4) (.op (.bin .Mod) [(.op (.bi .int) [(.op .ix [(.var 0), (.const (.int 2))])]), (.var 1)]), .setIx (.var 0) (.const (.int 2)) (.op (.bin .FloorDiv) [(.op .ix [(.var 0), (.const (.int 2))]), (.var 1)]), .ret false (.var 4)] [],
  .asg false (.name 2) (.op (.bin .Mod) [(.op (.bi .int) [(.op (.bin .Mult) [(.op .ix [(.var 0), (.const (.int 3))]), (.op .ix [(.var 0), (.const (.int 3))])])]), (.const (.int 2147483629))]),
  .setIx (.var 0) (.const (.int 3)) (.op (.bin .Mod) [(.op (.bi .int) [(.op (.bin .Add) [(.op (.bin .Add) [(.op (.bin .Mult) [(.var 2), (.const (.int 16807))]), (.op (.bin .Mult) [(.op .ix [(.var 0), (.const (.int 3))]), (.const (.int 40692))])]), (.const (.int 12345))])]), (.const (.int 2147483647))]),
  .ret false (.op (.bin .Mod) [(.op (.bi .int) [(.op (.bin .FloorDiv) [(.op .ix [(.var 0), (.const (.int 3))]), (.const (.int 64))])]), (.var 1)])]
def e11 : Ent := ⟨"_law_pull", top 21, ["_law_bag_here", "_law_sides", "_law_twice", "_law_cell", "_law_digit"], 2, b11⟩
/-- _law_of -/
def b12 : List Cmd := [
  .ret false (.op .ix [(.var 1), (.call 11 [(.var 0), (.op (.bi .len) [(.var 1)])])])]
def e12 : Ent := ⟨"_law_of", top 22, ["_law_bag_here", "_law_some"], 2, b12⟩
/-- _law_same -/
def b13 : List Cmd := [
  .ifs false (.bool false [(.op (.isis [.bool, .str]) [(.var 1)]), (.op (.cmp .Is) [(.var 1), (.const .non)])]) [.asg false (.name 2) (.op .lst [(.op (.cmp .Eq) [(.op (.isi .bool) [(.var 0)]), (.op (.isi .bool) [(.var 1)])]), (.op (.cmp .Eq) [(.op (.isi .str) [(.var 0)]), (.op (.isi .str) [(.var 1)])])]), .ret false (.bool true [(.op (.cmp .Eq) [(.var 2), (.op .lst [(.const (.bl true)), (.const (.bl true))])]), (.op (.cmp .Eq) [(.var 0), (.var 1)])])] [],
  .ifs false (.op (.isi .int) [(.var 1)]) [.ret false (.bool true [(.op (.isi .int) [(.var 0)]), (.not (.op (.isi .bool) [(.var 0)])), (.op (.cmp .Eq) [(.var 0), (.var 1)])])] [],
  .ifs false (.op (.isis [.list, .tuple]) [(.var 1)]) [.asg false (.name 2) (.op .lst [(.op (.cmp .Eq) [(.op (.isi .list) [(.var 0)]), (.op (.isi .list) [(.var 1)])]), (.op (.cmp .Eq) [(.op (.isi .tuple) [(.var 0)]), (.op (.isi .tuple) [(.var 1)])])]), .ifs false (.bool false [(.op (.cmp .NotEq) [(.var 2), (.op .lst [(.const (.bl true)), (.const (.bl true))])]), (.op (.cmp .NotEq) [(.op (.bi .len) [(.var 0)]), (.op (.bi .len) [(.var 1)])])]) [.ret false (.const (.bl false))] [], .ret false (.op (.bi .all) [(.comp [3, 4] (.call 13 [(.var 3), (.var 4)]) (.tup [(.name 3), (.name 4)]) .zip [(.var 0), (.var 1)] [])])] [],
  .ret false (.op (.cmp .Eq) [(.var 0), (.var 1)])]
def e13 : Ent := ⟨"_law_same", top 23, ["_law_found", "_law_due", "_law_kinds", "_law_one", "_law_other"], 2, b13⟩
/-- _law_built -/
def b14 : List Cmd := [
  .ret false (.op (.bi .tuple) [(.op (.bi .sorted) [(.comp [2, 3] (.op .tup [(.op .ix [(.var 3), (.const (.int 1))]), (.op .ix [(.var 3), (.const (.int 2))]), (.call 14 [(.var 0), (.var 2)])]) (.tup [(.name 2), (.name 3)]) .enum [(.var 0)] [(.op (.cmp .Eq) [(.op .ix [(.var 3), (.const (.int 0))]), (.var 1)])])])])]
def e14 : Ent := ⟨"_law_built", top 24, ["_law_parts", "_law_up", "_law_k", "_law_part"], 2, b14⟩
/-- _law_heap -/
def b15 : List Cmd := [
  .own 5 [],
  .for_ (.name 6) .range1 [(.var 3)] [.asg false (.name 7) (.op (.bin .Sub) [(.call 11 [(.var 0), (.op (.bin .Add) [(.var 6), (.const (.int 1))])]), (.const (.int 1))]), .asg true (.name 8) (.ife (.op (.cmp .Lt) [(.var 7), (.const (.int 0))]) (.const (.int 0)) (.op (.bin .Add) [(.op .ix [(.op .ix [(.var 5), (.var 7)]), (.const (.int 3))]), (.const (.int 1))])), .ifs false (.op (.cmp .GtE) [(.var 8), (.var 4)]) [.asg false (.tup [(.name 7), (.name 8)]) (.op .tup [(.op .neg [(.const (.int 1))]), (.const (.int 0))])] [], .app false 5 (.op .lst [(.var 7), (.op (.bin .Add) [(.const (.int 1)), (.call 11 [(.var 0), (.var 2)])]), (.call 12 [(.var 0), (.var 1)]), (.var 8)])],
  .frz 5,
  .ret false (.call 14 [(.var 5), (.op .neg [(.const (.int 1))])])]
def e15 : Ent := ⟨"_law_heap", top 25, ["_law_bag_here", "_law_letters", "_law_joints", "_law_many", "_law_deep", "_law_parts", "_law_k", "_law_up", "_law_level"], 5, b15⟩
/-- _law_any_heap -/
def b16 : List Cmd := [
  .asg false (.name 4) (.call 15 [(.var 0), (.var 1), (.var 2), (.call 11 [(.var 0), (.op (.bin .Add) [(.var 3), (.const (.int 1))])]), (.op (.bin .Add) [(.const (.int 1)), (.call 11 [(.var 0), (.const (.int 5))])])]),
  .ifs false (.bool true [(.op (.cmp .NotEq) [(.var 4), (.op .tup [])]), (.op (.cmp .Eq) [(.call 11 [(.var 0), (.const (.int 3))]), (.const (.int 0))])]) [.asg false (.name 4) (.op (.bi .tuple) [(.op (.bi .sorted) [(.op (.bin .Add) [(.var 4), (.op .tup [(.call 12 [(.var 0), (.var 4)])])])])])] [],
  .ret false (.var 4)]
def e16 : Ent := ⟨"_law_any_heap", top 26, ["_law_bag_here", "_law_letters", "_law_joints", "_law_most", "_law_my_heap"], 4, b16⟩
/-- _law_part_text -/
def b17 : List Cmd := [
  .asg false (.name 1) (.op (.meth .join) [(.const (.str "")), (.comp [2] (.call 17 [(.var 2)]) (.name 2) .val [(.op .ix [(.var 0), (.const (.int 2))])] [])]),
  .ret false (.op (.bin .Add) [(.op (.bin .Add) [(.op (.bi .str) [(.op .ix [(.var 0), (.const (.int 0))])]), (.op .ix [(.var 0), (.const (.int 1))])]), (.ife (.op (.cmp .Eq) [(.var 1), (.const (.str ""))]) (.const (.str "")) (.op (.bin .Add) [(.op (.bin .Add) [(.const (.str "(")), (.var 1)]), (.const (.str ")"))]))])]
def e17 : Ent := ⟨"_law_part_text", top 27, ["_law_part", "_law_inner", "_law_one"], 1, b17⟩
/-- _law_text -/
def b18 : List Cmd := [
  .ret false (.ife (.op (.cmp .Eq) [(.var 0), (.op .tup [])]) (.const (.str "-")) (.op (.meth .join) [(.const (.str "")), (.comp [1] (.call 17 [(.var 1)]) (.name 1) .val [(.var 0)] [])]))]
def e18 : Ent := ⟨"_law_text", top 28, ["_law_my_heap", "_law_part"], 1, b18⟩
/-- law -/
def b19 : List Cmd := [
  .asg false (.name 1) (.call 10 [(.var 0)]),
  .for_ (.name 2) .range1 [(.const (.int 8))] [.asg false (.name 3) (.call 16 [(.var 1), (.const (.str "abcdefghijklmnopqrstuvwxyz")), (.const (.int 3)), (.const (.int 14))]), .ifs false (.not (.call 13 [(.op .lst [(.call 6 [(.var 3)]), (.call 9 [(.call 18 [(.var 3)])])]), (.op .lst [(.call 18 [(.var 3)]), (.var 3)])])) [.ret false (.const (.bl false))] [], .ifs false (.not (.call 13 [(.callK 9 0 ["text"] [0] [] [(.callK 6 0 ["heap"] [0] [] [(.var 3)])]), (.var 3)])) [.ret false (.const (.bl false))] []],
  .ret false (.call 13 [(.op .lst [(.call 6 [(.op .tup [])]), (.call 9 [(.const (.str "-"))]), (.call 6 [(.op .tup [(.op .tup [(.const (.int 1)), (.const (.str "a")), (.op .tup [(.op .tup [(.const (.int 2)), (.const (.str "b")), (.op .tup [])])])]), (.op .tup [(.const (.int 1)), (.const (.str "c")), (.op .tup [])])])])]), (.op .lst [(.const (.str "-")), (.op .tup []), (.const (.str "1a(2b)1c"))])])]
def e19 : Ent := ⟨"law", top 29, ["_law_script", "_law_bag_here", "_law_turn", "_law_my_heap"], 1, b19⟩
def ents : List Ent := [e0, e1, e2, e3, e4, e5, e6, e7, e8, e9, e10, e11, e12, e13, e14, e15, e16, e17, e18, e19]
def globs : List (Str × D) := [("STRENGTHS", .int 3), ("LETTERS", .str "abcdefghijklmnopqrstuvwxyz"), ("DEEPEST", .int 60)]
def kws : Kws := [(6, 0, ["heap"], [0]), (9, 0, ["text"], [0])]
end K07

namespace K07
open PySem Z
def prog : List Fn := ents.map Ent.fn
abbrev go (k f : Nat) (ds : List D) : M D := run (glOf globs) prog k f ds
section
variable {S T : Store} {Q : D → Store → Prop} {k : Nat}
theorem pullAt : prog[11]? = some ⟨2, 5, pullB⟩ := rfl
theorem ofAt : prog[12]? = some ⟨2, 2, ofC 11⟩ := rfl
theorem sameAt : prog[13]? = some ⟨2, 5, sameC 13⟩ := rfl
theorem builtAt : prog[14]? = some ⟨2, 4, builtC 14⟩ := rfl
theorem drawAt : prog[15]? = some ⟨5, 9, drawC 11 12 14⟩ := rfl
theorem anyAt : prog[16]? = some ⟨4, 5, anyC 11 12 15⟩ := rfl
theorem deepAt : prog[8]? = some ⟨1, 4, deepC⟩ := rfl
theorem HF : HeapF (glOf globs) prog 0 1 2 3 (.glob 1) (.glob 0) true := ⟨rfl, rfl, rfl, rfl, isGlob rfl, isGlob rfl⟩
theorem ptAt : prog[5]? = some ⟨1, 3, ptextC 5 (.ife (.op (.cmp .NotEq) [(.var 1), (.const (.str ""))]) (.op (.bin .Add) [(.op (.bin .Add) [(.const (.str "(")), (.var 1)]), (.const (.str ")"))]) (.const (.str "")))⟩ := rfl
theorem lpAt : prog[17]? = some ⟨1, 3, ptextC 17 (.ife (.op (.cmp .Eq) [(.var 1), (.const (.str ""))]) (.const (.str "")) (.op (.bin .Add) [(.op (.bin .Add) [(.const (.str "(")), (.var 1)]), (.const (.str ")"))]))⟩ := rfl
theorem patAt : prog[7]? = some ⟨2, 7, patC 1 7⟩ := rfl
/-- the text of a heap -/
def T_ (xs : List D) : List Nat := if xs = [] then [45] else txs xs
theorem x_need {v : D} (hh : heapB v = true) (hd : v.dep ≤ 40) : wp (go (k + 85) 4 [v]) S Q = Q .non S := by
  unfold go
  rw [show k + 85 = (k + 84) + 1 by omega, wp_run (fn := ⟨1, 1, b4⟩) rfl rfl]
  show wp (execs _ (go (k + 84)) b4 [.val v]) S _ = _
  have h := (wp_heap HF 40 (k + 1) v (part_dat hh) hd (by show 40 ≤ 200; omega)).1
  rw [show 2 * 40 + 3 + (k + 1) = k + 84 by omega, hh] at h
  simp only [b4, wp_xif0, wp_read, wp_fitF, wp_not, wp_call, wp_cons, wp_nil, wp_varM, Fr.env, Bool.false_eq_true, if_false, List.map_cons, List.map_nil, List.getElem?_cons_zero, Slot.str, h, wp_truthB, Bool.not_true, wp_x0]
theorem tail_T {xs : List D} : (if xs = [] then mkS [45] else mkS (txs xs)) = mkS (T_ xs) := by
  unfold T_
  split <;> rfl
theorem dash : ("-" : Str) = mkS [45] := by decide +kernel
theorem x_htext {xs : List D} (hh : heapB (.tup xs) = true) (hd : (D.tup xs).dep ≤ 40) (hz : D.szs xs ≤ 9000) : wp (go (k + 90) 6 [.tup xs]) S Q = Q (.str (mkS (T_ xs))) S := by
  have t0 : ∀ {S : Store} {Q : D → Store → Prop}, wp (opSem .tup []) S Q = Q (.tup []) S := wp_tup (Nat.zero_le _)
  obtain ⟨ys, e, hx⟩ := heap_tup hh
  cases e
  have okt : okD (.tup xs) (.tup []) = true := by
    unfold okD
    rw [part_dat hh]
    show (true && true && decide (min (D.tup xs).dep 1 ≤ many)) = true
    simp only [Bool.and_true, Bool.true_and]
    exact decide_eq_true (Nat.le_trans (Nat.min_le_right _ _) (by show 1 ≤ 200; omega))
  unfold go
  rw [show k + 90 = (k + 89) + 1 by omega, wp_run (fn := ⟨1, 2, b6⟩) rfl rfl]
  show wp (execs _ (go (k + 89)) b6 [.val (.tup xs), .no]) S _ = _
  unfold b6
  rw [wp_xexpr]
  simp only [wp_read, wp_fitF, wp_call, wp_cons, wp_nil, wp_varM, Fr.env, Bool.false_eq_true, if_false, List.map_cons, List.map_nil, List.getElem?_cons_zero, Slot.str]
  rw [show k + 89 = (k + 4) + 85 by omega, x_need hh hd, wp_xret]
  simp only [wp_read, wp_fitF]
  rw [wp_ife]
  rw [wp_op, wp_cons, wp_varM]
  simp only [wp_cons, wp_nil, wp_op, wp_const, Fr.env, Bool.false_eq_true, if_false, List.map_cons, List.map_nil, List.getElem?_cons_zero, Slot.str, t0, wp_cmp, wp_ne_ okt, eqD_unit, wp_truthB]
  rw [D.dep] at hd
  have j := wp_htext (gl := glOf globs) (prog := prog) (S := S) (Q := fun d S => Q d S) (n := 40) (k := k + 48) ptAt brkA hx hh (by omega) (by omega)
  rw [show 40 + 1 + (k + 48) = k + 4 + 85 by omega] at j
  unfold T_
  cases xs with
  | nil =>
    simp only [List.isEmpty_nil, Bool.not_true, Bool.false_eq_true, if_false, if_true, dash]
  | cons y ys =>
    simp only [List.isEmpty_cons, Bool.not_false, if_true]
    rw [if_neg (by simp)]
    rw [← j, wp_op, wp_cons, wp_const]
    simp only [wp_cons, wp_nil]
theorem x_ltext {xs : List D} (hh : heapB (.tup xs) = true) (hd : (D.tup xs).dep ≤ 40) (hz : D.szs xs ≤ 9000) : wp (go (k + 90) 18 [.tup xs]) S Q = Q (.str (mkS (T_ xs))) S := by
  have t0 : ∀ {S : Store} {Q : D → Store → Prop}, wp (opSem .tup []) S Q = Q (.tup []) S := wp_tup (Nat.zero_le _)
  obtain ⟨ys, e, hx⟩ := heap_tup hh
  cases e
  have okt : okD (.tup xs) (.tup []) = true := by
    unfold okD
    rw [part_dat hh]
    show (true && true && decide (min (D.tup xs).dep 1 ≤ many)) = true
    simp only [Bool.and_true, Bool.true_and]
    exact decide_eq_true (Nat.le_trans (Nat.min_le_right _ _) (by show 1 ≤ 200; omega))
  unfold go
  rw [show k + 90 = (k + 89) + 1 by omega, wp_run (fn := ⟨1, 2, b18⟩) rfl rfl]
  show wp (execs _ (go (k + 89)) b18 [.val (.tup xs), .no]) S _ = _
  unfold b18
  rw [wp_xret]
  simp only [wp_read, wp_fitF]
  rw [wp_ife]
  rw [wp_op, wp_cons, wp_varM]
  simp only [wp_cons, wp_nil, wp_op, wp_const, Fr.env, Bool.false_eq_true, if_false, List.map_cons, List.map_nil, List.getElem?_cons_zero, Slot.str, t0, wp_cmp, wp_eq_ okt, eqD_unit, wp_truthB]
  rw [D.dep] at hd
  have j := wp_htext (gl := glOf globs) (prog := prog) (S := S) (Q := fun d S => Q d S) (n := 40) (k := k + 48) lpAt brkB hx hh (by omega) (by omega)
  rw [show 40 + 1 + (k + 48) = k + 89 by omega] at j
  unfold T_
  cases xs with
  | nil =>
    simp only [List.isEmpty_nil, if_true, dash]
  | cons y ys =>
    simp only [List.isEmpty_cons, Bool.false_eq_true, if_false]
    rw [if_neg (by simp)]
    rw [← j, wp_op, wp_cons, wp_const]
    simp only [wp_cons, wp_nil]
theorem x_read {xs : List D} (hh : heapB (.tup xs) = true) (hd : (D.tup xs).dep ≤ 40) (hz : D.szs xs ≤ 8000) (q : Q (.tup xs) S) : wp (go (k + 90) 9 [.str (mkS (T_ xs))]) S Q := by
  have t0 : ∀ {S : Store} {Q : D → Store → Prop}, wp (opSem .tup []) S Q = Q (.tup []) S := wp_tup (Nat.zero_le _)
  obtain ⟨ys, e, hx⟩ := heap_tup hh
  cases e
  have hd' : D.deps xs ≤ 39 := by
    rw [D.dep] at hd
    omega
  have hlen := (tx_len _ (.tup xs) (Nat.le_refl _)).2 hh
  rw [txH, D.sz] at hlen
  have hdeep : ((T_ xs).foldl dstep (0, 0)).2 ≤ 60 := by
    unfold T_
    split
    · decide
    · obtain ⟨m', e, g⟩ := deep_txs 39 xs 0 0 hx hd'
      rw [e]
      show m' ≤ 60
      rcases g with g | g <;> omega
  unfold go
  rw [show k + 90 = (k + 89) + 1 by omega, wp_run (fn := ⟨1, 3, b9⟩) rfl rfl]
  show wp (execs _ (go (k + 89)) b9 [.val (.str (mkS (T_ xs))), .no, .no]) S _
  unfold b9
  rw [wp_xif0]
  simp only [wp_read, wp_fitF, wp_boolE, wp_bool2, wp_bool1, wp_not, wp_op, wp_call, wp_cons, wp_nil, wp_varM, wp_const, Fr.env, Bool.false_eq_true, if_false, List.map_cons, List.map_nil, List.getElem?_cons_zero, Slot.str]
  rw [wp_isi rfl]
  have e1 : isD .str (.str (mkS (T_ xs))) = true := rfl
  simp only [e1, wp_truthB, Bool.not_true, Bool.false_eq_true, if_false, if_true]
  refine wp_deep (k := k + 88) deepAt ?_
  have g2 : glOf globs 2 = some (.int 60) := rfl
  rw [wp_glob g2, wp_cmp, wp_gtI]
  simp only [wp_truthB]
  rw [if_neg (by simpa using hdeep)]
  rw [wp_xif0]
  simp only [wp_read, wp_fitF, wp_op, wp_cons, wp_nil, wp_varM, wp_const, Fr.env, Bool.false_eq_true, if_false, List.map_cons, List.map_nil, List.getElem?_cons_zero, Slot.str, wp_cmp, wp_eq_ okSS, eqD_str, wp_truthB, dash, mkS_inj]
  by_cases hn : xs = []
  · subst hn
    have e45 : T_ [] = [45] := rfl
    rw [e45, if_pos (by simp)]
    simp only [wp_xret, wp_read, wp_fitF, wp_op, wp_nil, t0]
    exact q
  · have eT : T_ xs = txs xs := if_neg hn
    have n45 : ¬ txs xs = [45] := by
      cases xs with
      | nil => exact absurd rfl hn
      | cons y r =>
        obtain ⟨i2, c2, s2, _, _, g1, g2, _, ht⟩ := txP_cons (hx y List.mem_cons_self)
        rw [txs, ht]
        intro z
        simp at z
    rw [eT, if_neg (by simpa using n45)]
    rw [wp_xasg]
    simp only [wp_read, wp_call, wp_cons, wp_nil, wp_varM, wp_const, Fr.env, Bool.false_eq_true, if_false, List.map_cons, List.map_nil, List.getElem?_cons_zero, Slot.str]
    have hxl := txs_len hx
    have hw := wp_parts (gl := glOf globs) (prog := prog) (il := 1) (pa := 7) (el := .glob 1) rfl (isGlob rfl) patAt 39 (k + 48) xs [] [] hx hd' (.inl rfl) (by simp; omega) (by omega) S
    simp only [List.nil_append, List.append_nil, List.length_nil, Nat.zero_add, Int.ofNat_zero] at hw
    refine wp_fuel (show 39 + 2 + (k + 48) = k + 89 by omega) (hw _ ?_)
    rw [wp_fitF]
    have hst : storeT (.tup [.name 1, .name 2]) (.tup [.tup xs, .int ((txs xs).length : Nat)]) [Slot.val (.str (mkS (txs xs))), .no, .no] = some [.val (.str (mkS (txs xs))), .val (.tup xs), .val (.int ((txs xs).length : Nat))] := rfl
    rw [hst]
    simp only []
    have okt : okD (.tup xs) (.tup []) = true := by
      unfold okD
      rw [part_dat hh]
      show (true && true && decide (min (D.tup xs).dep 1 ≤ many)) = true
      simp only [Bool.and_true, Bool.true_and]
      exact decide_eq_true (Nat.le_trans (Nat.min_le_right _ _) (by show 1 ≤ 200; omega))
    have hne : xs.isEmpty = false := by
      cases xs with
      | nil => exact absurd rfl hn
      | cons _ _ => rfl
    have hp := (wp_heap HF 40 (k + 6) (.tup xs) (part_dat hh) hd (by show 40 ≤ 200; omega)).1
    rw [hh, show 2 * 40 + 3 + (k + 6) = k + 89 by omega] at hp
    rw [wp_xif0]
    simp only [wp_read, wp_fitF, wp_boolE, wp_bool2, wp_bool1, wp_not, wp_op, wp_call, wp_cons, wp_nil, wp_varM, wp_const, Fr.env, Bool.false_eq_true, if_false, List.map_cons, List.map_nil, List.getElem?_cons_zero, List.getElem?_cons_succ, Slot.str, t0, wp_cmp, wp_eq_ okt, eqD_unit, hne, wp_truthB, wp_lenS, mkS_len, wp_neI, hp, decide_true, Bool.not_true, Bool.false_eq_true, if_false, wp_xret, Bool.false_eq_true]
    exact q
theorem clns_ints : ∀ ns : List Int, D.clns (ns.map D.int) = true
  | [] => rfl
  | n :: ns => by
    rw [List.map_cons, D.clns, clns_ints ns]
    rfl
theorem x_bag {ns : List Int} (q : ∀ S', Bag [] S' → Q (.loc 0) S') : wp (go 99 10 [.scr (ns.map D.int)]) [] Q := by
  unfold go
  rw [wp_run (fn := ⟨1, 1, b10⟩) rfl rfl]
  show wp (execs _ (go 98) b10 [.val (.scr (ns.map D.int))]) [] _
  simp only [b10, wp_xret, wp_read, wp_fitF, wp_alloc, wp_op, wp_cons, wp_nil, wp_varM, wp_const, Fr.env, Bool.false_eq_true, if_false, List.map_cons, List.map_nil, List.getElem?_cons_zero, Slot.str, wp_slTR (show (0 : Int) ≤ 63 by omega), wp_listL]
  rw [if_pos]
  · refine q _ ⟨ns.take 63, 0, 0, 5617, ?_, by omega, by omega, by omega, by omega⟩
    rw [List.map_take]
    rfl
  · refine ⟨by show 4 ≤ 16777216; omega, ?_⟩
    rw [← List.map_take]
    simp only [D.clns, D.cln, clns_ints]
    rfl
theorem wp_callK {gl : Nat → Option D} {cal : Nat → List D → M D} {f n : Nat} {ks : List Str} {perm : List Nat} {es kes : List E} {env : Z.Env} : wp (evalE gl cal (.callK f n ks perm es kes) env) S Q = wp (evalEs gl cal es env) S fun us S => wp (evalEs gl cal kes env) S fun ws S => wp (cal f (plc n ks.length perm us ws)) S Q := by
  simp only [evalE, wp_bind]
theorem read0a (q : Q (.tup []) S) : wp (go 99 9 [.str "-"]) S Q := by
  have hx0 : heapB (.tup []) = true := by simp [heapB, partsB, adjLe]
  have h := x_read (k := 9) (S := S) (Q := Q) hx0 (by show 1 ≤ 40; omega) (by show 0 ≤ 8000; omega) q
  have e45 : T_ [] = [45] := rfl
  rw [e45, ← dash] at h
  exact h
theorem read0 (S : Store) (Q : D → Store → Prop) : wp (go 99 9 [.str "-"]) S Q = Q (.tup []) S := by
  refine propext ⟨fun h => ?_, read0a⟩
  obtain ⟨d, S2, e, hq⟩ := wp_ok h
  obtain ⟨d', S3, e', h1, h2⟩ := wp_ok (read0a (S := S) (Q := fun d S4 => d = .tup [] ∧ S4 = S) ⟨rfl, rfl⟩)
  rw [h1, h2, e] at e'
  cases e'
  exact hq
theorem law_ok {ns : List Int} : wp (go 100 19 [.scr (ns.map D.int)]) [] fun d _ => d = .bl true := by
  have t0 : ∀ {S : Store} {Q : D → Store → Prop}, wp (opSem .tup []) S Q = Q (.tup []) S := wp_tup (Nat.zero_le _)
  have l2 : ∀ {S : Store} {Q : D → Store → Prop} {a b : D}, wp (opSem .lst [a, b]) S Q = Q (.lst [a, b]) S := wp_lst (by show 2 ≤ 16777216; omega)
  have l3 : ∀ {S : Store} {Q : D → Store → Prop} {a b c : D}, wp (opSem .lst [a, b, c]) S Q = Q (.lst [a, b, c]) S := wp_lst (by show 3 ≤ 16777216; omega)
  have t2 : ∀ {S : Store} {Q : D → Store → Prop} {a b : D}, wp (opSem .tup [a, b]) S Q = Q (.tup [a, b]) S := wp_tup (by show 2 ≤ 16777216; omega)
  have t1 : ∀ {S : Store} {Q : D → Store → Prop} {a : D}, wp (opSem .tup [a]) S Q = Q (.tup [a]) S := wp_tup (by show 1 ≤ 16777216; omega)
  have t3 : ∀ {S : Store} {Q : D → Store → Prop} {a b c : D}, wp (opSem .tup [a, b, c]) S Q = Q (.tup [a, b, c]) S := wp_tup (by show 3 ≤ 16777216; omega)
  unfold go
  rw [wp_run (fn := ⟨1, 4, b19⟩) rfl rfl]
  show wp (execs _ (go 99) b19 [.val (.scr (ns.map D.int)), .no, .no, .no]) [] _
  unfold b19
  rw [wp_xasgN]
  simp only [wp_read, wp_fitF, wp_call, wp_cons, wp_nil, wp_varM, Fr.env, Bool.false_eq_true, if_false, List.map_cons, List.map_nil, List.getElem?_cons_zero, Slot.str]
  refine x_bag fun S1 hB1 => ?_
  rw [wp_xfor]
  simp only [wp_cons, wp_nil, wp_const]
  rw [wp_srcN ⟨by omega, by omega⟩]
  refine wp_loop (fun _ fr S => ∃ a2 a3, fr = [.val (.scr (ns.map D.int)), .val (.loc 0), a2, a3] ∧ Bag [] S) _ 0 _ _ ⟨_, _, rfl, hB1⟩ ?_ ?_
  · rintro j x fr S _ ⟨a2, a3, rfl, hB⟩
    have hs : storeT (.name 2) x [.val (.scr (ns.map D.int)), .val (.loc 0), a2, a3] = some [.val (.scr (ns.map D.int)), .val (.loc 0), .val x, a3] := rfl
    rw [hs]
    simp only []
    rw [wp_xasgN]
    simp only [wp_read, wp_fitF, wp_call, wp_cons, wp_nil, wp_varM, wp_const, Fr.env, Bool.false_eq_true, if_false, List.map_cons, List.map_nil, List.getElem?_cons_zero, List.getElem?_cons_succ, Slot.str]
    refine wp_any2 (k := 78) (M := 14) pullAt ofAt builtAt drawAt anyAt (fun c hc => hc) (by decide +kernel) (by decide +kernel) (by omega) hB fun v S' hB' hv hf hz => ?_
    obtain ⟨xs, rfl, hx⟩ := heap_tup hv
    rw [D.sz] at hz
    have hd : (D.tup xs).dep ≤ 40 := Nat.le_trans hf.dep (by omega)
    have ht : ∀ (S : Store) (Q : D → Store → Prop), wp (go 99 6 [.tup xs]) S Q = Q (.str (mkS (T_ xs))) S := fun S Q => x_htext (k := 9) hv hd (by omega)
    have hl : ∀ (S : Store) (Q : D → Store → Prop), wp (go 99 18 [.tup xs]) S Q = Q (.str (mkS (T_ xs))) S := fun S Q => x_ltext (k := 9) hv hd (by omega)
    have hr : ∀ (S : Store) (Q : D → Store → Prop), wp (go 99 9 [.str (mkS (T_ xs))]) S Q = Q (.tup xs) S := fun S Q => propext ⟨fun h => by
        obtain ⟨d, S2, e, hq⟩ := wp_ok h
        obtain ⟨d', S3, e', h1, h2⟩ := wp_ok (x_read (k := 9) (S := S) (Q := fun d S4 => d = .tup xs ∧ S4 = S) hv hd (by omega) ⟨rfl, rfl⟩)
        subst h1 h2
        rw [e] at e'
        cases e'
        exact hq, fun h => x_read (k := 9) hv hd (by omega) h⟩
    have sm1 : ∀ (S : Store) (Q : D → Store → Prop), wp (go 99 13 [.lst [.str (mkS (T_ xs)), .tup xs], .lst [.str (mkS (T_ xs)), .tup xs]]) S Q = Q (.bl true) S := wp_same (gl := glOf globs) sameAt 45 53 (.lst [.str (mkS (T_ xs)), .tup xs]) (by simp only [D.dat, D.dats, part_dat hv, Bool.and_true]; exact hf.dat) (by rw [D.dep, D.deps, D.deps, D.deps]; have : (D.str (mkS (T_ xs))).dep = 0 := rfl; omega) (by show 45 ≤ 200; omega)
    have sm2 : ∀ (S : Store) (Q : D → Store → Prop), wp (go 99 13 [.tup xs, .tup xs]) S Q = Q (.bl true) S := wp_same (gl := glOf globs) sameAt 45 53 (.tup xs) hf.dat (by omega) (by show 45 ≤ 200; omega)
    have hk : ∀ v : D, plc 0 1 [0] [] [v] = [v] := fun _ => rfl
    simp only [wp_xif0, wp_read, wp_fitF, wp_not, wp_op, wp_call, wp_callK, wp_cons, wp_nil, wp_varM, wp_const, Fr.env, Bool.false_eq_true, if_false, List.map_cons, List.map_nil, List.set_cons_zero, List.set_cons_succ, List.getElem?_cons_zero, List.getElem?_cons_succ, Slot.str, ht, hl, hr, l2, sm1, sm2, wp_truthB, Bool.not_true, List.length_cons, List.length_nil, Nat.zero_add, hk, wp_x0]
    exact ⟨_, _, rfl, hB'⟩
  · rintro fr S ⟨a2, a3, rfl, hB⟩
    have hx0 : heapB (.tup []) = true := by simp [heapB, partsB, adjLe]
    have h3 : heapB (.tup [.tup [.int 1, .str "a", .tup [.tup [.int 2, .str "b", .tup []]]], .tup [.int 1, .str "c", .tup []]]) = true := by decide +kernel
    have e0 : ∀ (S : Store) (Q : D → Store → Prop), wp (go 99 6 [.tup []]) S Q = Q (.str "-") S := fun S Q => by
      rw [dash]
      exact x_htext (k := 9) hx0 (by decide) (by decide)
    have e3 : ∀ (S : Store) (Q : D → Store → Prop), wp (go 99 6 [.tup [.tup [.int 1, .str "a", .tup [.tup [.int 2, .str "b", .tup []]]], .tup [.int 1, .str "c", .tup []]]]) S Q = Q (.str "1a(2b)1c") S := fun S Q => by
      have e : ("1a(2b)1c" : Str) = mkS (T_ [.tup [.int 1, .str "a", .tup [.tup [.int 2, .str "b", .tup []]]], .tup [.int 1, .str "c", .tup []]]) := by decide +kernel
      rw [e]
      exact x_htext (k := 9) h3 (by decide +kernel) (by decide +kernel)
    have sm : ∀ (S : Store) (Q : D → Store → Prop), wp (go 99 13 [.lst [.str "-", .tup [], .str "1a(2b)1c"], .lst [.str "-", .tup [], .str "1a(2b)1c"]]) S Q = Q (.bl true) S := wp_same (gl := glOf globs) sameAt 45 53 _ rfl (by decide) (by show 45 ≤ 200; omega)
    have er' : ∀ (S : Store) (Q : D → Store → Prop), wp (go 99 9 [.str "-"]) S Q = Q (.tup []) S := read0
    simp only [wp_xret, wp_read, wp_fitF, wp_op, wp_call, wp_cons, wp_nil, wp_const, t0, t1, t2, t3, e0, e3, er', l3, sm]
theorem pure_ : ∀ ns : List Int, ns.length ≤ 63 → ∃ S, run (glOf globs) (ents.map Ent.fn) 100 19 [.scr (ns.map D.int)] [] = .ok (.bl true) S := fun ns _ => by
  obtain ⟨d, S, h, rfl⟩ := wp_ok (law_ok (ns := ns))
  exact ⟨S, h⟩
end
end K07

set_option maxHeartbeats 0
namespace K07
open PySem PySem.Spec PyProof.Rows L2 Z
theorem bind0 : BindP e0 := fun _ _ _ _ _ _ us hl => match us, hl with | [_, _, _], _ => rfl
theorem bind1 : BindP e1 := fun _ _ _ _ _ _ us hl => match us, hl with | [_], _ => rfl
theorem bind2 : BindP e2 := fun _ _ _ _ _ _ us hl => match us, hl with | [_], _ => rfl
theorem bind3 : BindP e3 := fun _ _ _ _ _ _ us hl => match us, hl with | [_], _ => rfl
theorem bind4 : BindP e4 := fun _ _ _ _ _ _ us hl => match us, hl with | [_], _ => rfl
theorem bind5 : BindP e5 := fun _ _ _ _ _ _ us hl => match us, hl with | [_], _ => rfl
theorem bind6 : BindP e6 := fun _ _ _ _ _ _ us hl => match us, hl with | [_], _ => rfl
theorem bind7 : BindP e7 := fun _ _ _ _ _ _ us hl => match us, hl with | [_, _], _ => rfl
theorem bind8 : BindP e8 := fun _ _ _ _ _ _ us hl => match us, hl with | [_], _ => rfl
theorem bind9 : BindP e9 := fun _ _ _ _ _ _ us hl => match us, hl with | [_], _ => rfl
theorem bind10 : BindP e10 := fun _ _ _ _ _ _ us hl => match us, hl with | [_], _ => rfl
theorem bind11 : BindP e11 := fun _ _ _ _ _ _ us hl => match us, hl with | [_, _], _ => rfl
theorem bind12 : BindP e12 := fun _ _ _ _ _ _ us hl => match us, hl with | [_, _], _ => rfl
theorem bind13 : BindP e13 := fun _ _ _ _ _ _ us hl => match us, hl with | [_, _], _ => rfl
theorem bind14 : BindP e14 := fun _ _ _ _ _ _ us hl => match us, hl with | [_, _], _ => rfl
theorem bind15 : BindP e15 := fun _ _ _ _ _ _ us hl => match us, hl with | [_, _, _, _, _], _ => rfl
theorem bind16 : BindP e16 := fun _ _ _ _ _ _ us hl => match us, hl with | [_, _, _, _], _ => rfl
theorem bind17 : BindP e17 := fun _ _ _ _ _ _ us hl => match us, hl with | [_], _ => rfl
theorem bind18 : BindP e18 := fun _ _ _ _ _ _ us hl => match us, hl with | [_], _ => rfl
theorem bind19 : BindP e19 := fun _ _ _ _ _ _ us hl => match us, hl with | [_], _ => rfl
theorem bindK0 : BindK e6 0 ["heap"] [0] := ⟨by decide, fun _ _ _ _ _ _ us ws h1 h2 => match us, h1, ws, h2 with | [], _, [_], _ => rfl⟩
theorem bindK1 : BindK e9 0 ["text"] [0] := ⟨by decide, fun _ _ _ _ _ _ us ws h1 h2 => match us, h1, ws, h2 with | [], _, [_], _ => rfl⟩
theorem bindKs : ∀ f n ks perm, (f, n, ks, perm) ∈ kws → ∀ e, ents[f]? = some e → BindK e n ks perm := fun f n ks perm h e he => by
  simp only [kws, List.mem_cons, List.not_mem_nil, or_false, Prod.mk.injEq] at h
  rcases h with ⟨rfl, rfl, rfl, rfl⟩ | ⟨rfl, rfl, rfl, rfl⟩
  · cases he; exact bindK0
  · cases he; exact bindK1
theorem binds : ∀ (i : Nat) (e : Ent), ents[i]? = some e → BindP e := fun i e h => match i, h with
  | 0, h => by cases h; exact bind0
  | 1, h => by cases h; exact bind1
  | 2, h => by cases h; exact bind2
  | 3, h => by cases h; exact bind3
  | 4, h => by cases h; exact bind4
  | 5, h => by cases h; exact bind5
  | 6, h => by cases h; exact bind6
  | 7, h => by cases h; exact bind7
  | 8, h => by cases h; exact bind8
  | 9, h => by cases h; exact bind9
  | 10, h => by cases h; exact bind10
  | 11, h => by cases h; exact bind11
  | 12, h => by cases h; exact bind12
  | 13, h => by cases h; exact bind13
  | 14, h => by cases h; exact bind14
  | 15, h => by cases h; exact bind15
  | 16, h => by cases h; exact bind16
  | 17, h => by cases h; exact bind17
  | 18, h => by cases h; exact bind18
  | 19, h => by cases h; exact bind19
  | k + 20, h => by cases h
theorem oks : ents.all (Ent.ok (cfOf ents globs kws)) = true := by decide +kernel
theorem globsOk : globs.all globOk = true := by decide +kernel
abbrev R : PySem.W.OpenRow := PySem.W.OpenLaw.row PySem.Challenge.rw_shownagain_k07_whole_texts_of_heaps
abbrev hk : PySem.W.Hook := He.hookD 4 (faOf ents globs) (ents.map Ent.dd)
def ob (s : PySem.W.SharedT) : He.AlD := He.obsDG 4 (faOf ents globs) (ents.map Ent.dd) (HandSHeadRun.getT s)
theorem ob_eq (s : PySem.W.SharedT) : ob s = hk.obs s.abs := He.obsDG_eq (HandSHeadRun.getT_eq s)
def loose : List PySem.Str := ["__name__", "HeapError", "ValueError", "InvalidHeap", "InvalidText", "STRENGTHS", "LETTERS", "is_within", "is_letter", "is_part", "is_heap", "need_heap", "DEEPEST", "part_text", "heap_text", "parts_at", "deepest_bracket", "read_heap", "_law_bag", "_law_pull", "_law_of", "_law_same", "_law_built", "_law_heap", "_law_any_heap", "_law_part_text", "_law_text"]
theorem runs (w : World) : HandSHeadRun.RunEq R (PySem.W.view R.prog [29]) hk ob 4000 loose w := by
  intro os
  kernel_rfl
theorem facts {P : Program} {w : World} {K : PySem.W.Frag} {h : Heap} {mg : Str → Option Value} {f : Addr} (X : K.In h) (G : h.Ns mainGlobals mg) (hfa : mg ("law" : Str) = some (.ref f)) (c : He.SaysD (faOf ents globs) (ents.map Ent.dd) K) :
    ∃ fd : FuncData, (∀ (s : Shared) (v : Value), BindsTo s fd ⟨[v], []⟩ [("_law_script", v)]) ∧ ∀ base : Heap, K.In base → base.Ns mainGlobals mg → FnOk P w K mg base CX0 (lvl 100) f fd ["_law_script"] (spD K 1 (run (glOf globs) (ents.map Ent.fn) 100 19)) := by
  have m := modOk_of (ents := ents) (globs := globs) (kws := kws) X G c binds bindKs oks globsOk
  obtain ⟨fa, fd, d⟩ := m.defs 19 e19 rfl
  have e := hfa.symm.trans d.mgf
  cases e
  have b := FunD.bindsA (ps := ["_law_script"]) d.F bind19
  exact ⟨fd, fun s v => b s [v] rfl, fun base _ _ => all_ok m 100 19 e19 f fd rfl d⟩
end K07
open PySem PySem.W PySem.Calls PyProof.Rows
theorem PySem.Challenge.cw_shownagain_k07_whole_texts_of_heaps_holds : PySem.Challenge.rw_shownagain_k07_whole_texts_of_heaps.Holds := by
  w_on; o_law
  refine HandSHeadRun.head_any (r := OpenLaw.row PySem.Challenge.rw_shownagain_k07_whole_texts_of_heaps) (q := view (OpenLaw.row PySem.Challenge.rw_shownagain_k07_whole_texts_of_heaps).prog [29]) (H := K07.hk) (ob := K07.ob) (M := 4000) (loose := K07.loose) (d := HandSHeadRun.topDef (OpenLaw.row PySem.Challenge.rw_shownagain_k07_whole_texts_of_heaps).prog 29) (kwd := []) K07.ob_eq
    (by kernel_rfl) (fun s => by kernel_rfl) K07.runs (by kernel_rfl) (by kernel_rfl) (by kernel_rfl) (by rfl) (by first | assumption | decide +kernel) (by decide +kernel) ⟨rfl, rfl, rfl, rfl, rfl, by decide +kernel⟩ ?hw ?hc
  case hw => w_witness2
  case hc =>
    refine L2.walk_ofE (l := PySem.Challenge.rw_shownagain_k07_whole_texts_of_heaps) (n := 63) (k := Z.lvl 100) (x := "_law_script") (CX := L2.CX0) rfl (by decide) (by kernel_rfl) ⟨rfl, by decide, by decide⟩ ?F (fun _ _ _ _ z => z)
    intro w mg fa h Y G hmg0
    obtain ⟨K, KX, c⟩ := Y
    have hmg : mg ("law" : PySem.Str) = some (.ref fa) := by
      have e : (HandSHeadRun.topDef (OpenLaw.row PySem.Challenge.rw_shownagain_k07_whole_texts_of_heaps).prog 29).name = ("law" : PySem.Str) := by kernel_rfl
      rw [← e]
      exact hmg0
    obtain ⟨fd, hb, hF⟩ := K07.facts (P := (PySem.Challenge.rw_shownagain_k07_whole_texts_of_heaps).prog) (w := w) KX G hmg c
    exact ⟨K, fd, _, KX, hb, fun H a ns hl _ hS => Z.law_sp (Nat.le_trans hl (by decide)) hS (K07.pure_ ns hl) (fun _ => rfl), hF⟩


